import PyProof.Rows.All
import Wide.All
import OpenK.AllK
import Wide.FinOn
import HandS.ForMost
import KE.RegKSuper
import HandS.Exc
import HandS.ExcOwn
import HandS.CallSlots
import HandS.Wide
import PySem.Str
import HandS.TupAny
import HandS.TupMul
import HandS.ListEq
import HandS.DictEq
import HandS.DeepEq
import PyProof.NeKinds
import KE.KEqDict
import HandS.Text
import HandS.Dict
import HandS.Star
import HandS.Flow
import HandS.Style
import HandS.More
import HandS.Conv
import HandS.IsInst
import HandS.Walk
import HandS.Zip
import HandS.DictComp
import PyProof.AutoSeq1
import KE.KExcSuper
import KE.KSuper
import HandS.ExcInit
import HandS.Nested
import HandS.ClsMeth
import HandS.ExcField
import PyProof.DictUpdate
import HandS.Set
import HandS.SetKeys
import HandS.Strs
import HandS.Iter
import HandS.ListItems
import HandS.Keys
import HandS.SortOrd
import KE.KItemsList
import HandS.Ends
import HandS.TryOnly
import PyProof.SetRoads
import PySem.Challenge.RW_sealedstore_k04_whole_recipes
section
/-! Rx core: pure data, a small syntax, its evaluator. Plain Lean. -/
set_option autoImplicit false
namespace Rx

/-! ### data -/
inductive PV where
  | non | bl (b : Bool) | int (i : Int) | str (s : List Nat)
  | tup (xs : List PV) | lst (xs : List PV) | dct (kvs : List (PV × PV)) | set (xs : List PV)
  deriving Inhabited

/-- the longest list, tuple, text -/
def LIM : Nat := 16777216

def eqN : List Nat → List Nat → Bool
  | [], [] => true
  | a :: x, b :: y => Nat.beq a b && eqN x y
  | _, _ => false
def ltN : List Nat → List Nat → Bool
  | [], [] => false
  | [], _ :: _ => true
  | _ :: _, [] => false
  | a :: x, b :: y => if Nat.blt a b then true else if Nat.beq a b then ltN x y else false
def b2i (b : Bool) : Int := if b then 1 else 0

mutual
/-- Python's == on data -/
def eqv : PV → PV → Bool
  | .non, .non => true
  | .bl a, .bl b => a == b
  | .int a, .int b => decide (a = b)
  | .bl a, .int b => decide (b2i a = b)
  | .int a, .bl b => decide (a = b2i b)
  | .str a, .str b => eqN a b
  | .tup a, .tup b => eqvL a b
  | .lst a, .lst b => eqvL a b
  | .dct a, .dct b => Nat.beq a.length b.length && eqvD a b
  | _, _ => false
def eqvL : List PV → List PV → Bool
  | [], [] => true
  | x :: xs, y :: ys => eqv x y && eqvL xs ys
  | _, _ => false
def eqvD : List (PV × PV) → List (PV × PV) → Bool
  | [], _ => true
  | (k, v) :: r, ys => eqvG k v ys && eqvD r ys
def eqvG (k v : PV) : List (PV × PV) → Bool
  | [] => false
  | (a, u) :: r => if eqv k a then eqv v u else eqvG k v r
end

def dget (k : PV) : List (PV × PV) → Option PV
  | [] => none
  | (a, v) :: r => if eqv a k then some v else dget k r
def dput (k v : PV) : List (PV × PV) → List (PV × PV)
  | [] => [(k, v)]
  | (a, u) :: r => if eqv a k then (a, v) :: r else (a, u) :: dput k v r
def ddel (k : PV) : List (PV × PV) → List (PV × PV)
  | [] => []
  | (a, u) :: r => if eqv a k then r else (a, u) :: ddel k r
def dmerge (kvs : List (PV × PV)) : List (PV × PV) → List (PV × PV)
  | [] => kvs
  | (k, v) :: r => dmerge (dput k v kvs) r

def eqKL (f : PV → PV → Bool) : List PV → List PV → Bool
  | x :: xs, y :: ys => f x y && eqKL f xs ys
  | _, _ => true
def eqKD (f : PV → PV → Bool) (ys : List (PV × PV)) : List (PV × PV) → Bool
  | [] => true
  | (k, v) :: r => (match dget k ys with | none => true | some u => f v u) && eqKD f ys r
/-- is == known (no deeper than n) -/
def eqK : Nat → PV → PV → Bool
  | 0 => fun _ _ => false
  | n + 1 => fun a b => match a, b with
    | .tup x, .tup y => eqKL (eqK n) x y
    | .lst x, .lst y => eqKL (eqK n) x y
    | .dct x, .dct y => eqKD (eqK n) y x
    | .dct _, _ => false
    | _, .dct _ => false
    | .set _, _ => false
    | _, .set _ => false
    | _, _ => true
def eqO (a b : PV) : Option Bool := if eqK 100 a b then some (eqv a b) else none
def memK (x : PV) : List PV → Bool
  | [] => true
  | y :: ys => eqK 100 y x && memK x ys

/-- what may be a key: ints, texts -/
def keyable : PV → Bool
  | .int _ => true
  | .str _ => true
  | _ => false
def keyableL : List PV → Bool
  | [] => true
  | x :: xs => keyable x && keyableL xs

mutual
/-- Python's <, where it is known -/
def ltO : PV → PV → Option Bool
  | .int a, .int b => some (decide (a < b))
  | .str a, .str b => some (ltN a b)
  | .tup a, .tup b => ltOL a b
  | .lst a, .lst b => ltOL a b
  | _, _ => none
def ltOL : List PV → List PV → Option Bool
  | [], [] => some false
  | [], _ :: _ => some true
  | _ :: _, [] => some false
  | x :: xs, y :: ys => if eqv x y then ltOL xs ys else ltO x y
end

def insO (x : PV) : List PV → Option (List PV)
  | [] => some [x]
  | y :: ys => match ltO y x with
    | none => none
    | some false => some (x :: y :: ys)
    | some true => match insO x ys with
      | none => none
      | some zs => some (y :: zs)
def sortO : List PV → Option (List PV)
  | [] => some []
  | x :: xs => match sortO xs with
    | none => none
    | some ys => insO x ys
def insK (p : PV × PV) : List (PV × PV) → Option (List (PV × PV))
  | [] => some [p]
  | y :: ys => match ltO y.1 p.1 with
    | none => none
    | some false => some (p :: y :: ys)
    | some true => match insK p ys with
      | none => none
      | some zs => some (y :: zs)
def sortK : List (PV × PV) → Option (List (PV × PV))
  | [] => some []
  | x :: xs => match sortK xs with
    | none => none
    | some ys => insK x ys

def memL (x : PV) : List PV → Bool
  | [] => false
  | y :: ys => if eqv y x then true else memL x ys
/-- the first ones of equal items, in order -/
def firsts : List PV → List PV → List PV
  | acc, [] => acc
  | acc, x :: xs => firsts (if memL x acc then acc else acc ++ [x]) xs

/-! ### values, the world of things that are changed in place -/
inductive Val where
  | d (v : PV)
  | o (n : Nat)
  | x (c : Nat) (fs : List PV)
  | f (n : Nat) (env : List PV)
  deriving Inhabited

inductive WO where
  | ins (c : Nat) (fs : List (Nat × Val))
  | ls (xs : List Val)
  | dc (kvs : List (PV × Val))
  deriving Inhabited
abbrev Wd := List WO

/-- an answer: a value and the world; an exception; not known -/
inductive R (α : Type) where
  | ok (a : α) (w : Wd)
  | ex (c : Nat) (fs : List PV) (w : Wd)
  | st
def R.bind {α β : Type} (r : R α) (k : α → Wd → R β) : R β :=
  match r with
  | .ok a w => k a w
  | .ex c fs w => .ex c fs w
  | .st => .st
@[simp] theorem R.bind_ok {α β : Type} (a : α) (w : Wd) (k : α → Wd → R β) : (R.ok a w).bind k = k a w := id rfl
@[simp] theorem R.bind_ex {α β : Type} (c : Nat) (fs : List PV) (w : Wd) (k : α → Wd → R β) : (R.ex c fs w).bind k = .ex c fs w := id rfl
@[simp] theorem R.bind_st {α β : Type} (k : α → Wd → R β) : (R.st : R α).bind k = .st := id rfl
def R.of {α : Type} (o : Option α) (w : Wd) : R α := match o with | some a => .ok a w | none => .st
@[simp] theorem R.of_some {α : Type} (a : α) (w : Wd) : R.of (some a) w = .ok a w := id rfl
@[simp] theorem R.of_none {α : Type} (w : Wd) : (R.of (none : Option α) w) = .st := id rfl
def dat (r : R Val) : R PV := r.bind fun v w => match v with | .d p => .ok p w | _ => .st
@[simp] theorem dat_ok (p : PV) (w : Wd) : dat (.ok (.d p) w) = .ok p w := id rfl
@[simp] theorem dat_st : dat .st = .st := id rfl
@[simp] theorem dat_ex (c : Nat) (fs : List PV) (w : Wd) : dat (.ex c fs w) = .ex c fs w := id rfl

/-! ### syntax -/
inductive BinO where | add | sub | mul | fdiv | mod | pow
  deriving DecidableEq
inductive CmpO where | eq | ne | lt | le | gt | ge | isn | notn | inn | nin
  deriving DecidableEq
inductive Bi where
  | len | tuple | list | dict | set | sorted | all | any | sum | sumL | max | min | str | int | repr | isStr | isInt | isBool | isTuple | isList | isDict
  deriving DecidableEq
inductive Me where
  | get | get2 | join | split | count | index
  deriving DecidableEq
/-- targets of plain names -/
inductive Tg where
  | nm (i : Nat)
  | tp (is : List Nat)
mutual
inductive E where
  | cst (v : PV)
  | var (i : Nat)
  | glo (n : Nat)
  | tup (es : Es)
  | lst (es : Es)
  | dic (es : Es)
  | bin (o : BinO) (a b : E)
  | cmp (o : CmpO) (a b : E)
  | cmp2 (o p : CmpO) (a b c : E)
  | con (a b : E)
  | dis (a b : E)
  | nt (a : E)
  | neg (a : E)
  | ite (c a b : E)
  | ix (a b : E)
  | sl (a lo hi : E)
  | rv (a : E)
  | call (f : Nat) (es : Es)
  | bi (b : Bi) (a : E)
  | srt (a : E) (i : Nat) (k : E)
  | me (m : Me) (a : E) (es : Es)
  | lc (own : List Nat) (e : E) (g : Gs)
  | dc (own : List Nat) (k v : E) (g : Gs)
  | fld (a : E) (f : Nat)
  | mc (a : E) (m : Nat) (es : Es)
  | new (c : Nat) (es : Es)
  | rls (es : Es)
  | zip (a b : E)
  | enm (a : E)
  | rng (a b : E)
  | itm (a : E)
  | vls (a : E)
/-- items, starred or not -/
inductive Es where
  | nil
  | cons (star : Bool) (e : E) (r : Es)
inductive Gs where
  | nil
  | cons (t : Tg) (e : E) (ifs : Es) (g : Gs)
end
def isNoneE : E → Bool
  | .cst .non => true
  | _ => false
/-- one target of an assignment of several -/
inductive Tx where
  | nm (i : Nat)
  | sub (o k : E)
  | at (o : E) (f : Nat)
mutual
inductive S where
  | set (t : Tg) (e : E)
  | mov (j i : Nat)
  | par (is : List Nat) (es : Es)
  | asg (t : Tx) (e : E)
  | mul (ts : List Tx) (e : E)
  | exp (e : E)
  | app (o v : E)
  | ext (o v : E)
  | pop (t : Tg) (o : E)
  | dpop (o k : E)
  | upd (o v : E)
  | aug (i : Nat) (op : BinO) (e : E)
  | faug (o : E) (f : Nat) (op : BinO) (e : E)
  | ifs (c : E) (a b : Ss)
  | for (t : Tg) (e : E) (b : Ss)
  | whl (c : E) (b : Ss)
  | ret (e : E)
  | rse (c : Nat) (es : Es)
  | try (b : Ss) (h : Hs)
  | mat (e : E) (ms : Ms)
  | brk
  | pas
inductive Ss where
  | nil
  | cons (s : S) (r : Ss)
/-- except clauses: classes, the name's slot, the suite -/
inductive Hs where
  | nil
  | cons (cs : List Nat) (i : Option Nat) (b : Ss) (r : Hs)
/-- cases of a match: written values, or all -/
inductive Ms where
  | nil
  | cons (ks : Option (List PV)) (b : Ss) (r : Ms)
end

/-- a def: its parameters' number, their defaults, whether the last one takes the rest, its slots, its body -/
structure Fn where
  np : Nat
  dfl : List PV
  va : Bool
  nl : Nat
  body : Ss

/-- what is around: calls, constants, methods (class, name -> def), classes' fields of exceptions, turns of a while -/
structure Cx where
  call : Nat → List Val → Wd → R Val
  con : Nat → PV
  meth : Nat → Nat → Nat
  sub : Nat → Nat → Bool
  fuel : Nat

abbrev Env := List (Option Val)
def getv (ρ : Env) (i : Nat) : Option Val :=
  match ρ, i with
  | [], _ => none
  | a :: _, 0 => a
  | _ :: r, i + 1 => getv r i
def setv (ρ : Env) (i : Nat) (v : Option Val) : Env :=
  match ρ, i with
  | [], _ => []
  | _ :: r, 0 => v :: r
  | a :: r, i + 1 => a :: setv r i v
def wipe (ρ : Env) : List Nat → Env
  | [] => ρ
  | i :: r => setv (wipe ρ r) i none
def sets (ρ : Env) : List Nat → List PV → Option Env
  | [], [] => some ρ
  | i :: is, v :: vs => sets (setv ρ i (some (.d v))) is vs
  | _, _ => none
def bindT (ρ : Env) (t : Tg) (v : PV) : Option Env :=
  match t with
  | .nm i => some (setv ρ i (some (.d v)))
  | .tp is => match v with
    | .tup xs => sets ρ is xs
    | _ => none

/-! ### operations on data -/
def truth : PV → Bool
  | .non => false
  | .bl b => b
  | .int i => decide (i ≠ 0)
  | .str s => !s.isEmpty
  | .tup xs => !xs.isEmpty
  | .lst xs => !xs.isEmpty
  | .dct xs => !xs.isEmpty
  | .set xs => !xs.isEmpty
def big64 : Int := 18446744073709551616
def fits (n : Nat) : Bool := Nat.ble n LIM
def repL (n : Nat) (xs : List PV) : List PV := match n with | 0 => [] | n + 1 => xs ++ repL n xs
def repN (n : Nat) (xs : List Nat) : List Nat := match n with | 0 => [] | n + 1 => xs ++ repN n xs
def binop (o : BinO) (a b : PV) : Option PV :=
  match o, a, b with
  | .add, .int i, .int j => some (.int (i + j))
  | .add, .str x, .str y => if fits (x.length + y.length) then some (.str (x ++ y)) else none
  | .add, .tup x, .tup y => if fits (x.length + y.length) then some (.tup (x ++ y)) else none
  | .add, .lst x, .lst y => if fits (x.length + y.length) then some (.lst (x ++ y)) else none
  | .sub, .int i, .int j => some (.int (i - j))
  | .mul, .int i, .int j => if (-big64 < i ∧ i < big64) ∨ (-big64 < j ∧ j < big64) then some (.int (i * j)) else none
  | .mul, .lst x, .int j => if 0 ≤ j ∧ j ≤ 1000000 then (if fits (x.length * j.toNat) then some (.lst (repL j.toNat x)) else none) else none
  | .mul, .tup x, .int j => if 2 ≤ j ∧ j ≤ 1000 ∧ x ≠ [] ∧ x.length ≤ 1000 then some (.tup (repL j.toNat x)) else none
  | .fdiv, .int i, .int j => if 0 < j ∧ j.natAbs < 2 ^ 9000 then some (.int (i / j)) else none
  | .mod, .int i, .int j => if 0 < j then some (.int (i % j)) else none
  | .pow, .int i, .int j => if 0 ≤ j ∧ j ≤ 1000 ∧ i.natAbs < 18446744073709551616 then some (.int (i ^ j.toNat)) else none
  | _, _, _ => none
/-- is a (sub)text at the head -/
def isPre : List Nat → List Nat → Bool
  | [], _ => true
  | _, [] => false
  | a :: x, b :: y => Nat.beq a b && isPre x y
def hasSub (x : List Nat) : List Nat → Bool
  | [] => x.isEmpty
  | b :: y => isPre x (b :: y) || hasSub x y
def memN (c : Nat) : List Nat → Bool
  | [] => false
  | a :: r => Nat.beq a c || memN c r
def inO (a b : PV) : Option Bool :=
  match b with
  | .str y => match a with | .str [c] => some (memN c y) | _ => none
  | .tup ys => if memK a ys then some (memL a ys) else none
  | .lst ys => if memK a ys then some (memL a ys) else none
  | .dct kvs => if keyable a then some (dget a kvs).isSome else none
  | .set _ => none
  | _ => none
def ltS (a b : PV) : Option Bool :=
  match a, b with
  | .int i, .int j => some (decide (i < j))
  | .str x, .str y => some (ltN x y)
  | _, _ => none
def leO (a b : PV) : Option Bool :=
  match a, b with
  | .int i, .int j => some (decide (i ≤ j))
  | .str x, .str y => some (!ltN y x)
  | _, _ => none
def cmpop (o : CmpO) (a b : PV) : Option Bool :=
  match o with
  | .eq => eqO a b
  | .ne => (eqO a b).map (!·)
  | .lt => ltS a b
  | .gt => ltS b a
  | .le => leO a b
  | .ge => leO b a
  | .isn => match b with | .non => some (match a with | .non => true | _ => false) | _ => none
  | .notn => match b with | .non => some (match a with | .non => false | _ => true) | _ => none
  | .inn => inO a b
  | .nin => (inO a b).map (!·)
/-- the place that an index means -/
def place (i : Int) (n : Nat) : Option Nat :=
  if 0 ≤ i then (if i < n then some i.toNat else none) else if -(n : Int) ≤ i then some (i + n).toNat else none
def nthO {α : Type} : List α → Nat → Option α
  | [], _ => none
  | a :: _, 0 => some a
  | _ :: r, n + 1 => nthO r n
def index (a b : PV) : Option PV :=
  match a with
  | .dct kvs => if keyable b then dget b kvs else none
  | .tup xs => match b with | .int i => (place i xs.length).bind (nthO xs) | _ => none
  | .lst xs => match b with | .int i => (place i xs.length).bind (nthO xs) | _ => none
  | .str s => match b with | .int i => (place i s.length).bind fun n => (nthO s n).map fun c => .str [c] | _ => none
  | _ => none
/-- a slice's end as a place -/
def clip (i : Int) (n : Nat) : Nat := if i < 0 then (i + (n : Int)).toNat else min i.toNat n
def endO (v : Option Int) (dflt n : Nat) : Nat :=
  match v with
  | none => dflt
  | some i => clip i n
def cut {α : Type} (xs : List α) (a b : Nat) : List α := (xs.drop a).take (b - a)
def slice (a : PV) (lo hi : Option Int) : Option PV :=
  match a with
  | .tup xs => some (.tup (cut xs (endO lo 0 xs.length) (endO hi xs.length xs.length)))
  | .lst xs => some (.lst (cut xs (endO lo 0 xs.length) (endO hi xs.length xs.length)))
  | .str xs => some (.str (cut xs (endO lo 0 xs.length) (endO hi xs.length xs.length)))
  | _ => none
/-- a slice's end that is written -/
def partR (r : R Val) : R (Option Int) := (dat r).bind fun x w => match x with | .int i => .ok (some i) w | _ => .st
def ixV (x : Val) (y : PV) (w : Wd) : R Val :=
  match x with
  | .d x => R.of ((index x y).map .d) w
  | .o n => match nthO w n with
    | some (.ls xs) => (match y with | .int i => R.of ((place i xs.length).bind (nthO xs)) w | _ => .st)
    | _ => .st
  | _ => .st
def revd (a : PV) : Option PV :=
  match a with
  | .tup xs => some (.tup xs.reverse)
  | .lst xs => some (.lst xs.reverse)
  | .str xs => some (.str xs.reverse)
  | _ => none
/-- what a walk over it gives -/
def items (v : PV) : Option (List PV) :=
  match v with
  | .tup xs => some xs
  | .lst xs => some xs
  | .str s => some (s.map fun c => .str [c])
  | .dct kvs => some (kvs.map (·.1))
  | _ => none
def boolsO : List PV → Option (List Bool)
  | [] => some []
  | .bl b :: r => (boolsO r).map (b :: ·)
  | _ :: _ => none
def intsO : List PV → Option (List Int)
  | [] => some []
  | .int i :: r => (intsO r).map (i :: ·)
  | _ :: _ => none
def listsO : List PV → Option (List PV)
  | [] => some []
  | .lst x :: r => (listsO r).map (x ++ ·)
  | _ :: _ => none
def sumI : List Int → Int | [] => 0 | a :: r => a + sumI r
def maxI : Int → List Int → Int | a, [] => a | a, b :: r => maxI (if a < b then b else a) r
def minI : Int → List Int → Int | a, [] => a | a, b :: r => minI (if b < a then b else a) r
def pairsO : List PV → Option (List (PV × PV))
  | [] => some []
  | .tup [k, v] :: r => if keyable k then (pairsO r).map ((k, v) :: ·) else none
  | _ :: _ => none
def digitsN : Nat → Nat → List Nat → List Nat
  | 0, _, acc => acc
  | f + 1, n, acc => if n < 10 then (48 + n) :: acc else digitsN f (n / 10) ((48 + n % 10) :: acc)
def strI (i : Int) : List Nat := if i < 0 then 45 :: digitsN 600 i.natAbs [] else digitsN 600 i.natAbs []
def builtin (b : Bi) (v : PV) : Option PV :=
  match b with
  | .len => match v with
    | .str s => some (.int s.length) | .tup xs => some (.int xs.length) | .lst xs => some (.int xs.length) | .dct xs => some (.int xs.length) | .set xs => some (.int xs.length) | _ => none
  | .tuple => match v with
    | .tup xs => some (.tup xs)
    | .lst xs => some (.tup xs)
    | _ => none
  | .list => match v with
    | .tup xs => some (.lst xs)
    | .lst xs => some (.lst xs)
    | .dct kvs => some (.lst (kvs.map (·.1)))
    | _ => none
  | .dict => match v with
    | .dct kvs => some (.dct kvs)
    | .lst xs => (pairsO xs).map fun ps => .dct (dmerge [] ps)
    | _ => none
  | .set => match v with
    | .set _ => none
    | v => (items v).bind fun xs => if keyableL xs then some (.set (firsts [] xs)) else none
  | .sorted => match v with
    | .set xs => (sortO xs).map .lst
    | v => (items v).bind fun xs => (sortO xs).map .lst
  | .all => match v with | .lst xs => (boolsO xs).map fun bs => .bl (bs.all id) | _ => none
  | .any => match v with | .lst xs => (boolsO xs).map fun bs => .bl (bs.any id) | _ => none
  | .sum => match v with | .lst xs => (intsO xs).map fun is => .int (sumI is) | _ => none
  | .sumL => match v with | .lst xs => (listsO xs).bind fun ys => if fits ys.length then some (.lst ys) else none | _ => none
  | .max => match v with | .lst xs => (intsO xs).bind fun is => (match is with | [] => none | a :: r => some (.int (maxI a r))) | .tup xs => (intsO xs).bind fun is => (match is with | [] => none | a :: r => some (.int (maxI a r))) | _ => none
  | .min => match v with | .lst xs => (intsO xs).bind fun is => (match is with | [] => none | a :: r => some (.int (minI a r))) | .tup xs => (intsO xs).bind fun is => (match is with | [] => none | a :: r => some (.int (minI a r))) | _ => none
  | .str => match v with | .int i => if i.natAbs < 2 ^ 1000 then some (.str (strI i)) else none | .str s => some (.str s) | _ => none
  | .int => match v with | .int i => some (.int i) | .bl b => some (.int (b2i b)) | _ => none
  | .repr => none
  | .isStr => some (.bl (match v with | .str _ => true | _ => false))
  | .isInt => some (.bl (match v with | .int _ => true | .bl _ => true | _ => false))
  | .isBool => some (.bl (match v with | .bl _ => true | _ => false))
  | .isTuple => some (.bl (match v with | .tup _ => true | _ => false))
  | .isList => some (.bl (match v with | .lst _ => true | _ => false))
  | .isDict => some (.bl (match v with | .dct _ => true | _ => false))
def joinN (sep : List Nat) : List PV → Option (List Nat)
  | [] => some []
  | [.str s] => some s
  | .str s :: r => (joinN sep r).map fun t => s ++ sep ++ t
  | _ :: _ => none
def countL (x : PV) : List PV → Nat
  | [] => 0
  | y :: ys => if eqv y x then countL x ys + 1 else countL x ys
def indexL (x : PV) : List PV → Nat → Option Nat
  | [], _ => none
  | y :: ys, n => if eqv y x then some n else indexL x ys (n + 1)
def method (m : Me) (o : PV) (as : List PV) : Option PV :=
  match m, o, as with
  | .get, .dct kvs, [k] => if keyable k then some ((dget k kvs).getD .non) else none
  | .get2, .dct kvs, [k, d] => if keyable k then some ((dget k kvs).getD d) else none
  | .count, .lst xs, [x] => some (.int (countL x xs))
  | _, _, _ => none

def zipL : List PV → List PV → List PV
  | x :: xs, y :: ys => .tup [x, y] :: zipL xs ys
  | _, _ => []
def enumL : Nat → List PV → List PV
  | _, [] => []
  | n, x :: xs => .tup [.int n, x] :: enumL (n + 1) xs
def rangeL : Int → Nat → List PV
  | _, 0 => []
  | i, n + 1 => .int i :: rangeL (i + 1) n
def itemsL : List (PV × PV) → List PV
  | [] => []
  | (k, v) :: r => .tup [k, v] :: itemsL r

/-- one behind the other, what is made put together -/
def loopL {α β : Type} (f : α → Wd → R (List β)) : List α → Wd → R (List β)
  | [], w => .ok [] w
  | x :: xs, w => (f x w).bind fun ys w1 => (loopL f xs w1).bind fun zs w2 => .ok (ys ++ zs) w2
def valsD : List Val → Option (List PV)
  | [] => some []
  | .d v :: r => (valsD r).map (v :: ·)
  | _ :: _ => none
def noX : List Val → Bool
  | [] => true
  | .x _ _ :: _ => false
  | .f _ _ :: _ => false
  | _ :: r => noX r
def fieldO (f : Nat) : List (Nat × Val) → Option Val
  | [] => none
  | (g, v) :: r => if Nat.beq g f then some v else fieldO f r
def fieldP (f : Nat) (v : Val) : List (Nat × Val) → List (Nat × Val)
  | [] => [(f, v)]
  | (g, u) :: r => if Nat.beq g f then (g, v) :: r else (g, u) :: fieldP f v r

/-! ### expressions -/
mutual
def evE (c : Cx) (ρ : Env) : E → Wd → R Val
  | .cst v, w => .ok (.d v) w
  | .var i, w => R.of (getv ρ i) w
  | .glo n, w => .ok (.d (c.con n)) w
  | .tup es, w => (evEs c ρ es w).bind fun vs w => R.of (valsD vs) w |>.bind fun ds w => if fits ds.length then .ok (.d (.tup ds)) w else .st
  | .lst es, w => (evEs c ρ es w).bind fun vs w => R.of (valsD vs) w |>.bind fun ds w => if fits ds.length then .ok (.d (.lst ds)) w else .st
  | .rls es, w => (evEs c ρ es w).bind fun vs w => .ok (.o w.length) (w ++ [.ls vs])
  | .dic es, w => (evD c ρ es [] w).bind fun kvs w => if fits kvs.length then .ok (.d (.dct kvs)) w else .st
  | .bin o a b, w => (dat (evE c ρ a w)).bind fun x w => (dat (evE c ρ b w)).bind fun y w => R.of ((binop o x y).map .d) w
  | .cmp o a b, w => (dat (evE c ρ a w)).bind fun x w => (dat (evE c ρ b w)).bind fun y w => R.of ((cmpop o x y).map fun t => .d (.bl t)) w
  | .cmp2 o p a b d, w => (dat (evE c ρ a w)).bind fun x w => (dat (evE c ρ b w)).bind fun y w => (R.of (cmpop o x y) w).bind fun t w =>
      if t then (dat (evE c ρ d w)).bind fun z w => R.of ((cmpop p y z).map fun t => .d (.bl t)) w else .ok (.d (.bl false)) w
  | .con a b, w => (dat (evE c ρ a w)).bind fun x w => if truth x then evE c ρ b w else .ok (.d x) w
  | .dis a b, w => (dat (evE c ρ a w)).bind fun x w => if truth x then .ok (.d x) w else evE c ρ b w
  | .nt a, w => (dat (evE c ρ a w)).bind fun x w => .ok (.d (.bl (!truth x))) w
  | .neg a, w => (dat (evE c ρ a w)).bind fun x w => match x with | .int i => .ok (.d (.int (-i))) w | _ => .st
  | .ite t a b, w => (dat (evE c ρ t w)).bind fun x w => if truth x then evE c ρ a w else evE c ρ b w
  | .ix a b, w => (evE c ρ a w).bind fun x w => (dat (evE c ρ b w)).bind fun y w => ixV x y w
  | .sl a lo hi, w => (dat (evE c ρ a w)).bind fun x w => (if isNoneE lo then .ok none w else partR (evE c ρ lo w)).bind fun i w => (if isNoneE hi then .ok none w else partR (evE c ρ hi w)).bind fun j w => R.of ((slice x i j).map .d) w
  | .rv a, w => (dat (evE c ρ a w)).bind fun x w => R.of ((revd x).map .d) w
  | .call f es, w => (evEs c ρ es w).bind fun vs w => if noX vs then c.call f vs w else .st
  | .bi b a, w => (dat (evE c ρ a w)).bind fun x w => R.of ((builtin b x).map .d) w
  | .srt a i k, w => (dat (evE c ρ a w)).bind fun x w => (R.of (items x) w).bind fun xs w =>
      (loopL (fun y w => (dat (evE c (setv ρ i (some (.d y))) k w)).bind fun z w => .ok [(z, y)] w) xs w).bind fun ps w =>
        R.of ((sortK ps).map fun qs => .d (.lst (qs.map (·.2)))) w
  | .me m a es, w => (dat (evE c ρ a w)).bind fun x w => (evEs c ρ es w).bind fun vs w => (R.of (valsD vs) w).bind fun ds w => R.of ((method m x ds).map .d) w
  | .lc own e g, w => (evG c (wipe ρ own) (fun ρ w => (dat (evE c ρ e w)).bind fun v w => .ok [v] w) ρ g w).bind fun vs w => if fits vs.length then .ok (.d (.lst vs)) w else .st
  | .dc own k v g, w => (evG c (wipe ρ own) (fun ρ w => (dat (evE c ρ k w)).bind fun x w => (dat (evE c ρ v w)).bind fun y w => .ok [.tup [x, y]] w) ρ g w).bind fun ts w =>
      (R.of (pairsO ts) w).bind fun ps w => if fits ps.length then .ok (.d (.dct (dmerge [] ps))) w else .st
  | .fld a f, w => (evE c ρ a w).bind fun x w => match x with
    | .o n => (match nthO w n with | some (.ins _ fs) => R.of (fieldO f fs) w | _ => .st)
    | .x _ fs => R.of ((nthO fs f).map .d) w
    | _ => .st
  | .mc a m es, w => (evE c ρ a w).bind fun x w => (evEs c ρ es w).bind fun vs w => match x with
    | .o n => (match nthO w n with | some (.ins k _) => c.call (c.meth k m) (x :: vs) w | _ => .st)
    | _ => .st
  | .new k es, w => (evEs c ρ es w).bind fun vs w => (c.call (c.meth k 0) (.o w.length :: vs) (w ++ [.ins k []])).bind fun _ w' => .ok (.o w.length) w'
  | .zip a b, w => (dat (evE c ρ a w)).bind fun x w => (dat (evE c ρ b w)).bind fun y w => (R.of (items x) w).bind fun xs w => (R.of (items y) w).bind fun ys w => .ok (.d (.lst (zipL xs ys))) w
  | .enm a, w => (dat (evE c ρ a w)).bind fun x w => (R.of (items x) w).bind fun xs w => .ok (.d (.lst (enumL 0 xs))) w
  | .rng a b, w => (dat (evE c ρ a w)).bind fun x w => (dat (evE c ρ b w)).bind fun y w => match x, y with
    | .int i, .int j => if -1000000000 < i ∧ i < 1000000000 ∧ -1000000000 < j ∧ j < 1000000000 then .ok (.d (.lst (rangeL i (j - i).toNat))) w else .st
    | _, _ => .st
  | .itm a, w => (dat (evE c ρ a w)).bind fun x w => match x with | .dct kvs => .ok (.d (.lst (itemsL kvs))) w | _ => .st
  | .vls a, w => (dat (evE c ρ a w)).bind fun x w => match x with | .dct kvs => .ok (.d (.lst (kvs.map (·.2)))) w | _ => .st
def evEs (c : Cx) (ρ : Env) : Es → Wd → R (List Val)
  | .nil, w => .ok [] w
  | .cons false e r, w => (evE c ρ e w).bind fun v w => (evEs c ρ r w).bind fun vs w => .ok (v :: vs) w
  | .cons true e r, w => (dat (evE c ρ e w)).bind fun v w => (R.of (items v) w).bind fun xs w => (evEs c ρ r w).bind fun vs w => .ok (xs.map .d ++ vs) w
/-- a dict's display: key and value, or a starred dict -/
def evD (c : Cx) (ρ : Env) : Es → List (PV × PV) → Wd → R (List (PV × PV))
  | .nil, acc, w => .ok acc w
  | .cons true e r, acc, w => (dat (evE c ρ e w)).bind fun v w => match v with | .dct kvs => evD c ρ r (dmerge acc kvs) w | _ => .st
  | .cons false _ .nil, _, _ => .st
  | .cons false k (.cons _ e r), acc, w => (dat (evE c ρ k w)).bind fun x w => (dat (evE c ρ e w)).bind fun y w => if keyable x then evD c ρ r (dput x y acc) w else .st
/-- the clauses of a comprehension: the first one's source stands in ρ0 -/
def evG (c : Cx) (ρ : Env) (leaf : Env → Wd → R (List PV)) (ρ0 : Env) : Gs → Wd → R (List PV)
  | .nil, w => leaf ρ w
  | .cons t e ifs g, w => (dat (evE c ρ0 e w)).bind fun v w => (R.of (items v) w).bind fun xs w =>
      loopL (fun x w => (R.of (bindT ρ t x) w).bind fun ρ1 w => (evIf c ρ1 ifs w).bind fun b w => if b then evG c ρ1 leaf ρ1 g w else .ok [] w) xs w
def evIf (c : Cx) (ρ : Env) : Es → Wd → R Bool
  | .nil, w => .ok true w
  | .cons _ e r, w => (dat (evE c ρ e w)).bind fun v w => if truth v then evIf c ρ r w else .ok false w
end

/-! ### statements -/
inductive Out where
  | nx (ρ : Env) (w : Wd)
  | rt (v : Val) (w : Wd)
  | br (ρ : Env) (w : Wd)
  | ex (c : Nat) (fs : List PV) (ρ : Env) (w : Wd)
  | st
/-- an expression's answer, then what follows -/
def R.go {α : Type} (ρ : Env) (r : R α) (k : α → Wd → Out) : Out :=
  match r with
  | .ok a w => k a w
  | .ex c fs w => .ex c fs ρ w
  | .st => .st
@[simp] theorem R.go_ok {α : Type} (ρ : Env) (a : α) (w : Wd) (k : α → Wd → Out) : (R.ok a w).go ρ k = k a w := id rfl
@[simp] theorem R.go_ex {α : Type} (ρ : Env) (c : Nat) (fs : List PV) (w : Wd) (k : α → Wd → Out) : (R.ex c fs w : R α).go ρ k = .ex c fs ρ w := id rfl
@[simp] theorem R.go_st {α : Type} (ρ : Env) (k : α → Wd → Out) : (R.st : R α).go ρ k = .st := id rfl
def Out.then (o : Out) (k : Env → Wd → Out) : Out :=
  match o with
  | .nx ρ w => k ρ w
  | o => o
@[simp] theorem Out.then_nx (ρ : Env) (w : Wd) (k : Env → Wd → Out) : (Out.nx ρ w).then k = k ρ w := id rfl
@[simp] theorem Out.then_rt (v : Val) (w : Wd) (k : Env → Wd → Out) : (Out.rt v w).then k = .rt v w := id rfl
@[simp] theorem Out.then_br (ρ : Env) (w : Wd) (k : Env → Wd → Out) : (Out.br ρ w).then k = .br ρ w := id rfl
@[simp] theorem Out.then_ex (c : Nat) (fs : List PV) (ρ : Env) (w : Wd) (k : Env → Wd → Out) : (Out.ex c fs ρ w).then k = .ex c fs ρ w := id rfl
@[simp] theorem Out.then_st (k : Env → Wd → Out) : Out.st.then k = .st := id rfl
def setN {α : Type} : List α → Nat → α → List α
  | [], _, _ => []
  | _ :: r, 0, v => v :: r
  | a :: r, n + 1, v => a :: setN r n v
/-- a for loop over its items -/
def forL (f : PV → Env → Wd → Out) : List PV → Env → Wd → Out
  | [], ρ, w => .nx ρ w
  | x :: xs, ρ, w => match f x ρ w with
    | .nx ρ w => forL f xs ρ w
    | .br ρ w => .nx ρ w
    | o => o
def whileL (t : Env → Wd → R Bool) (f : Env → Wd → Out) : Nat → Env → Wd → Out
  | 0, _, _ => .st
  | n + 1, ρ, w => (t ρ w).go ρ fun b w => if b then (match f ρ w with
      | .nx ρ w => whileL t f n ρ w
      | .br ρ w => .nx ρ w
      | o => o) else .nx ρ w
/-- a container behind a name, or one of the world -/
inductive Where where
  | loc (i : Nat) (v : PV)
  | wd (n : Nat) (o : WO)
def whereE (c : Cx) (ρ : Env) (e : E) (w : Wd) : R Where :=
  match e with
  | .var i => match getv ρ i with
    | some (.d v) => .ok (.loc i v) w
    | some (.o n) => R.of ((nthO w n).map (.wd n)) w
    | _ => .st
  | e => (evE c ρ e w).bind fun v w => match v with
    | .o n => R.of ((nthO w n).map (.wd n)) w
    | _ => .st
/-- o[k] = v -/
def putAt (ρ : Env) (o : Where) (k : PV) (v : Val) (w : Wd) : Option (Env × Wd) :=
  match o, v with
  | .loc i (.dct kvs), .d u => if keyable k && fits (kvs.length + 1) then some (setv ρ i (some (.d (.dct (dput k u kvs)))), w) else none
  | .loc i (.lst xs), .d u => match k with
    | .int j => (place j xs.length).map fun n => (setv ρ i (some (.d (.lst (setN xs n u)))), w)
    | _ => none
  | .wd n (.ls xs), v => match k with
    | .int j => (place j xs.length).map fun m => (ρ, setN w n (.ls (setN xs m v)))
    | _ => none
  | _, _ => none
def fputAt (n f : Nat) (v : Val) (w : Wd) : Option Wd :=
  match nthO w n with
  | some (.ins k fs) => some (setN w n (.ins k (fieldP f v fs)))
  | _ => none
def assignX (c : Cx) (ρ : Env) (t : Tx) (v : Val) (w : Wd) : Out :=
  match t with
  | .nm i => .nx (setv ρ i (some v)) w
  | .sub o k => (whereE c ρ o w).go ρ fun p w => (dat (evE c ρ k w)).go ρ fun k w => match putAt ρ p k v w with
    | some (ρ, w) => .nx ρ w
    | none => .st
  | .at o f => (evE c ρ o w).go ρ fun u w => match u with
    | .o n => (match fputAt n f v w with | some w => .nx ρ w | none => .st)
    | _ => .st
def assignXs (c : Cx) : Env → List Tx → List PV → Wd → Out
  | ρ, [], [], w => .nx ρ w
  | ρ, t :: ts, v :: vs, w => (assignX c ρ t (.d v) w).then fun ρ w => assignXs c ρ ts vs w
  | _, _, _, _ => .st
def parSet : Env → List Nat → List Val → Option Env
  | ρ, [], [] => some ρ
  | ρ, i :: is, v :: vs => parSet (setv ρ i (some v)) is vs
  | _, _, _ => none
def isOneOf (c : Cx) (k : Nat) : List Nat → Bool
  | [] => false
  | a :: r => c.sub k a || isOneOf c k r
def evM (v : PV) : List PV → Bool
  | [] => false
  | k :: r => eqv v k || evM v r
def appAt (ρ : Env) (o : Where) (v : PV) (w : Wd) : Option (Env × Wd) :=
  match o with
  | .loc i (.lst xs) => if fits (xs.length + 1) then some (setv ρ i (some (.d (.lst (xs ++ [v])))), w) else none
  | .wd n (.ls xs) => if fits (xs.length + 1) then some (ρ, setN w n (.ls (xs ++ [.d v]))) else none
  | _ => none
def extAt (ρ : Env) (o : Where) (ys : List PV) (w : Wd) : Option (Env × Wd) :=
  match o with
  | .loc i (.lst xs) => if fits (xs.length + ys.length) then some (setv ρ i (some (.d (.lst (xs ++ ys)))), w) else none
  | _ => none
def popAt (ρ : Env) (o : Where) (w : Wd) : Option (PV × Env × Wd) :=
  match o with
  | .loc i (.lst xs) => match xs.getLast? with
    | some v => some (v, setv ρ i (some (.d (.lst xs.dropLast))), w)
    | none => none
  | _ => none
mutual
def evS (c : Cx) (ρ : Env) : S → Wd → Out
  | .set t e, w => match t with
    | .nm i => (evE c ρ e w).go ρ fun v w => .nx (setv ρ i (some v)) w
    | .tp is => (dat (evE c ρ e w)).go ρ fun v w => match bindT ρ (.tp is) v with | some ρ => .nx ρ w | none => .st
  | .mov j i, w => match getv ρ i with
    | some v => .nx (setv (setv ρ i none) j (some v)) w
    | none => .st
  | .par is es, w => (evEs c ρ es w).go ρ fun vs w => match parSet ρ is vs with | some ρ => .nx ρ w | none => .st
  | .asg t e, w => (evE c ρ e w).go ρ fun v w => assignX c ρ t v w
  | .mul ts e, w => (dat (evE c ρ e w)).go ρ fun v w => match v with | .tup xs => assignXs c ρ ts xs w | _ => .st
  | .exp e, w => (evE c ρ e w).go ρ fun _ w => .nx ρ w
  | .app o e, w => (whereE c ρ o w).go ρ fun p w => (dat (evE c ρ e w)).go ρ fun v w => match appAt ρ p v w with | some (ρ, w) => .nx ρ w | none => .st
  | .ext o e, w => (whereE c ρ o w).go ρ fun p w => (dat (evE c ρ e w)).go ρ fun v w => match (items v).bind fun ys => extAt ρ p ys w with | some (ρ, w) => .nx ρ w | none => .st
  | .pop t o, w => (whereE c ρ o w).go ρ fun p w => match popAt ρ p w with
    | some (v, ρ, w) => (match bindT ρ t v with | some ρ => .nx ρ w | none => .st)
    | none => .st
  | .dpop o k, w => (whereE c ρ o w).go ρ fun p w => (dat (evE c ρ k w)).go ρ fun k w => match p with
    | .loc i (.dct kvs) => if keyable k then .nx (setv ρ i (some (.d (.dct (ddel k kvs))))) w else .st
    | _ => .st
  | .upd o e, w => (whereE c ρ o w).go ρ fun p w => (dat (evE c ρ e w)).go ρ fun v w => match p, v with
    | .loc i (.dct kvs), .dct ls => if fits (kvs.length + ls.length) then .nx (setv ρ i (some (.d (.dct (dmerge kvs ls))))) w else .st
    | _, _ => .st
  | .aug i op e, w => match getv ρ i with
    | some (.d x) => (dat (evE c ρ e w)).go ρ fun y w => (match binop op x y with | some z => .nx (setv ρ i (some (.d z))) w | none => .st)
    | _ => .st
  | .faug o f op e, w => (evE c ρ o w).go ρ fun u w => match u with
    | .o n => (match nthO w n with
      | some (.ins _ fs) => (match fieldO f fs with
        | some (.d x) => (dat (evE c ρ e w)).go ρ fun y w => (match (binop op x y).bind fun z => fputAt n f (.d z) w with | some w => .nx ρ w | none => .st)
        | _ => .st)
      | _ => .st)
    | _ => .st
  | .ifs t a b, w => (dat (evE c ρ t w)).go ρ fun v w => if truth v then evSs c ρ a w else evSs c ρ b w
  | .for t e b, w => (dat (evE c ρ e w)).go ρ fun v w => match items v with
    | some xs => forL (fun x ρ w => match bindT ρ t x with | some ρ => evSs c ρ b w | none => .st) xs ρ w
    | none => .st
  | .whl t b, w => whileL (fun ρ w => (dat (evE c ρ t w)).bind fun v w => .ok (truth v) w) (fun ρ w => evSs c ρ b w) c.fuel ρ w
  | .ret e, w => (evE c ρ e w).go ρ fun v w => .rt v w
  | .rse k es, w => (evEs c ρ es w).go ρ fun vs w => match valsD vs with | some ds => .ex k ds ρ w | none => .st
  | .try b h, w => match evSs c ρ b w with
    | .ex k fs ρ w => evH c ρ k fs h w
    | o => o
  | .mat e ms, w => (dat (evE c ρ e w)).go ρ fun v w => evC c ρ v ms w
  | .brk, w => .br ρ w
  | .pas, w => .nx ρ w
def evSs (c : Cx) (ρ : Env) : Ss → Wd → Out
  | .nil, w => .nx ρ w
  | .cons s r, w => (evS c ρ s w).then fun ρ w => evSs c ρ r w
def evH (c : Cx) (ρ : Env) (k : Nat) (fs : List PV) : Hs → Wd → Out
  | .nil, w => .ex k fs ρ w
  | .cons cs i b r, w => if isOneOf c k cs then
      (match i with
      | none => evSs c ρ b w
      | some i => match evSs c (setv ρ i (some (.x k fs))) b w with
        | .nx ρ w => .nx (setv ρ i none) w
        | .br ρ w => .br (setv ρ i none) w
        | .ex k fs ρ w => .ex k fs (setv ρ i none) w
        | o => o)
    else evH c ρ k fs r w
def evC (c : Cx) (ρ : Env) (v : PV) : Ms → Wd → Out
  | .nil, w => .nx ρ w
  | .cons ks b r, w => match ks with
    | none => evSs c ρ b w
    | some ks => if evM v ks then evSs c ρ b w else evC c ρ v r w
end

/-! ### defs -/
/-- the parameters' values -/
def bindA (fd : Fn) (vs : List Val) : Option (List Val) :=
  if fd.va then
    (if fd.np ≤ vs.length + 1 then (valsD (vs.drop (fd.np - 1))).map fun ds => vs.take (fd.np - 1) ++ [.d (.tup ds)] else none)
  else if vs.length ≤ fd.np ∧ fd.np ≤ vs.length + fd.dfl.length then some (vs ++ (fd.dfl.drop (vs.length + fd.dfl.length - fd.np)).map .d) else none
def none' : Nat → Env
  | 0 => []
  | n + 1 => none :: none' n
def start (fd : Fn) (vs : List Val) : Env := vs.map some ++ none' (fd.nl - vs.length)
structure Pg where
  fn : Nat → Option Fn
  con : Nat → PV
  meth : Nat → Nat → Nat
  sub : Nat → Nat → Bool
  fuel : Nat
def Pg.cx (P : Pg) (call : Nat → List Val → Wd → R Val) : Cx := ⟨call, P.con, P.meth, P.sub, P.fuel⟩
def endO' : Out → R Val
  | .nx _ w => .ok (.d .non) w
  | .rt v w => .ok v w
  | .ex c fs _ w => .ex c fs w
  | _ => .st
/-- a def's run at its parameters' values; l levels of calls below it -/
def bodyAt (P : Pg) : Nat → Fn → List Val → Wd → R Val
  | 0, _, _, _ => .st
  | l + 1, fd, us, w => endO' (evSs (P.cx fun f vs w => match P.fn f with
    | none => .st
    | some fd => match bindA fd vs with
      | none => .st
      | some us => bodyAt P l fd us w) (start fd us) fd.body w)
def callF (P : Pg) (l f : Nat) (vs : List Val) (w : Wd) : R Val :=
  match P.fn f with
  | none => .st
  | some fd => match bindA fd vs with
    | none => .st
    | some us => bodyAt P l fd us w
theorem bodyAt_succ (P : Pg) (l : Nat) (fd : Fn) (us : List Val) (w : Wd) : bodyAt P (l + 1) fd us w = endO' (evSs (P.cx (callF P l)) (start fd us) fd.body w) := rfl
end Rx
end
section
set_option Elab.async false
set_option linter.all false
set_option maxRecDepth 100000
set_option maxHeartbeats 1000000
/-! Rx rel: how data and values stand in the abstract heap. -/
namespace Rx
open PySem PySem.Spec PyProof.Rows L2

theorem LIM_eq : LIM = sizeLine := by decide +kernel
theorem fits_le {n : Nat} (h : fits n = true) : n ≤ sizeLine := by
  rw [← LIM_eq]
  exact Nat.le_of_ble_eq_true h
/-- a text of codes -/
abbrev tx (s : List Nat) : Str := ⟨s.toArray⟩
theorem tx_inj {a b : List Nat} (h : tx a = tx b) : a = b := by
  have := congrArg (fun z : Str => z.cps.toList) h
  simpa using this
theorem tx_list (z : Str) : tx z.cps.toList = z := by
  cases z
  simp
def keyOf : PV → Option Key
  | .int i => some (.inl i)
  | .str s => some (.inr (tx s))
  | _ => none
/-- a key's text is no longer than texts are -/
def KOk : PV → Prop
  | .str z => z.length ≤ sizeLine
  | _ => True
def keyR (k : PV) (j : Key) : Prop := keyOf k = some j ∧ KOk k
/-- a list that never changes any more -/
def LstZ (H : Hp) (a : Addr) (vs : List V) : Prop := ∃ o, H a = some (.frz o (.lst vs))
theorem LstZ.rd {H : Hp} {a : Addr} {vs : List V} (h : LstZ H a vs) : Rd H a (.lst vs) := .inr h
mutual
/-- v stands for the data d; whatever d holds never changes any more -/
def Rep (K : PySem.W.Frag) (H : Hp) : PV → V → Prop
  | .non, v => v = .non
  | .bl b, v => v = .bl b
  | .int i, v => v = .int i
  | .str s, v => v = .str (tx s) ∧ s.length ≤ sizeLine
  | .tup xs, v => ∃ a vs, v = .ref a ∧ SqT K H a vs ∧ RepL K H xs vs ∧ xs.length ≤ sizeLine
  | .lst xs, v => ∃ a vs, v = .ref a ∧ LstZ H a vs ∧ RepL K H xs vs ∧ xs.length ≤ sizeLine
  | .dct kvs, v => ∃ a o ks, v = .ref a ∧ H a = some (.frz o (.dK ks)) ∧ RepK K H kvs ks ∧ kvs.length ≤ sizeLine
  | .set _, _ => False
def RepL (K : PySem.W.Frag) (H : Hp) : List PV → List V → Prop
  | [], [] => True
  | x :: xs, v :: vs => Rep K H x v ∧ RepL K H xs vs
  | _, _ => False
def RepK (K : PySem.W.Frag) (H : Hp) : List (PV × PV) → List (Key × V) → Prop
  | [], [] => True
  | (k, x) :: xs, (j, v) :: vs => keyR k j ∧ Rep K H x v ∧ RepK K H xs vs
  | _, _ => False
end
/-- what never changes is still there -/
structure Ext (H H' : Hp) : Prop where
  tup : ∀ a xs, H a = some (.tup xs) → H' a = some (.tup xs)
  frz : ∀ a o u, H a = some (.frz o u) → H' a = some (.frz o u)
theorem Ext.refl (H : Hp) : Ext H H := ⟨fun _ _ h => h, fun _ _ _ h => h⟩
theorem Ext.trans {H H1 H2 : Hp} (a : Ext H H1) (b : Ext H1 H2) : Ext H H2 := ⟨fun c xs h => b.tup c xs (a.tup c xs h), fun c o u h => b.frz c o u (a.frz c o u h)⟩
theorem Ext.sqt {K : PySem.W.Frag} {H H' : Hp} {a : Addr} {xs : List V} (e : Ext H H') (h : SqT K H a xs) : SqT K H' a xs := by
  rcases h with (h | ⟨o, h⟩) | h
  · exact .inl (.inl (e.tup _ _ h))
  · exact .inl (.inr ⟨o, e.frz _ _ _ h⟩)
  · exact .inr h
theorem Ext.lstz {H H' : Hp} {a : Addr} {xs : List V} (e : Ext H H') (h : LstZ H a xs) : LstZ H' a xs := by
  obtain ⟨o, h⟩ := h
  exact ⟨o, e.frz _ _ _ h⟩
mutual
theorem Rep.mono {K : PySem.W.Frag} {H H' : Hp} (e : Ext H H') : ∀ (x : PV) (v : V), Rep K H x v → Rep K H' x v
  | .non, _, h => h
  | .bl _, _, h => h
  | .int _, _, h => h
  | .str _, _, h => h
  | .tup xs, _, ⟨a, vs, h1, h2, h3, h4⟩ => ⟨a, vs, h1, e.sqt h2, RepL.mono e xs vs h3, h4⟩
  | .lst xs, _, ⟨a, vs, h1, h2, h3, h4⟩ => ⟨a, vs, h1, e.lstz h2, RepL.mono e xs vs h3, h4⟩
  | .dct kvs, _, ⟨a, o, ks, h1, h2, h3, h4⟩ => ⟨a, o, ks, h1, e.frz _ _ _ h2, RepK.mono e kvs ks h3, h4⟩
  | .set _, _, h => h
theorem RepL.mono {K : PySem.W.Frag} {H H' : Hp} (e : Ext H H') : ∀ (xs : List PV) (vs : List V), RepL K H xs vs → RepL K H' xs vs
  | [], [], h => h
  | x :: xs, v :: vs, ⟨h1, h2⟩ => ⟨Rep.mono e x v h1, RepL.mono e xs vs h2⟩
  | [], _ :: _, h => h
  | _ :: _, [], h => h
theorem RepK.mono {K : PySem.W.Frag} {H H' : Hp} (e : Ext H H') : ∀ (xs : List (PV × PV)) (vs : List (Key × V)), RepK K H xs vs → RepK K H' xs vs
  | [], [], h => h
  | (k, x) :: xs, (j, v) :: vs, ⟨h0, h1, h2⟩ => ⟨h0, Rep.mono e x v h1, RepK.mono e xs vs h2⟩
  | [], _ :: _, h => h
  | _ :: _, [], h => h
end
section
variable {K : PySem.W.Frag} {H : Hp}
theorem RepL.length : ∀ {xs : List PV} {vs : List V}, RepL K H xs vs → xs.length = vs.length
  | [], [], _ => rfl
  | _ :: _, _ :: _, h => congrArg (· + 1) (RepL.length h.2)
theorem RepL.append : ∀ {xs ys : List PV} {vs us : List V}, RepL K H xs vs → RepL K H ys us → RepL K H (xs ++ ys) (vs ++ us)
  | [], _, [], _, _, g => g
  | _ :: _, _, _ :: _, _, h, g => ⟨h.1, RepL.append h.2 g⟩
theorem RepL.nil : RepL K H [] [] := trivial
theorem RepL.cons {x : PV} {v : V} {xs : List PV} {vs : List V} (h : Rep K H x v) (t : RepL K H xs vs) : RepL K H (x :: xs) (v :: vs) := ⟨h, t⟩
theorem RepL.get : ∀ {xs : List PV} {vs : List V} {n : Nat} {x : PV}, RepL K H xs vs → xs[n]? = some x → ∃ v, vs[n]? = some v ∧ Rep K H x v
  | _ :: _, v :: _, 0, _, h, e => by
    rw [List.getElem?_cons_zero] at e
    cases e
    exact ⟨v, rfl, h.1⟩
  | _ :: _, _ :: _, n + 1, x, h, e => by
    rw [List.getElem?_cons_succ] at e ⊢
    exact RepL.get h.2 e
  | [], [], n, x, _, e => by cases e
theorem RepL.take : ∀ {xs : List PV} {vs : List V} (n : Nat), RepL K H xs vs → RepL K H (xs.take n) (vs.take n)
  | [], [], 0, _ => trivial
  | [], [], _ + 1, _ => trivial
  | _ :: _, _ :: _, 0, _ => trivial
  | _ :: _, _ :: _, n + 1, h => ⟨h.1, RepL.take n h.2⟩
theorem RepL.drop : ∀ {xs : List PV} {vs : List V} (n : Nat), RepL K H xs vs → RepL K H (xs.drop n) (vs.drop n)
  | [], [], 0, h => h
  | [], [], _ + 1, h => h
  | _ :: _, _ :: _, 0, h => h
  | _ :: _, _ :: _, n + 1, h => RepL.drop n h.2
theorem RepL.reverse : ∀ {xs : List PV} {vs : List V}, RepL K H xs vs → RepL K H xs.reverse vs.reverse
  | [], [], h => h
  | _ :: _, _ :: _, h => by
    rw [List.reverse_cons, List.reverse_cons]
    exact (RepL.reverse h.2).append ⟨h.1, trivial⟩
theorem RepK.length : ∀ {xs : List (PV × PV)} {vs : List (Key × V)}, RepK K H xs vs → xs.length = vs.length
  | [], [], _ => rfl
  | (_, _) :: _, (_, _) :: _, h => congrArg (· + 1) (RepK.length h.2.2)
end
/-- the same, of what may be read now (a list, a dict that is changed elsewhere, too) -/
def RepB (K : PySem.W.Frag) (H : Hp) : PV → V → Prop
  | .lst xs, v => ∃ a vs, v = .ref a ∧ Rd H a (.lst vs) ∧ RepL K H xs vs ∧ xs.length ≤ sizeLine
  | .dct kvs, v => ∃ a ks, v = .ref a ∧ Rd H a (.dK ks) ∧ RepK K H kvs ks ∧ kvs.length ≤ sizeLine
  | x, v => Rep K H x v
theorem Rep.b {K : PySem.W.Frag} {H : Hp} : ∀ {x : PV} {v : V}, Rep K H x v → RepB K H x v
  | .lst _, _, ⟨a, vs, h1, h2, h3, h4⟩ => ⟨a, vs, h1, h2.rd, h3, h4⟩
  | .dct _, _, ⟨a, o, ks, h1, h2, h3, h4⟩ => ⟨a, ks, h1, .inr ⟨o, h2⟩, h3, h4⟩
  | .non, _, h => h
  | .bl _, _, h => h
  | .int _, _, h => h
  | .str _, _, h => h
  | .tup _, _, h => h
  | .set _, _, h => h
/-- .. of what is known by one name alone, and may be changed: at the address a -/
def RepO (K : PySem.W.Frag) (H : Hp) (x : PV) (a : Addr) : Prop :=
  match x with
  | .lst xs => ∃ vs, H a = some (.lst vs) ∧ RepL K H xs vs ∧ xs.length ≤ sizeLine
  | .dct kvs => ∃ ks, H a = some (.dK ks) ∧ RepK K H kvs ks ∧ kvs.length ≤ sizeLine
  | _ => False
theorem RepO.b {K : PySem.W.Frag} {H : Hp} : ∀ {x : PV} {a : Addr}, RepO K H x a → RepB K H x (.ref a)
  | .lst _, _, ⟨vs, h1, h2, h3⟩ => ⟨_, vs, rfl, .inl h1, h2, h3⟩
  | .dct _, _, ⟨ks, h1, h2, h3⟩ => ⟨_, ks, rfl, .inl h1, h2, h3⟩
end Rx
end
section
set_option Elab.async false
set_option linter.all false
set_option maxRecDepth 100000
set_option maxHeartbeats 1000000
/-! Rx J: the world, frames, answers; what is to be shown of an expression. -/
namespace Rx
open PySem PySem.Spec PyProof.Rows L2

/-- names, classes: what the numbers of the syntax mean here -/
structure Nm where
  fld : Nat → Str
  cls : Nat → Addr
  /-- the field names of an exception class, in order -/
  xfl : Nat → List Str
/-- a value -/
def RepV (K : PySem.W.Frag) (N : Nm) (H : Hp) (μ : List Addr) (pn : List (Addr × Obj)) : Val → V → Prop
  | .d x, v => Rep K H x v
  | .o n, v => ∃ a, μ[n]? = some a ∧ v = .ref a
  | .x c fs, v => ∃ a oe d vs, v = .ref a ∧ (a, oe) ∈ pn ∧ Zc (.ref (N.cls c)) (some d) oe ∧ (∃ xs, oe.data = .fields xs) ∧ H d = some (.xd ((N.xfl c).zip vs)) ∧ RepL K H fs vs ∧ (N.xfl c).length = fs.length
  | .f _ _, _ => False
def RepVL (K : PySem.W.Frag) (N : Nm) (H : Hp) (μ : List Addr) (pn : List (Addr × Obj)) : List Val → List V → Prop
  | [], [] => True
  | x :: xs, v :: vs => RepV K N H μ pn x v ∧ RepVL K N H μ pn xs vs
  | _, _ => False
/-- a thing of the world at its address -/
def WOR (K : PySem.W.Frag) (N : Nm) (H : Hp) (μ : List Addr) (a : Addr) : WO → Prop
  | .ls xs => ∃ vs, H a = some (.lst vs) ∧ RepVL K N H μ [] xs vs ∧ xs.length ≤ sizeLine
  | .ins c fs => ∃ dx gs, H a = some (.ins (N.cls c) dx gs) ∧ gs.length < 500 ∧ (∀ f, fieldO f fs = none → gs.lookup (N.fld f) = none) ∧
      (∀ f v, fieldO f fs = some v → ∃ u, gs.lookup (N.fld f) = some u ∧ RepV K N H μ [] v u)
  | .dc _ => False
structure WR (K : PySem.W.Frag) (N : Nm) (H : Hp) (μ : List Addr) (W : Wd) : Prop where
  len : W.length = μ.length
  nd : μ.Nodup
  at_ : ∀ (n : Nat) (a : Addr) (o : WO), μ[n]? = some a → W[n]? = some o → WOR K N H μ a o
/-- one step on -/
structure Stp (μ μ' : List Addr) (H H' : Hp) : Prop where
  keep : ∀ a o, H a = some o → a ∉ μ → H' a = some o
  ext : Ext H H'
  wld : ∀ a, a ∈ μ → H a ≠ Option.none → H' a ≠ Option.none
  more : ∃ l, μ' = μ ++ l ∧ ∀ a ∈ l, H a = none
theorem Stp.refl (μ : List Addr) (H : Hp) : Stp μ μ H H := ⟨fun _ _ h _ => h, Ext.refl H, fun _ _ h => h, [], by simp, fun _ h => by simp at h⟩
theorem Stp.free {μ μ' : List Addr} {H H' : Hp} (s : Stp μ μ' H H') {a : Addr} (h : H' a = Option.none) (hm : a ∉ μ) : H a = Option.none := by
  cases e : H a with
  | none => rfl
  | some o => rw [s.keep a o e hm] at h; cases h
theorem Stp.memM {μ μ' : List Addr} {H H' : Hp} (s : Stp μ μ' H H') {a : Addr} (h : a ∈ μ) : a ∈ μ' := by
  obtain ⟨l, e, _⟩ := s.more
  rw [e]
  exact List.mem_append_left _ h
theorem Stp.at {μ μ' : List Addr} {H H' : Hp} (s : Stp μ μ' H H') {n : Nat} {a : Addr} (h : μ[n]? = some a) : μ'[n]? = some a := by
  obtain ⟨l, e, _⟩ := s.more
  rw [e, List.getElem?_append_left (List.getElem?_eq_some_iff.mp h).1]
  exact h
/-- what stands and is not of the world does not come into it -/
theorem Stp.nin {μ μ' : List Addr} {H H' : Hp} (s : Stp μ μ' H H') {a : Addr} {o : HO} (h : H a = some o) (hm : a ∉ μ) : a ∉ μ' := by
  obtain ⟨l, e, q⟩ := s.more
  rw [e]
  intro z
  rcases List.mem_append.mp z with z | z
  · exact hm z
  · rw [q a z] at h; cases h
theorem Stp.trans {μ μ1 μ2 : List Addr} {H H1 H2 : Hp} (a : Stp μ μ1 H H1) (b : Stp μ1 μ2 H1 H2) : Stp μ μ2 H H2 := by
  obtain ⟨l, e, q⟩ := a.more
  obtain ⟨l', e', q'⟩ := b.more
  refine ⟨fun c o h hm => b.keep c o (a.keep c o h hm) (a.nin h hm), a.ext.trans b.ext, fun c hm h => b.wld c (a.memM hm) (a.wld c hm h), l ++ l', by rw [e', e, List.append_assoc], fun c hc => ?_⟩
  rcases List.mem_append.mp hc with hc | hc
  · exact q c hc
  · cases z : H c with
    | none => rfl
    | some o =>
      exfalso
      by_cases hm : c ∈ μ
      · exact a.wld c hm (by rw [z]; simp) (q' c hc)
      · have := a.keep c o z hm
        rw [q' c hc] at this
        cases this
/-- a new object -/
theorem Stp.new {μ : List Addr} {H : Hp} {p : Addr} {o : HO} (h : H p = Option.none) : Stp μ μ H (upd H p o) :=
  ⟨fun a u e _ => by rw [upd_ne (ne_of_none e h)]; exact e, ⟨fun a xs e => by rw [upd_ne (ne_of_none e h)]; exact e, fun a u v e => by rw [upd_ne (ne_of_none e h)]; exact e⟩,
    fun a _ e => by
      by_cases hp : a = p
      · rw [hp, h] at e; exact absurd rfl e
      · rw [upd_ne hp]; exact e, [], by simp, fun _ z => by simp at z⟩
section
variable {K : PySem.W.Frag} {N : Nm} {H H' : Hp} {μ μ' : List Addr} {pn : List (Addr × Obj)}
theorem RepV.mono0 (e : Ext H H') (m : ∀ (n : Nat) (a : Addr), μ[n]? = some a → μ'[n]? = some a) : ∀ {x : Val} {v : V}, RepV K N H μ [] x v → RepV K N H' μ' [] x v
  | .d x, v, h => Rep.mono e x v h
  | .o n, v, ⟨a, h1, h2⟩ => ⟨a, m n a h1, h2⟩
  | .x _ _, v, ⟨_, _, _, _, _, h, _⟩ => by simp at h
  | .f _ _, _, h => h
theorem RepVL.mono0 (e : Ext H H') (m : ∀ (n : Nat) (a : Addr), μ[n]? = some a → μ'[n]? = some a) : ∀ {xs : List Val} {vs : List V}, RepVL K N H μ [] xs vs → RepVL K N H' μ' [] xs vs
  | [], [], h => h
  | _ :: _, _ :: _, h => ⟨RepV.mono0 e m h.1, RepVL.mono0 e m h.2⟩
  | [], _ :: _, h => h
  | _ :: _, [], h => h
/-- the world as it was, the heap a step on -/
theorem WR.keep (w : WR K N H μ W) (k : ∀ a ∈ μ, H' a = H a) (e : Ext H H') : WR K N H' μ W := by
  refine ⟨w.len, w.nd, fun n a o h1 h2 => ?_⟩
  have hm : a ∈ μ := List.mem_of_getElem? h1
  have q := w.at_ n a o h1 h2
  cases o with
  | ls xs =>
    obtain ⟨vs, q1, q2, q3⟩ := q
    exact ⟨vs, by rw [k a hm]; exact q1, RepVL.mono0 e (fun _ _ z => z) q2, q3⟩
  | ins c fs =>
    obtain ⟨dx, gs, q1, q2, q3, q4⟩ := q
    refine ⟨dx, gs, by rw [k a hm]; exact q1, q2, q3, fun f v hf => ?_⟩
    obtain ⟨u, z1, z2⟩ := q4 f v hf
    exact ⟨u, z1, RepV.mono0 e (fun _ _ z => z) z2⟩
  | dc _ => exact q
theorem WR.some (w : WR K N H μ W) {a : Addr} (h : a ∈ μ) : ∃ o, H a = some o ∧ (∀ xs, o ≠ .tup xs) ∧ ∀ b u, o ≠ .frz b u := by
  obtain ⟨n, hn⟩ := List.mem_iff_getElem?.mp h
  have hl : n < W.length := by rw [w.len]; exact (List.getElem?_eq_some_iff.mp hn).1
  have q := w.at_ n a W[n] hn (List.getElem?_eq_getElem hl)
  cases e : W[n] with
  | ls xs =>
    rw [e] at q
    obtain ⟨vs, q1, _⟩ := q
    exact ⟨_, q1, fun _ z => (nomatch z), fun _ _ z => (nomatch z)⟩
  | ins c fs =>
    rw [e] at q
    obtain ⟨dx, gs, q1, _⟩ := q
    exact ⟨_, q1, fun _ z => (nomatch z), fun _ _ z => (nomatch z)⟩
  | dc _ =>
    rw [e] at q
    exact q.elim
/-- a new object beside the world -/
theorem WR.new (w : WR K N H μ W) {p : Addr} {o : HO} (h : H p = Option.none) : WR K N (upd H p o) μ W :=
  w.keep (fun a ha => by
    obtain ⟨u, e, _⟩ := w.some ha
    rw [upd_ne (ne_of_none e h)]) (Stp.new (μ := μ) h).ext
end

/-! ### a frame's slots -/
structure FR (K : PySem.W.Frag) (N : Nm) (H0 H : Hp) (μ : List Addr) (pn : List (Addr × Obj)) (O : Nat → Bool) (σ : L2.St) (ρ : Env) : Prop where
  slot : ∀ i v, getv ρ i = some v → O i = false → ∃ u, σ[i]? = some (some u) ∧ RepV K N H μ pn v u
  own : ∀ i v, getv ρ i = some v → O i = true → ∃ x a, v = .d x ∧ σ[i]? = some (some (V.ref a)) ∧ RepO K H x a ∧ a ∉ μ ∧ H0 a = Option.none
  apart : ∀ i j a, O i = true → O j = true → getv ρ i ≠ Option.none → getv ρ j ≠ Option.none → σ[i]? = some (some (V.ref a)) → σ[j]? = some (some (V.ref a)) → i = j
  len : ρ.length ≤ σ.length
theorem RepO.ex {K : PySem.W.Frag} {H : Hp} : ∀ {x : PV} {a : Addr}, RepO K H x a → ∃ o, H a = some o
  | .lst _, _, ⟨vs, h, _⟩ => ⟨_, h⟩
  | .dct _, _, ⟨ks, h, _⟩ => ⟨_, h⟩
theorem RepO.mono {K : PySem.W.Frag} {H H' : Hp} {a : Addr} (e : Ext H H') (k : ∀ o, H a = some o → H' a = some o) : ∀ {x : PV}, RepO K H x a → RepO K H' x a
  | .lst xs, ⟨vs, h1, h2, h3⟩ => ⟨vs, k _ h1, RepL.mono e xs vs h2, h3⟩
  | .dct kvs, ⟨ks, h1, h2, h3⟩ => ⟨ks, k _ h1, RepK.mono e kvs ks h2, h3⟩
section
variable {K : PySem.W.Frag} {N : Nm} {H H' : Hp} {μ μ' : List Addr} {pn : List (Addr × Obj)} {O : Nat → Bool} {σ : L2.St} {ρ : Env} {W : Wd}
theorem RepV.step (s : Stp μ μ' H H') (w : WR K N H μ W) : ∀ {x : Val} {v : V}, RepV K N H μ pn x v → RepV K N H' μ' pn x v
  | .d x, v, h => Rep.mono s.ext x v h
  | .o n, v, ⟨a, h1, h2⟩ => ⟨a, s.at h1, h2⟩
  | .x c fs, v, ⟨a, oe, d, vs, h1, h2, h3, h4, h5, h6, h7⟩ => ⟨a, oe, d, vs, h1, h2, h3, h4, s.keep d _ h5 (fun hm => by
      obtain ⟨n, hn⟩ := List.mem_iff_getElem?.mp hm
      have hl : n < W.length := by rw [w.len]; exact (List.getElem?_eq_some_iff.mp hn).1
      have q := w.at_ n d W[n] hn (List.getElem?_eq_getElem hl)
      cases e : W[n] with
      | ls xs => rw [e] at q; obtain ⟨_, q1, _⟩ := q; rw [h5] at q1; cases q1
      | ins c fs => rw [e] at q; obtain ⟨_, _, q1, _⟩ := q; rw [h5] at q1; cases q1
      | dc _ => rw [e] at q; exact q), RepL.mono s.ext fs vs h6, h7⟩
  | .f _ _, _, h => h
theorem FR.step (f : FR K N H0 H μ pn O σ ρ) (s : Stp μ μ' H H') (w : WR K N H μ W) : FR K N H0 H' μ' pn O σ ρ := by
  refine ⟨fun i v h1 h2 => ?_, fun i v h1 h2 => ?_, f.apart, f.len⟩
  · obtain ⟨u, e, q⟩ := f.slot i v h1 h2
    exact ⟨u, e, q.step s w⟩
  · obtain ⟨x, a, e, e1, q, hm, h0⟩ := f.own i v h1 h2
    obtain ⟨o, ho⟩ := RepO.ex q
    exact ⟨x, a, e, e1, RepO.mono s.ext (fun o h => s.keep a o h hm) q, s.nin ho hm, h0⟩
end

/-! ### answers -/
inductive Fl where | z | b | f
  deriving DecidableEq
/-- data as an expression gives it: for good; to be read now; new -/
def RepF (K : PySem.W.Frag) (H0 : Hp) (fl : Fl) (H : Hp) (μ : List Addr) (x : PV) (v : V) : Prop :=
  match fl with
  | .z => Rep K H x v
  | .b => Rep K H x v ∨ ∃ a, v = .ref a ∧ a ∉ μ ∧ RepO K H x a
  | .f => match x with
    | .lst xs => ∃ a, v = .ref a ∧ H0 a = Option.none ∧ a ∉ μ ∧ RepO K H (.lst xs) a
    | .dct xs => ∃ a, v = .ref a ∧ H0 a = Option.none ∧ a ∉ μ ∧ RepO K H (.dct xs) a
    | x => Rep K H x v
/-- what is owed of an answer r, from H, the world at μ -/
def Ans {α β : Type} (K : PySem.W.Frag) (N : Nm) (Wx : WX) (rep : Hp → List Addr → α → β → Prop) (H : Hp) (μ : List Addr) (σ : L2.St) (r : R α) (Q : β → Hp → Prop) : Prop :=
  match r with
  | .ok a W' => ∀ b H' μ', Stp μ μ' H H' → WR K N H' μ' W' → rep H' μ' a b → Q b H'
  | .ex c fs W' => ∀ d vs H' μ', Stp μ μ' H H' → WR K N H' μ' W' → H' d = some (.xd ((N.xfl c).zip vs)) → RepL K H' fs vs → (N.xfl c).length = fs.length → d ∉ μ' → Wx (.ref (N.cls c)) (some d) σ H'
  | .st => False
theorem Ans.bind {α β γ δ : Type} {K : PySem.W.Frag} {N : Nm} {Wx : WX} {rep1 : Hp → List Addr → α → β → Prop} {rep2 : Hp → List Addr → γ → δ → Prop} {H : Hp} {μ : List Addr} {σ : L2.St} {r : R α} {k : α → Wd → R γ} {Q : δ → Hp → Prop} {G : β → Hp → Prop}
    (h : Ans K N Wx rep2 H μ σ (r.bind k) Q)
    (g : ∀ a W1, r = .ok a W1 → ∀ b H1 μ1, Stp μ μ1 H H1 → WR K N H1 μ1 W1 → rep1 H1 μ1 a b → Ans K N Wx rep2 H1 μ1 σ (k a W1) Q → G b H1) :
    Ans K N Wx rep1 H μ σ r G := by
  cases r with
  | st => exact h
  | ex c fs W1 => exact h
  | ok a W1 =>
    intro b H1 μ1 s w q
    refine g a W1 rfl b H1 μ1 s w q ?_
    have h' : Ans K N Wx rep2 H μ σ (k a W1) Q := h
    cases e : k a W1 with
    | st => rw [e] at h'; exact h'
    | ex c fs W2 =>
      rw [e] at h'
      intro d vs H2 μ2 s2 w2 e2 q2 l2 m2
      exact h' d vs H2 μ2 (s.trans s2) w2 e2 q2 l2 m2
    | ok c W2 =>
      rw [e] at h'
      intro u H2 μ2 s2 w2 q2
      exact h' u H2 μ2 (s.trans s2) w2 q2
end Rx
end
section
set_option Elab.async false
set_option linter.all false
set_option maxRecDepth 100000
set_option maxHeartbeats 1000000
/-! Rx ops: the operators on data. -/
namespace Rx
open PySem PySem.Spec PyProof.Rows L2

/-- what is owed of a new value x, from H -/
def New (K : PySem.W.Frag) (H : Hp) (μ : List Addr) (x : PV) (Q : VK) : Prop :=
  ∀ v H', Stp μ μ H H' → (∀ a ∈ μ, H' a = H a) → RepF K H .f H' μ x v → Q v H'
section
variable {K : PySem.W.Frag} {H : Hp} {μ : List Addr} {Q : VK}
theorem New.flat {x : PV} {v : V} (q : New K H μ x Q) (h : RepF K H .f H μ x v) : Q v H := q v H (Stp.refl _ _) (fun _ _ => rfl) h
theorem Stp.new' {p : Addr} {o : HO} (h : H p = Option.none) (hm : ∀ a ∈ μ, H a ≠ Option.none) : Stp μ μ H (upd H p o) ∧ ∀ a ∈ μ, (upd H p o) a = H a :=
  ⟨Stp.new h, fun a ha => upd_ne (fun e => hm a ha (by rw [e]; exact h))⟩
theorem New.list {xs : List PV} {vs : List V} (q : New K H μ (.lst xs) Q) (r : RepL K H xs vs) (hl : xs.length ≤ sizeLine) (hm : ∀ a ∈ μ, H a ≠ Option.none) : ∀ p, H p = Option.none → Q (.ref p) (upd H p (.lst vs)) := by
  intro p hp
  obtain ⟨s, k⟩ := Stp.new' (o := .lst vs) hp hm
  exact q _ _ s k ⟨p, rfl, hp, fun z => hm p z hp, vs, upd_same, RepL.mono s.ext xs vs r, hl⟩
theorem New.tup {xs : List PV} {vs : List V} (q : New K H μ (.tup xs) Q) (r : RepL K H xs vs) (hl : xs.length ≤ sizeLine) (hm : ∀ a ∈ μ, H a ≠ Option.none) : ∀ p, H p = Option.none → Q (.ref p) (upd H p (.tup vs)) := by
  intro p hp
  obtain ⟨s, k⟩ := Stp.new' (o := .tup vs) hp hm
  exact q _ _ s k ⟨p, vs, rfl, .inl (.inl upd_same), RepL.mono s.ext xs vs r, hl⟩
theorem New.dict {xs : List (PV × PV)} {ks : List (Key × V)} (q : New K H μ (.dct xs) Q) (r : RepK K H xs ks) (hl : xs.length ≤ sizeLine) (hm : ∀ a ∈ μ, H a ≠ Option.none) : ∀ p, H p = Option.none → Q (.ref p) (upd H p (.dK ks)) := by
  intro p hp
  obtain ⟨s, k⟩ := Stp.new' (o := .dK ks) hp hm
  exact q _ _ s k ⟨p, rfl, hp, fun z => hm p z hp, ks, upd_same, RepK.mono s.ext xs ks r, hl⟩
theorem WR.there {N : Nm} {W : Wd} (w : WR K N H μ W) : ∀ a ∈ μ, H a ≠ Option.none := fun a ha => by
  obtain ⟨o, e, _⟩ := w.some ha
  rw [e]
  simp
end
theorem RepL.rep {K : PySem.W.Frag} {H : Hp} {xs : List PV} {vs : List V} (h : RepL K H xs vs) : ∀ n : Nat, RepL K H (repL n xs) (List.replicate n vs).flatten
  | 0 => by
    rw [List.replicate_zero, List.flatten_nil]
    exact RepL.nil
  | n + 1 => by
    rw [List.replicate_succ, List.flatten_cons]
    exact h.append (RepL.rep h n)
theorem repL_len (n : Nat) (xs : List PV) : (repL n xs).length = n * xs.length := by
  induction n with
  | zero => simp [repL]
  | succ n ih => simp [repL, ih, Nat.succ_mul, Nat.add_comm]
section
variable {X : L2.Cx} {pins : List (Addr × Obj)} {σ : L2.St} {H : Hp} {s : Shared} {μ : List Addr}
theorem lst_at (I : Inv X pins σ H s) {a : Addr} {vs : List V} (h : Rd H a (.lst vs)) :
    vs.length ≤ sizeLine ∧ ∃ (its : List Value) (n : Nat), Vals vs its ∧ vs.length = its.length ∧ s.heap.get? a = some { cls := .type "list", data := .seq its.toArray n } := by
  obtain ⟨z, its, n, r, e⟩ := h.ok I.hok
  exact ⟨z, its, n, r, r.length, e⟩
/-- list + list -/
theorem cat_run (I : Inv X pins σ H s) {a b : Addr} {xs ys : List V} {Q : VK} {E : Value → Shared → Prop} (ha : Rd H a (.lst xs)) (hb : Rd H b (.lst ys)) (hz : xs.length + ys.length ≤ sizeLine)
    (q : ∀ p, H p = none → Q (.ref p) (upd H p (.lst (xs ++ ys)))) : wpAny (model X.prog X.w) X.A (binaryOp .Add (.ref a) (.ref b)) (EP X pins σ Q) E s := by
  obtain ⟨z1, its, n, r, hl, e⟩ := lst_at I ha
  obtain ⟨z2, its2, n2, r2, hl2, e2⟩ := lst_at I hb
  refine PySem.P.add_list e e2 ?_ (by simp only [List.size_toArray]; omega)
  rw [show its.toArray ++ its2.toArray = (its ++ its2).toArray by simp]
  exact ⟨.ref _, _, I.lnew (t' := s.toks) (r.append r2) (by rw [List.length_append]; omega), rfl, q _ I.fresh⟩
/-- list * int -/
theorem rep_run (I : Inv X pins σ H s) {a : Addr} {xs : List V} {k : Int} {t : Tok} {Q : VK} (ha : Rd H a (.lst xs)) (h0 : 0 ≤ k) (h1 : k ≤ 1000000) (hz : xs.length * k.toNat ≤ sizeLine)
    (q : ∀ p, H p = none → Q (.ref p) (upd H p (.lst (List.replicate k.toNat xs).flatten))) : wpAny (model X.prog X.w) X.A (binaryOp .Mult (.ref a) (.int k t)) (EP X pins σ Q) X.xe s := by
  rcases ha with ha | ⟨o, ha⟩
  · exact op_rep pins s σ H (.ref a) (.int k) _ _ Q I rfl ⟨t, rfl⟩ ⟨a, k, xs, rfl, rfl, ha, by omega, by omega, hz, q⟩
  · obtain ⟨z1, its, n, r, hl, e⟩ := lst_at I (.inr ⟨o, ha⟩)
    have e0 : ∀ m : Nat, List.foldl (fun x1 x2 => x1 ++ x2) #[] (List.replicate m its.toArray) = (List.replicate m its).flatten.toArray := fun m => by
      have := foldl_rep its m []
      rwa [List.nil_append] at this
    have l1 : its.toArray.size * k.toNat ≤ sizeLine := by simp only [List.size_toArray]; rw [← hl]; exact hz
    have sl := sizeLine_eq
    refine wpAny_binaryOp_repeat_ref (T := "list") (U := "int") (by decide) ⟨_, e, rfl⟩ (fun s' => typeIs_int s' k t) noFill_list_mul F.fills_int_mul F.slot_int_rmul repeat_list F.slot_int_index.lookup
      (call_meets F.slot_int_rmul (typeIs_int s k t) F.entry_int_rmul (F.args_int_rmul_2 _ _) (int___rmul___int_list k t a its.toArray n)
        ⟨e, rfl, ⟨_, e, rfl⟩, call_meets F.slot_list_mul ⟨_, e, rfl⟩ F.entry_list_mul (F.args_list_mul_2 _ _)
          (AutoListH.list___mul___list_int_3 a its.toArray n k t (by rw [fitsIndex_both (by omega) (by omega)]; simp) (by omega) (by rw [notLongL l1]; simp)) ⟨e, ?_⟩⟩)
    have e1 : List.foldl (fun x1 x2 => x1 ++ x2) #[] (List.replicate (if its.toArray.isEmpty = true then 0 else k.toNat) its.toArray) = (List.replicate k.toNat its).flatten.toArray := by
      rw [e0]
      cases its with
      | nil => simp
      | cons b r' => simp
    rw [e1]
    exact ⟨.ref _, _, I.lnew (t' := s.toks) (r.rep k.toNat) (by rw [PyProof.Rows.lm_len_rep_flat, Nat.mul_comm]; exact hz), rfl, q _ I.fresh⟩
end
def opO : BinO → Operator
  | .add => .Add | .sub => .Sub | .mul => .Mult | .fdiv => .FloorDiv | .mod => .Mod | .pow => .Pow
theorem tx_app (a b : List Nat) : tx (a ++ b) = tx a ++ tx b := by
  show (⟨_⟩ : Str) = ⟨_⟩
  simp
theorem tx_len (a : List Nat) : (tx a).length = a.length := by
  show a.toArray.size = _
  simp
section
variable {X : L2.Cx} {pins : List (Addr × Obj)} {σ : L2.St} {H : Hp} {s : Shared} {μ : List Addr}
theorem binop_run (I : Inv X pins σ H s) (hm : ∀ a ∈ μ, H a ≠ none) {o : BinO} {px py pz : PV} {x y : V} {v u : Value} {Q : VK} (rx : RelV x v) (ry : RelV y u) (hx : RepB X.K H px x) (hy : RepB X.K H py y) (e : binop o px py = some pz)
    (q : New X.K H μ pz Q) : wpAny (model X.prog X.w) X.A (binaryOp (opO o) v u) (EP X pins σ Q) X.xe s := by
  cases o with
  | add =>
    cases px with
    | int i =>
      cases py with
      | int j =>
        cases (show x = .int i from hx); cases (show y = .int j from hy); cases e
        exact op_add pins s σ H _ _ v u Q I rx ry ⟨i, j, rfl, rfl, q.flat rfl⟩
      | _ => cases e
    | str a =>
      cases py with
      | str b =>
        obtain ⟨hx, hx2⟩ := (show x = .str (tx a) ∧ _ from hx)
        obtain ⟨hy, hy2⟩ := (show y = .str (tx b) ∧ _ from hy)
        simp only [binop] at e
        split at e
        · rename_i hf
          cases e
          have hf := fits_le hf
          refine op_add_str pins s σ H _ _ v u Q I rx ry ⟨tx a, tx b, hx, hy, by rw [tx_len, tx_len]; exact hf, q.flat ?_⟩
          exact ⟨by rw [tx_app], by rw [List.length_append]; exact hf⟩
        · cases e
      | _ => cases e
    | tup xs =>
      cases py with
      | tup ys =>
        obtain ⟨a, vs, rfl, ha, ra, la⟩ := (show ∃ a vs, x = .ref a ∧ SqT X.K H a vs ∧ RepL X.K H xs vs ∧ _ from hx)
        obtain ⟨b, us, rfl, hb, rb, lb⟩ := (show ∃ a vs, y = .ref a ∧ SqT X.K H a vs ∧ RepL X.K H ys vs ∧ _ from hy)
        simp only [binop] at e
        split at e
        · rename_i hf
          cases e
          have hf := fits_le hf
          have la' := ra.length
          have lb' := rb.length
          refine op_catA pins s σ H _ _ v u Q I rx ry ⟨a, b, vs, us, rfl, rfl, ha, hb, by omega, fun e0 => ?_, fun _ e1 => ?_, fun _ _ => ?_⟩
          · rw [e0] at la'
            have : xs = [] := List.eq_nil_of_length_eq_zero la'
            subst this
            exact q.flat ⟨b, us, rfl, hb, rb, lb⟩
          · rw [e1] at lb'
            have : ys = [] := List.eq_nil_of_length_eq_zero lb'
            subst this
            refine q.flat ⟨a, vs, rfl, ha, ?_, ?_⟩
            · rw [List.append_nil]; exact ra
            · rw [List.append_nil]; exact la
          · exact q.tup (ra.append rb) (by rw [List.length_append]; exact hf) hm
        · cases e
      | _ => cases e
    | lst xs =>
      cases py with
      | lst ys =>
        obtain ⟨a, vs, rfl, ha, ra, la⟩ := (show ∃ a vs, x = .ref a ∧ Rd H a (.lst vs) ∧ RepL X.K H xs vs ∧ _ from hx)
        obtain ⟨b, us, rfl, hb, rb, lb⟩ := (show ∃ a vs, y = .ref a ∧ Rd H a (.lst vs) ∧ RepL X.K H ys vs ∧ _ from hy)
        simp only [binop] at e
        split at e
        · rename_i hf
          cases e
          have hf := fits_le hf
          have la' := ra.length
          have lb' := rb.length
          cases (show v = Value.ref a from rx)
          cases (show u = Value.ref b from ry)
          exact cat_run I ha hb (by omega) (q.list (ra.append rb) (by rw [List.length_append]; exact hf) hm)
        · cases e
      | _ => cases e
    | _ => cases py <;> cases e
  | sub =>
    cases px with
    | int i =>
      cases py with
      | int j =>
        cases (show x = .int i from hx); cases (show y = .int j from hy); cases e
        exact op_sub pins s σ H _ _ v u Q I rx ry ⟨i, j, rfl, rfl, q.flat rfl⟩
      | _ => cases e
    | _ => cases py <;> cases e
  | mul =>
    cases px with
    | int i =>
      cases py with
      | int j =>
        cases (show x = .int i from hx); cases (show y = .int j from hy)
        simp only [binop] at e
        split at e
        · rename_i hc
          cases e
          exact op_mul pins s σ H _ _ v u Q I rx ry ⟨i, j, rfl, rfl, by unfold big64 at hc; unfold CMul; omega, q.flat rfl⟩
        · cases e
      | _ => cases e
    | lst xs =>
      cases py with
      | int j =>
        obtain ⟨a, vs, rfl, ha, ra, la⟩ := (show ∃ a vs, x = .ref a ∧ Rd H a (.lst vs) ∧ RepL X.K H xs vs ∧ _ from hx)
        cases (show y = .int j from hy)
        simp only [binop] at e
        split at e
        · rename_i hc
          split at e
          · rename_i hf
            cases e
            have hf := fits_le hf
            have la' := ra.length
            cases (show v = Value.ref a from rx)
            obtain ⟨t, rfl⟩ := (show ∃ t, u = Value.int j t from ry)
            refine rep_run I ha hc.1 hc.2 (by rw [← la']; exact hf) (q.list (ra.rep _) (by rw [repL_len, Nat.mul_comm]; exact hf) hm)
          · cases e
        · cases e
      | _ => cases e
    | tup xs =>
      cases py with
      | int j =>
        obtain ⟨a, vs, rfl, ha, ra, la⟩ := (show ∃ a vs, x = .ref a ∧ SqT X.K H a vs ∧ RepL X.K H xs vs ∧ _ from hx)
        cases (show y = .int j from hy)
        simp only [binop] at e
        split at e
        · rename_i hc
          cases e
          have la' := ra.length
          refine op_repT pins s σ H _ _ v u Q I rx ry ⟨a, j, vs, rfl, rfl, ha, ?_, hc.1, hc.2.1, by omega, q.tup (ra.rep _) ?_ hm⟩
          · intro z
            rw [z] at la'
            exact hc.2.2.1 (List.eq_nil_of_length_eq_zero la')
          · rw [repL_len, sizeLine_eq]
            have a1 : j.toNat * xs.length ≤ 1000 * 1000 := Nat.mul_le_mul (by omega) hc.2.2.2
            omega
        · cases e
      | _ => cases e
    | _ => cases py <;> cases e
  | fdiv =>
    cases px with
    | int i =>
      cases py with
      | int j =>
        cases (show x = .int i from hx); cases (show y = .int j from hy)
        simp only [binop] at e
        split at e
        · rename_i hc
          cases e
          exact op_fdivW pins s σ H _ _ v u Q I rx ry ⟨i, j, rfl, rfl, wide_div hc.1 hc.2 (by decide) (by decide), q.flat rfl⟩
        · cases e
      | _ => cases e
    | _ => cases py <;> cases e
  | mod =>
    cases px with
    | int i =>
      cases py with
      | int j =>
        cases (show x = .int i from hx); cases (show y = .int j from hy)
        simp only [binop] at e
        split at e
        · rename_i hc
          cases e
          exact op_mod pins s σ H _ _ v u Q I rx ry ⟨i, j, rfl, rfl, hc, q.flat rfl⟩
        · cases e
      | _ => cases e
    | _ => cases py <;> cases e
  | pow =>
    cases px with
    | int i =>
      cases py with
      | int j =>
        cases (show x = .int i from hx); cases (show y = .int j from hy)
        simp only [binop] at e
        split at e
        · rename_i hc
          cases e
          exact op_pow pins s σ H _ _ v u Q I rx ry ⟨i, j, rfl, rfl, ⟨hc.1, by omega, by omega⟩, q.flat rfl⟩
        · cases e
      | _ => cases e
    | _ => cases py <;> cases e
end
end Rx
end
section
set_option Elab.async false
set_option linter.all false
set_option maxRecDepth 100000
set_option maxHeartbeats 1000000
/-! Rx eq: == of data. -/
namespace Rx
open PySem PySem.Spec PyProof.Rows L2
open AutoSeq1 (wpAny_loadPart')
open MeetsSeq MeetsSeq2 MeetsSeq3 SeqRoads2

section
variable {P : Program} {w : World}
/-- tuple == tuple in one model, item by item -/
theorem tup_eqIn (p q : Addr) (us ws : Array Value) (n m : Nat) (d1 d2 : Option Addr) (z1 z2 : Array (Option Value)) (e : Nat → Bool) :
    MeetsIn P w (Builtin.«tuple.__eq__» ⟨[.ref p, .ref q], []⟩)
      (fun A R s => s.heap.get? p = some { cls := .type "tuple", dict := d1, data := .seq us n, slots := z1 } ∧ s.heap.get? q = some { cls := .type "tuple", dict := d2, data := .seq ws m, slots := z2 } ∧
        (∀ k (g : k < us.size) (g2 : k < ws.size), SeqAt.EqP P w A.in1 s us[k] ws[k] (e k)) ∧
        R (.ok (.ret (.bool ((List.range (min us.size ws.size)).all e && us.size == ws.size)))) s) := by
  intro A R s hyp
  obtain ⟨h0, g0, d0, t0, o0⟩ := s
  obtain ⟨hp, hq, hitem, hyp⟩ := hyp
  have fsub := AutoSeq1.sub_tuple_tuple
  have hlen : (us.toList.zip ws.toList).length = min us.size ws.size := by simp
  wp_walk using wpAny_loadPart' hp, wpAny_loadPart' hq, wpAny_forIn_list _ (fun rs b s' => b.1 = none ∧ s' = ⟨h0, g0, d0, t0, o0⟩ ∧ ∃ k, rs = (us.toList.zip ws.toList).drop k ∧
      R (.ok (.ret (.bool (((List.range (min us.size ws.size)).drop k).all e && us.size == ws.size)))) ⟨h0, g0, d0, t0, o0⟩) _
  case turn =>
    rintro ⟨y, x⟩ rs b s' ⟨hb0, rfl, k, hz, hR⟩
    have hk : k < (us.toList.zip ws.toList).length := by
      apply Classical.byContradiction
      intro hn
      rw [List.drop_of_length_le (Nat.not_lt.mp hn)] at hz
      cases hz
    have hmin : k < min us.size ws.size := by rw [← hlen]; exact hk
    have k1 : k < us.size := by omega
    have k2 : k < ws.size := by omega
    rw [List.drop_eq_getElem_cons hk] at hz
    injection hz with hpair htail
    obtain rfl : y = us[k] := by simpa using congrArg Prod.fst hpair
    obtain rfl : x = ws[k] := by simpa using congrArg Prod.snd hpair
    rw [show (List.range (min us.size ws.size)).drop k = k :: (List.range (min us.size ws.size)).drop (k + 1) by simp [List.drop_eq_getElem_cons, hmin], List.all_cons] at hR
    refine wpAny_bind (hitem k k1 k2 _ _ ?_)
    cases hv : e k with
    | true =>
      rw [hv] at hR
      wp_walk
      exact ⟨rfl, rfl, k + 1, htail, by simpa using hR⟩
    | false =>
      rw [hv] at hR
      wp_walk
      simpa using hR
  case fin =>
    rintro ⟨b1, b2⟩ s' ⟨hb0, rfl, k, hz, hR⟩
    obtain rfl : b1 = none := hb0
    have hk : min us.size ws.size ≤ k := by
      have q := congrArg List.length hz
      simp at q
      omega
    rw [List.drop_of_length_le (by simpa using hk)] at hR
    wp_walk
    simpa [Builtin.Tuple.tupleCompareSizes] using hR
  case h => exact ⟨rfl, rfl, 0, rfl, by simpa using hyp⟩
theorem tup_rc {A : Around} {s : Shared} {p q : Addr} {us ws : Array Value} {e : Nat → Bool} (hp : s.heap.IsTuple p us) (hq : s.heap.IsTuple q ws) (room : A.units < cLine)
    (he : ∀ k (g : k < us.size) (g2 : k < ws.size), SeqAt.EqP P w A.in1 s us[k] ws[k] (e k)) (E Q : Value → Shared → Prop) (fin : Q (.bool ((List.range (min us.size ws.size)).all e && us.size == ws.size)) s) : wpAny (model P w) A (richCompare .Eq (.ref p) (.ref q)) Q E s := by
  obtain ⟨⟨c1, d1, x1, z1⟩, i1, j1, n, l1⟩ := id hp
  obtain ⟨⟨c2, d2, x2, z2⟩, i2, j2, m, l2⟩ := id hq
  simp only at j1 l1 j2 l2
  subst j1 l1 j2 l2
  have ta : s.TypeIs (.ref p) "tuple" := ⟨_, i1, rfl⟩
  refine wpAny_richCompare_same_room (op := .Eq) ta ⟨_, i2, rfl⟩ F.slot_tuple_eq (call_meetsIn F.slot_tuple_eq ta F.entry_tuple_eq (F.args_tuple_eq_2 _ _) (tup_eqIn p q us ws n m d1 d2 z1 z2 e) ⟨i1, i2, he, ?_⟩) room
  exact ⟨(fun x => nomatch x), fin⟩
end

/-! ### keys -/
theorem eqN_iff : ∀ a b : List Nat, eqN a b = decide (a = b)
  | [], [] => rfl
  | [], _ :: _ => rfl
  | _ :: _, [] => rfl
  | a :: x, b :: y => by
    rw [eqN, eqN_iff x y]
    by_cases h : a = b
    · subst h
      simp
    · have : Nat.beq a b = false := by
        cases e : Nat.beq a b with
        | false => rfl
        | true => exact absurd (Nat.eq_of_beq_eq_true e) h
      rw [this]
      simp [h]
theorem key_eqv {k a : PV} {j i : Key} (hk : keyOf k = some j) (ha : keyOf a = some i) : eqv k a = decide (j = i) := by
  cases k <;> cases hk <;> cases a <;> cases ha
  · simp [eqv]
  · simp [eqv]
  · simp [eqv]
  · rename_i x y
    rw [eqv, eqN_iff]
    by_cases h : x = y
    · subst h; simp
    · have : ¬ (Sum.inr (tx x) : Key) = Sum.inr (tx y) := fun e => h (tx_inj (Sum.inr.inj e))
      rw [decide_eq_false h, decide_eq_false this]
section
variable {K : PySem.W.Frag} {H : Hp}
theorem RepK.get : ∀ {kvs : List (PV × PV)} {ks : List (Key × V)} {k : PV} {j : Key}, RepK K H kvs ks → keyOf k = some j →
    (dget k kvs = none ∧ valV ks j = none) ∨ ∃ x v, dget k kvs = some x ∧ valV ks j = some v ∧ Rep K H x v
  | [], [], k, j, _, _ => .inl ⟨rfl, rfl⟩
  | (a, x) :: r, (i, v) :: t, k, j, h, hk => by
    obtain ⟨h1, h2, h3⟩ := h
    have e := key_eqv h1.1 hk
    by_cases hij : i = j
    · rw [decide_eq_true hij] at e
      exact .inr ⟨x, v, by rw [dget, if_pos e], valV_pos hij, h2⟩
    · rw [decide_eq_false hij] at e
      rw [dget, if_neg (by rw [e]; decide), valV_neg (p := (i, v)) hij]
      exact RepK.get h3 hk
theorem eqvG_get : ∀ {ys : List (PV × PV)} {ks : List (Key × V)} {k v : PV} {j : Key}, RepK K H ys ks → keyOf k = some j → eqvG k v ys = (match dget k ys with | none => false | some u => eqv v u)
  | [], _, k, v, j, _, _ => by rw [eqvG, dget]
  | (a, x) :: r, (i, y) :: t, k, v, j, h, hk => by
    obtain ⟨h1, h2, h3⟩ := h
    rw [eqvG, dget, key_eqv hk h1.1, key_eqv h1.1 hk]
    by_cases hij : i = j
    · subst hij
      simp
    · rw [decide_eq_false hij, decide_eq_false (fun e => hij e.symm)]
      simp only [Bool.false_eq_true, if_false]
      exact eqvG_get h3 hk
end
/-! ### lists, item by item -/
def itv (xs ys : List PV) (j : Nat) : Bool := eqv (xs.getD j .non) (ys.getD j .non)
theorem eqvL_range : ∀ xs ys : List PV, ((List.range (min xs.length ys.length)).all (itv xs ys) && xs.length == ys.length) = eqvL xs ys
  | [], [] => by simp [eqvL]
  | [], _ :: _ => by simp [eqvL]
  | _ :: _, [] => by simp [eqvL]
  | x :: xs, y :: ys => by
    rw [eqvL, ← eqvL_range xs ys, List.length_cons, List.length_cons, Nat.succ_min_succ, List.range_succ_eq_map, List.all_cons, List.all_map]
    have : (itv (x :: xs) (y :: ys)) ∘ Nat.succ = itv xs ys := rfl
    rw [this]
    have e : (xs.length + 1 == ys.length + 1) = (xs.length == ys.length) := by simp
    rw [e, Bool.and_assoc]
    rfl
theorem eqKL_get : ∀ {f : PV → PV → Bool} {xs ys : List PV} {j : Nat}, eqKL f xs ys = true → j < xs.length → j < ys.length → f (xs.getD j .non) (ys.getD j .non) = true
  | f, x :: xs, y :: ys, 0, h, _, _ => by
    rw [eqKL, Bool.and_eq_true] at h
    exact h.1
  | f, x :: xs, y :: ys, j + 1, h, h1, h2 => by
    rw [eqKL, Bool.and_eq_true] at h
    exact eqKL_get (xs := xs) (ys := ys) h.2 (Nat.lt_of_succ_lt_succ h1) (Nat.lt_of_succ_lt_succ h2)
  | f, [], ys, j, _, h1, _ => absurd h1 (Nat.not_lt_zero _)
  | f, x :: xs, [], j, _, _, h2 => absurd h2 (Nat.not_lt_zero _)
theorem RepL.at {K : PySem.W.Frag} {H : Hp} : ∀ {xs : List PV} {vs : List V} {us : List Value} {j : Nat}, RepL K H xs vs → Vals vs us → (h : j < us.length) → ∃ v, Rep K H (xs.getD j .non) v ∧ RelV v us[j]
  | x :: xs, v :: vs, u :: us, 0, h, r, _ => by
    cases r with
    | cons a b => exact ⟨v, h.1, a⟩
  | x :: xs, v :: vs, u :: us, j + 1, h, r, hj => by
    cases r with
    | cons a b => exact RepL.at h.2 b (Nat.lt_of_succ_lt_succ hj)
  | [], [], _, j, _, r, hj => by
    cases r
    exact absurd hj (Nat.not_lt_zero _)
section
variable {X : L2.Cx} {pins : List (Addr × Obj)} {σ : L2.St} {H : Hp} {s : Shared}
theorem Rd.tupI (I : Inv X pins σ H s) {a : Addr} {vs : List V} (h : SqT X.K H a vs) : ∃ its : List Value, Vals vs its ∧ s.heap.IsTuple a its.toArray := by
  obtain ⟨its, r, p, _⟩ := I.tuple h
  exact ⟨its, r, p⟩
theorem Rd.lstI (I : Inv X pins σ H s) {a : Addr} {vs : List V} (h : Rd H a (.lst vs)) : ∃ its : List Value, Vals vs its ∧ s.heap.IsList a its.toArray := by
  obtain ⟨its, r, p, _⟩ := I.list (.inl h)
  exact ⟨its, r, p.isList⟩
theorem Rd.dctI (I : Inv X pins σ H s) {a : Addr} {ks : List (Key × V)} (h : Rd H a (.dK ks)) : (a == sysModules) = false ∧ ∃ va : List (Key × Value), KV ks va ∧ s.heap.DictOf (mixKind X.prog X.w) a va := by
  obtain ⟨_, y, va, r, d⟩ := h.ok I.hok
  exact ⟨y, va, r, d⟩
/-- what is to be shown of a pair -/
def EqRun (X : L2.Cx) (A : Around) (s : Shared) (px py : PV) (v u : Value) : Prop :=
  ∀ (E Q : Value → Shared → Prop), Q (.bool (eqv px py)) s → wpAny (model X.prog X.w) A (richCompare .Eq v u) Q E s
theorem hits_at {A : Around} {f : PV → PV → Bool} {ys : List (PV × PV)} {ls : List (Key × V)} {vb : List (Key × Value)} (ry : RepK X.K H ys ls) (rb : KV ls vb)
    (ih : ∀ px py x y v u, f px py = true → Rep X.K H px x → Rep X.K H py y → RelV x v → RelV y u → SeqAt.EqP X.prog X.w A s v u (eqv px py)) :
    ∀ {xs : List (PV × PV)} {ks : List (Key × V)} {va : List (Key × Value)}, RepK X.K H xs ks → KV ks va → eqKD f ys xs = true → PySem.W.KeqHitsP X.prog X.w A s vb va (eqvD xs ys)
  | [], [], va, _, r, _ => by
    cases r
    rw [eqvD]
    exact .nil
  | (k, x) :: xs, (j, v) :: ks, va, h, r, hf => by
    cases r with
    | @cons _ q _ qs r1 r2 =>
      obtain ⟨h0, h1, h2⟩ := h
      obtain ⟨q1, q2⟩ := q
      obtain ⟨e1, e2⟩ := r1
      simp only at e1 e2
      subst e1
      rw [eqKD, Bool.and_eq_true] at hf
      rw [eqvD, eqvG_get ry h0.1]
      have val := rb.val j
      rcases RepK.get ry h0.1 with ⟨g1, g2⟩ | ⟨y, w, g1, g2, g3⟩
      · rw [g1]
        rw [g2] at val
        have hv : valueAt vb j = none := by
          cases e : valueAt vb j with
          | none => rfl
          | some z => rw [e] at val; exact val.elim
        exact .miss hv
      · rw [g1] at hf ⊢
        rw [g2] at val
        obtain ⟨z, hz, rz⟩ := RelO.some_of val
        exact .hit hz (ih _ _ _ _ _ _ hf.1 h1 g3 e2 rz) (hits_at ry rb ih h2 r2 hf.2)
theorem eq_of_run {A : Around} {px py : PV} {l b : Addr} (hne : l ≠ b) (h : EqRun X A s px py (.ref l) (.ref b)) : SeqAt.EqP X.prog X.w A s (.ref l) (.ref b) (eqv px py) := SeqAt.eqP_refs hne h
end
end Rx
end
section
set_option Elab.async false
set_option linter.all false
set_option maxRecDepth 100000
set_option maxHeartbeats 1000000
namespace Rx
open PySem PySem.Spec PyProof.Rows L2
section
variable {X : L2.Cx} {pins : List (Addr × Obj)} {σ : L2.St} {H : Hp} {s : Shared}
theorem valV_in : ∀ {ks : List (Key × V)} {j : Key} {v : V}, (ks.map (·.1)).Nodup → (j, v) ∈ ks → valV ks j = some v
  | (i, u) :: r, j, v, hn, hm => by
    rw [List.map_cons, List.nodup_cons] at hn
    rcases List.mem_cons.mp hm with e | hm
    · cases e
      exact valV_pos rfl
    · by_cases e : i = j
      · subst e
        exact absurd (List.mem_map_of_mem (f := (·.1)) hm) hn.1
      · rw [valV_neg (p := (i, u)) e]
        exact valV_in hn.2 hm
theorem Rd.dnd (I : Inv X pins σ H s) {a : Addr} {ks : List (Key × V)} (h : Rd H a (.dK ks)) : (ks.map (·.1)).Nodup := by
  obtain ⟨_, va, r, d⟩ := Rd.dctI I h
  rw [r.keys]
  obtain ⟨_, _, _, _, _, _, _, _, n⟩ := d
  exact n
theorem Rd.lst_inj {a : Addr} {us ws : List V} (h : Rd H a (.lst us)) (g : Rd H a (.lst ws)) : us = ws := by
  rcases h with h | ⟨o, h⟩ <;> rcases g with g | ⟨p, g⟩ <;> rw [h] at g <;> cases g <;> rfl
theorem Rd.dct_inj {a : Addr} {us ws : List (Key × V)} (h : Rd H a (.dK us)) (g : Rd H a (.dK ws)) : us = ws := by
  rcases h with h | ⟨o, h⟩ <;> rcases g with g | ⟨p, g⟩ <;> rw [h] at g <;> cases g <;> rfl
theorem eqN_self (a : List Nat) : eqN a a = true := by rw [eqN_iff]; simp
mutual
theorem Rep.same (I : Inv X pins σ H s) : ∀ (x y : PV) (v : V), Rep X.K H x v → Rep X.K H y v → eqv x y = true
  | .non, y, v, h, g => by
    cases (show v = .non from h)
    cases y with
    | non => simp [eqv]
    | bl _ => exact nomatch (show V.non = .bl _ from g)
    | int _ => exact nomatch (show V.non = .int _ from g)
    | str _ => exact nomatch (show V.non = .str _ ∧ _ from g).1
    | tup _ => obtain ⟨_, _, e, _⟩ := g; exact nomatch e
    | lst _ => obtain ⟨_, _, e, _⟩ := g; exact nomatch e
    | dct _ => obtain ⟨_, _, _, e, _⟩ := g; exact nomatch e
    | set _ => exact g.elim
  | .bl b, y, v, h, g => by
    cases (show v = .bl b from h)
    cases y with
    | non => exact nomatch (show V.bl b = .non from g)
    | bl _ => cases (show V.bl b = .bl _ from g); simp [eqv]
    | int _ => exact nomatch (show V.bl b = .int _ from g)
    | str _ => exact nomatch (show V.bl b = .str _ ∧ _ from g).1
    | tup _ => obtain ⟨_, _, e, _⟩ := g; exact nomatch e
    | lst _ => obtain ⟨_, _, e, _⟩ := g; exact nomatch e
    | dct _ => obtain ⟨_, _, _, e, _⟩ := g; exact nomatch e
    | set _ => exact g.elim
  | .int i, y, v, h, g => by
    cases (show v = .int i from h)
    cases y with
    | non => exact nomatch (show V.int i = .non from g)
    | bl _ => exact nomatch (show V.int i = .bl _ from g)
    | int _ => cases (show V.int i = .int _ from g); simp [eqv]
    | str _ => exact nomatch (show V.int i = .str _ ∧ _ from g).1
    | tup _ => obtain ⟨_, _, e, _⟩ := g; exact nomatch e
    | lst _ => obtain ⟨_, _, e, _⟩ := g; exact nomatch e
    | dct _ => obtain ⟨_, _, _, e, _⟩ := g; exact nomatch e
    | set _ => exact g.elim
  | .str x, y, v, h, g => by
    obtain ⟨e0, _⟩ := (show v = .str (tx x) ∧ _ from h)
    subst e0
    cases y with
    | non => exact nomatch (show V.str _ = .non from g)
    | bl _ => exact nomatch (show V.str _ = .bl _ from g)
    | int _ => exact nomatch (show V.str _ = .int _ from g)
    | str y =>
      obtain ⟨e, _⟩ := (show V.str (tx x) = .str (tx y) ∧ _ from g)
      have : x = y := tx_inj (V.str.inj e)
      subst this
      simp [eqv, eqN_self]
    | tup _ => obtain ⟨_, _, e, _⟩ := g; exact nomatch e
    | lst _ => obtain ⟨_, _, e, _⟩ := g; exact nomatch e
    | dct _ => obtain ⟨_, _, _, e, _⟩ := g; exact nomatch e
    | set _ => exact g.elim
  | .tup xs, y, v, ⟨a, vs, e, h1, h2, _⟩, g => by
    subst e
    cases y with
    | non => exact nomatch (show V.ref _ = .non from g)
    | bl _ => exact nomatch (show V.ref _ = .bl _ from g)
    | int _ => exact nomatch (show V.ref _ = .int _ from g)
    | str _ => exact nomatch (show V.ref _ = .str _ ∧ _ from g).1
    | tup ys =>
      obtain ⟨b, ws, e, g1, g2, _⟩ := g
      cases e
      cases I.tuple_inj h1 g1
      rw [eqv]
      exact RepL.same I xs ys _ h2 g2
    | lst ys =>
      obtain ⟨b, ws, e, g1, g2, _⟩ := g
      cases e
      exact absurd rfl (SeqAt.ne_of_list_tuple (Rd.lstI I g1.rd).choose_spec.2 (Rd.tupI I h1).choose_spec.2)
    | dct ys =>
      obtain ⟨b, o, ws, e, g1, g2, _⟩ := g
      cases e
      exact absurd (Rd.tupI I h1).choose_spec.2 (by
        rintro ⟨o1, e1, c1, _⟩
        obtain ⟨_, va, _, o2, _, _, e2, c2, _⟩ := Rd.dctI I (.inr ⟨o, g1⟩)
        rw [e1] at e2
        cases e2
        exact absurd (c1.symm.trans c2.1) (by decide))
    | set _ => exact g.elim
  | .lst xs, y, v, ⟨a, vs, e, h1, h2, _⟩, g => by
    subst e
    cases y with
    | non => exact nomatch (show V.ref _ = .non from g)
    | bl _ => exact nomatch (show V.ref _ = .bl _ from g)
    | int _ => exact nomatch (show V.ref _ = .int _ from g)
    | str _ => exact nomatch (show V.ref _ = .str _ ∧ _ from g).1
    | tup ys =>
      obtain ⟨b, ws, e, g1, g2, _⟩ := g
      cases e
      exact absurd rfl (SeqAt.ne_of_list_tuple (Rd.lstI I h1.rd).choose_spec.2 (Rd.tupI I g1).choose_spec.2)
    | lst ys =>
      obtain ⟨b, ws, e, g1, g2, _⟩ := g
      cases e
      cases Rd.lst_inj h1.rd g1.rd
      rw [eqv]
      exact RepL.same I xs ys _ h2 g2
    | dct ys =>
      obtain ⟨b, o, ws, e, g1, g2, _⟩ := g
      cases e
      obtain ⟨p, h1⟩ := h1
      rw [h1] at g1
      cases g1
    | set _ => exact g.elim
  | .dct xs, y, v, ⟨a, o, ks, e, h1, h2, _⟩, g => by
    subst e
    cases y with
    | non => exact nomatch (show V.ref _ = .non from g)
    | bl _ => exact nomatch (show V.ref _ = .bl _ from g)
    | int _ => exact nomatch (show V.ref _ = .int _ from g)
    | str _ => exact nomatch (show V.ref _ = .str _ ∧ _ from g).1
    | tup ys =>
      obtain ⟨b, ws, e, g1, g2, _⟩ := g
      cases e
      exact absurd (Rd.tupI I g1).choose_spec.2 (by
        rintro ⟨o1, e1, c1, _⟩
        obtain ⟨_, va, _, o2, _, _, e2, c2, _⟩ := Rd.dctI I (.inr ⟨o, h1⟩)
        rw [e1] at e2
        cases e2
        exact absurd (c1.symm.trans c2.1) (by decide))
    | lst ys =>
      obtain ⟨b, ws, e, g1, g2, _⟩ := g
      cases e
      obtain ⟨p, g1⟩ := g1
      rw [h1] at g1
      cases g1
    | dct ys =>
      obtain ⟨b, p, ws, e, g1, g2, _⟩ := g
      cases e
      rw [h1] at g1
      cases g1
      rw [eqv]
      have hn := Rd.dnd I (.inr ⟨o, h1⟩)
      rw [show xs.length = ys.length from h2.length.trans g2.length.symm]
      have e1 : Nat.beq ys.length ys.length = true := Nat.beq_refl _
      rw [e1, Bool.true_and]
      exact RepK.same I xs ks ys ks h2 g2 hn (fun _ h => h)
    | set _ => exact g.elim
  | .set _, _, _, h, _ => h.elim
theorem RepL.same (I : Inv X pins σ H s) : ∀ (xs ys : List PV) (vs : List V), RepL X.K H xs vs → RepL X.K H ys vs → eqvL xs ys = true
  | [], [], [], _, _ => by rw [eqvL]
  | x :: xs, y :: ys, v :: vs, h, g => by
    rw [eqvL, Rep.same I x y v h.1 g.1, RepL.same I xs ys vs h.2 g.2]
    rfl
  | [], _ :: _, [], _, g => g.elim
  | [], _, _ :: _, h, _ => h.elim
  | _ :: _, _, [], h, _ => h.elim
  | _ :: _, [], _ :: _, _, g => g.elim
theorem RepK.same (I : Inv X pins σ H s) : ∀ (xs : List (PV × PV)) (ks : List (Key × V)) (ys : List (PV × PV)) (ls : List (Key × V)), RepK X.K H xs ks → RepK X.K H ys ls → (ls.map (·.1)).Nodup → (∀ p ∈ ks, p ∈ ls) → eqvD xs ys = true
  | [], [], ys, ls, _, _, _, _ => by rw [eqvD]
  | (k, x) :: xs, (j, v) :: ks, ys, ls, h, g, hn, hm => by
    obtain ⟨h0, h1, h2⟩ := h
    rw [eqvD, eqvG_get g h0.1, RepK.same I xs ks ys ls h2 g hn (fun p hp => hm p (List.mem_cons_of_mem _ hp))]
    have hv := valV_in hn (hm (j, v) List.mem_cons_self)
    rcases RepK.get g h0.1 with ⟨g1, g2⟩ | ⟨y, w, g1, g2, g3⟩
    · rw [g2] at hv; cases hv
    · rw [g2] at hv
      cases hv
      rw [g1]
      simp only [Bool.and_true]
      exact Rep.same I x y v h1 g3
  | [], _ :: _, _, _, h, _, _, _ => h.elim
  | (_, _) :: _, [], _, _, h, _, _, _ => h.elim
end
end

section
variable {X : L2.Cx} {pins : List (Addr × Obj)} {σ : L2.St} {H : Hp} {s : Shared}
/-- a thing on the heap, at the address a -/
def AtH (X : L2.Cx) (H : Hp) (a : Addr) : PV → Prop
  | .tup xs => ∃ vs, SqT X.K H a vs ∧ RepL X.K H xs vs
  | .lst xs => ∃ vs, Rd H a (.lst vs) ∧ RepL X.K H xs vs
  | .dct xs => ∃ ks, Rd H a (.dK ks) ∧ RepK X.K H xs ks
  | _ => False
theorem AtH.of {px : PV} {a : Addr} (h : RepB X.K H px (.ref a)) : AtH X H a px := by
  cases px with
  | non => exact nomatch (show V.ref _ = .non from h)
  | bl _ => exact nomatch (show V.ref _ = .bl _ from h)
  | int _ => exact nomatch (show V.ref _ = .int _ from h)
  | str _ => exact nomatch (show V.ref _ = .str _ ∧ _ from h).1
  | tup xs =>
    obtain ⟨b, vs, e, h1, h2, _⟩ := (show ∃ a' vs, V.ref a = .ref a' ∧ SqT X.K H a' vs ∧ RepL X.K H xs vs ∧ _ from h)
    cases e
    exact ⟨vs, h1, h2⟩
  | lst xs =>
    obtain ⟨b, vs, e, h1, h2, _⟩ := (show ∃ a' vs, V.ref a = .ref a' ∧ Rd H a' (.lst vs) ∧ RepL X.K H xs vs ∧ _ from h)
    cases e
    exact ⟨vs, h1, h2⟩
  | dct xs =>
    obtain ⟨b, vs, e, h1, h2, _⟩ := (show ∃ a' vs, V.ref a = .ref a' ∧ Rd H a' (.dK vs) ∧ RepK X.K H xs vs ∧ _ from h)
    cases e
    exact ⟨vs, h1, h2⟩
  | set _ => exact (show False from h).elim
theorem not_tup_lst (I : Inv X pins σ H s) {a : Addr} {us ws : List V} (h : SqT X.K H a us) (g : Rd H a (.lst ws)) : False :=
  absurd rfl (SeqAt.ne_of_list_tuple (Rd.lstI I g).choose_spec.2 (Rd.tupI I h).choose_spec.2)
theorem not_tup_dct (I : Inv X pins σ H s) {a : Addr} {us : List V} {ws : List (Key × V)} (h : SqT X.K H a us) (g : Rd H a (.dK ws)) : False := by
  obtain ⟨o1, e1, c1, _⟩ := (Rd.tupI I h).choose_spec.2
  obtain ⟨_, va, _, o2, _, _, e2, c2, _⟩ := Rd.dctI I g
  rw [e1] at e2
  cases e2
  exact absurd (c1.symm.trans c2.1) (by decide)
theorem not_lst_dct {a : Addr} {us : List V} {ws : List (Key × V)} (h : Rd H a (.lst us)) (g : Rd H a (.dK ws)) : False := by
  rcases h with h | ⟨o, h⟩ <;> rcases g with g | ⟨p, g⟩ <;> rw [h] at g <;> cases g
theorem AtH.same (I : Inv X pins σ H s) {px py : PV} {a : Addr} (h : AtH X H a px) (g : AtH X H a py) : eqv px py = true := by
  cases px with
  | tup xs =>
    obtain ⟨vs, h1, h2⟩ := h
    cases py with
    | tup ys =>
      obtain ⟨ws, g1, g2⟩ := g
      cases I.tuple_inj h1 g1
      rw [eqv]
      exact RepL.same I xs ys _ h2 g2
    | lst ys => obtain ⟨ws, g1, g2⟩ := g; exact (not_tup_lst I h1 g1).elim
    | dct ys => obtain ⟨ws, g1, g2⟩ := g; exact (not_tup_dct I h1 g1).elim
    | _ => exact (show False from g).elim
  | lst xs =>
    obtain ⟨vs, h1, h2⟩ := h
    cases py with
    | tup ys => obtain ⟨ws, g1, g2⟩ := g; exact (not_tup_lst I g1 h1).elim
    | lst ys =>
      obtain ⟨ws, g1, g2⟩ := g
      cases Rd.lst_inj h1 g1
      rw [eqv]
      exact RepL.same I xs ys _ h2 g2
    | dct ys => obtain ⟨ws, g1, g2⟩ := g; exact (not_lst_dct h1 g1).elim
    | _ => exact (show False from g).elim
  | dct xs =>
    obtain ⟨vs, h1, h2⟩ := h
    cases py with
    | tup ys => obtain ⟨ws, g1, g2⟩ := g; exact (not_tup_dct I g1 h1).elim
    | lst ys => obtain ⟨ws, g1, g2⟩ := g; exact (not_lst_dct g1 h1).elim
    | dct ys =>
      obtain ⟨ws, g1, g2⟩ := g
      cases Rd.dct_inj h1 g1
      rw [eqv, show xs.length = ys.length from h2.length.trans g2.length.symm]
      have e1 : Nat.beq ys.length ys.length = true := Nat.beq_refl _
      rw [e1, Bool.true_and]
      exact RepK.same I xs _ ys _ h2 g2 (Rd.dnd I h1) (fun _ h => h)
    | _ => exact (show False from g).elim
  | _ => exact (show False from h).elim
/-- two things on the heap -/
theorem heap_run (I : Inv X pins σ H s) {A : Around} {n : Nat} (hu : A.units < cLine)
    (ih : ∀ px py x y v u, eqK n px py = true → Rep X.K H px x → Rep X.K H py y → RelV x v → RelV y u → SeqAt.EqP X.prog X.w A.in1 s v u (eqv px py)) {px py : PV} {a b : Addr} (hk : eqK (n + 1) px py = true) (h : AtH X H a px) (g : AtH X H b py) :
    EqRun X A s px py (.ref a) (.ref b) := by
  intro E Q q
  cases px with
  | tup xs =>
    obtain ⟨vs, h1, h2⟩ := h
    obtain ⟨us, r1, p1⟩ := Rd.tupI I h1
    cases py with
    | tup ys =>
      obtain ⟨ws, g1, g2⟩ := g
      obtain ⟨ts, r2, p2⟩ := Rd.tupI I g1
      have hk : eqKL (eqK n) xs ys = true := hk
      have l1 : xs.length = us.toArray.size := by rw [List.size_toArray, ← r1.length, h2.length]
      have l2 : ys.length = ts.toArray.size := by rw [List.size_toArray, ← r2.length, g2.length]
      refine tup_rc (e := itv xs ys) p1 p2 hu (fun k k1 k2 => ?_) E Q ?_
      · obtain ⟨v, i1, i2⟩ := h2.at r1 (by simpa using k1)
        obtain ⟨w, j1, j2⟩ := g2.at r2 (by simpa using k2)
        exact ih _ _ _ _ _ _ (eqKL_get hk (by rw [l1]; exact k1) (by rw [l2]; exact k2)) i1 j1 (by simpa using i2) (by simpa using j2)
      · rw [eqv, ← eqvL_range] at q
        rw [← l1, ← l2]
        exact q
    | lst ys =>
      obtain ⟨ws, g1, g2⟩ := g
      obtain ⟨ts, r2, p2⟩ := Rd.lstI I g1
      exact SeqAt.RcAt.tuple_list p1 p2 hu _ _ E Q (by simpa [eqv] using q)
    | dct ys => exact nomatch (show false = true from hk)
    | _ => exact (show False from g).elim
  | lst xs =>
    obtain ⟨vs, h1, h2⟩ := h
    obtain ⟨us, r1, p1⟩ := Rd.lstI I h1
    cases py with
    | tup ys =>
      obtain ⟨ws, g1, g2⟩ := g
      obtain ⟨ts, r2, p2⟩ := Rd.tupI I g1
      exact SeqAt.RcAt.list_tuple p1 p2 hu _ _ E Q (by simpa [eqv] using q)
    | lst ys =>
      obtain ⟨ws, g1, g2⟩ := g
      obtain ⟨ts, r2, p2⟩ := Rd.lstI I g1
      have hk : eqKL (eqK n) xs ys = true := hk
      have l1 : xs.length = us.toArray.size := by rw [List.size_toArray, ← r1.length, h2.length]
      have l2 : ys.length = ts.toArray.size := by rw [List.size_toArray, ← r2.length, g2.length]
      rw [eqv, ← eqvL_range] at q
      by_cases hsz : xs.length = ys.length
      · refine SeqAt.rcP_lists (e := itv xs ys) p1 p2 (by omega) hu (fun k k1 k2 => ?_) E Q ?_
        · obtain ⟨v, i1, i2⟩ := h2.at r1 (by simpa using k1)
          obtain ⟨w, j1, j2⟩ := g2.at r2 (by simpa using k2)
          exact ih _ _ _ _ _ _ (eqKL_get hk (by rw [l1]; exact k1) (by rw [l2]; exact k2)) i1 j1 (by simpa using i2) (by simpa using j2)
        · rw [← l1]
          rw [← hsz, Nat.min_self] at q
          simpa using q
      · refine SeqAt.RcAt.lists_lengths p1 p2 (by rw [← l1, ← l2]; simpa using hsz) hu _ _ E Q ?_
        rw [show (xs.length == ys.length) = false by simpa using hsz, Bool.and_false] at q
        exact q
    | dct ys => exact nomatch (show false = true from hk)
    | _ => exact (show False from g).elim
  | dct xs =>
    obtain ⟨ks, h1, h2⟩ := h
    cases py with
    | dct ys =>
      obtain ⟨ls, g1, g2⟩ := g
      obtain ⟨ya, va, ra, da⟩ := Rd.dctI I h1
      obtain ⟨yb, vb, rb, db⟩ := Rd.dctI I g1
      refine PySem.W.rcP_dicts (knd := mixKind X.prog X.w) (r := eqvD xs ys) ya yb da db hu (fun _ => hits_at g2 rb ih h2 ra hk) E Q ?_
      rw [eqv] at q
      have e1 : (va.length == vb.length) = Nat.beq xs.length ys.length := by
        rw [← ra.length, ← rb.length, ← h2.length, ← g2.length, Bool.eq_iff_iff, beq_iff_eq, Nat.beq_eq]
      rw [e1]
      exact q
    | _ => exact nomatch (show false = true from hk)
  | _ => exact (show False from h).elim

theorem ref_of {px : PV} {x : V} {v : Value} (h : RepB X.K H px x) (r : RelV x v) : (∃ a, x = .ref a ∧ v = .ref a ∧ AtH X H a px) ∨ (∀ a, v ≠ .ref a) := by
  cases px with
  | non => cases (show x = .non from h); cases (show v = .none from r); exact .inr (fun _ e => nomatch e)
  | bl b => cases (show x = .bl b from h); cases (show v = .bool b from r); exact .inr (fun _ e => nomatch e)
  | int i => cases (show x = .int i from h); obtain ⟨t, rfl⟩ := (show ∃ t, v = .int i t from r); exact .inr (fun _ e => nomatch e)
  | str z =>
    obtain ⟨e, _⟩ := (show x = .str (tx z) ∧ _ from h)
    subst e
    obtain ⟨t, rfl⟩ := (show ∃ t, v = .str (tx z) t from r); exact .inr (fun _ e => nomatch e)
  | tup xs =>
    obtain ⟨b, vs, e, h1⟩ := (show ∃ a' vs, x = .ref a' ∧ _ from h)
    subst e
    cases (show v = .ref b from r)
    exact .inl ⟨b, rfl, rfl, AtH.of h⟩
  | lst xs =>
    obtain ⟨b, vs, e, h1⟩ := (show ∃ a' vs, x = .ref a' ∧ _ from h)
    subst e
    cases (show v = .ref b from r)
    exact .inl ⟨b, rfl, rfl, AtH.of h⟩
  | dct xs =>
    obtain ⟨b, vs, e, h1⟩ := (show ∃ a' vs, x = .ref a' ∧ _ from h)
    subst e
    cases (show v = .ref b from r)
    exact .inl ⟨b, rfl, rfl, AtH.of h⟩
  | set _ => exact (show False from h).elim
/-- the same list or tuple, as the library sees it -/
inductive Sh (s : Shared) : PV → Value → Prop where
  | non : Sh s .non .none
  | bl (b : Bool) : Sh s (.bl b) (.bool b)
  | int (i : Int) (t : Tok) : Sh s (.int i) (.int i t)
  | str (z : List Nat) (t : Tok) : Sh s (.str z) (.str (tx z) t)
  | tup (xs : List PV) (a : Addr) (its : Array Value) (h : s.heap.IsTuple a its) : Sh s (.tup xs) (.ref a)
  | lst (xs : List PV) (a : Addr) (its : Array Value) (h : s.heap.IsList a its) : Sh s (.lst xs) (.ref a)
  | dct (xs : List (PV × PV)) (a : Addr) : Sh s (.dct xs) (.ref a)
theorem sh_of (I : Inv X pins σ H s) {px : PV} {x : V} {v : Value} (h : RepB X.K H px x) (r : RelV x v) : Sh s px v := by
  cases px with
  | non => cases (show x = .non from h); cases (show v = .none from r); exact .non
  | bl b => cases (show x = .bl b from h); cases (show v = .bool b from r); exact .bl b
  | int i => cases (show x = .int i from h); obtain ⟨t, rfl⟩ := (show ∃ t, v = .int i t from r); exact .int i t
  | str z =>
    obtain ⟨e, _⟩ := (show x = .str (tx z) ∧ _ from h)
    subst e
    obtain ⟨t, rfl⟩ := (show ∃ t, v = .str (tx z) t from r); exact .str z t
  | tup xs =>
    obtain ⟨b, vs, e, h1, h2⟩ := (show ∃ a' vs, x = .ref a' ∧ SqT X.K H a' vs ∧ _ from h)
    subst e
    cases (show v = .ref b from r)
    obtain ⟨its, _, p⟩ := Rd.tupI I h1
    exact .tup xs b _ p
  | lst xs =>
    obtain ⟨b, vs, e, h1, h2⟩ := (show ∃ a' vs, x = .ref a' ∧ Rd H a' (.lst vs) ∧ _ from h)
    subst e
    cases (show v = .ref b from r)
    obtain ⟨its, _, p⟩ := Rd.lstI I h1
    exact .lst xs b _ p
  | dct xs =>
    obtain ⟨b, vs, e, h1⟩ := (show ∃ a' vs, x = .ref a' ∧ _ from h)
    subst e
    cases (show v = .ref b from r)
    exact .dct xs b
  | set _ => exact (show False from h).elim
theorem eqv_str (a b : List Nat) : eqv (.str a) (.str b) = (tx a == tx b) := by
  rw [eqv, eqN_iff]
  by_cases h : a = b
  · subst h; simp
  · have : ¬ tx a = tx b := fun e => h (tx_inj e)
    rw [decide_eq_false h]
    exact (beq_eq_false_iff_ne.mpr this).symm
theorem eqv_bi (a : Bool) (i : Int) : eqv (.bl a) (.int i) = ((if a = true then (1 : Int) else 0) == i) := by
  rw [eqv]
  cases a <;> simp [b2i] <;> rw [Bool.eq_iff_iff] <;> simp
theorem eqv_ib (a : Bool) (i : Int) : eqv (.int i) (.bl a) = (i == (if a = true then (1 : Int) else 0)) := by
  rw [eqv]
  cases a <;> simp [b2i] <;> rw [Bool.eq_iff_iff] <;> simp

theorem cast_eq {A : Around} {v u : Value} {b c : Bool} (h : SeqAt.EqP X.prog X.w A s v u b) (e : c = b) : SeqAt.EqP X.prog X.w A s v u c := e ▸ h
theorem cast_rc {A : Around} {v u : Value} {b : Bool} {px py : PV} (h : SeqAt.RcAt A s v u b) (e : eqv px py = b) : EqRun X A s px py v u := fun E Q q => h _ _ E Q (e ▸ q)
theorem eqp_sh {A : Around} {n : Nat} {px py : PV} {v u : Value} (hu : A.units < cLine) (hk : eqK (n + 1) px py = true) (h : Sh s px v) (g : Sh s py u)
    (hh : ∀ {a b : Addr}, v = .ref a → u = .ref b → SeqAt.EqP X.prog X.w A s v u (eqv px py)) : SeqAt.EqP X.prog X.w A s v u (eqv px py) := by
  cases h <;> cases g
  · have e : eqv .non .non = true := by simp [eqv]
    rw [e]; exact (SeqAt.EqAt.same _).eqP
  · exact cast_eq (b := false) (SeqAt.EqAt.none_bool _).eqP (by simp [eqv])
  · exact cast_eq (b := false) (SeqAt.EqAt.none_int _ _).eqP (by simp [eqv])
  · exact cast_eq (b := false) (SeqAt.EqAt.none_str _ _).eqP (by simp [eqv])
  · exact cast_eq (b := false) (SeqAt.EqAt.none_tuple ‹_› hu).eqP (by simp [eqv])
  · exact cast_eq (b := false) (SeqAt.EqAt.none_list ‹_› hu).eqP (by simp [eqv])
  · exact absurd hk (by simp [eqK])
  · exact cast_eq (b := false) (SeqAt.EqAt.bool_none _).eqP (by simp [eqv])
  · exact cast_eq (b := _) (SeqAt.EqAt.bool_bool _ _).eqP (by simp [eqv])
  · exact cast_eq (b := _) (SeqAt.EqAt.bool_int _ _ _).eqP (by exact eqv_bi _ _)
  · exact cast_eq (b := false) (SeqAt.EqAt.bool_str _ _ _).eqP (by simp [eqv])
  · exact cast_eq (b := false) (SeqAt.EqAt.bool_tuple _ ‹_› hu).eqP (by simp [eqv])
  · exact cast_eq (b := false) (SeqAt.EqAt.bool_list _ ‹_› hu).eqP (by simp [eqv])
  · exact absurd hk (by simp [eqK])
  · exact cast_eq (b := false) (SeqAt.EqAt.int_none _ _).eqP (by simp [eqv])
  · exact cast_eq (b := _) (SeqAt.EqAt.int_bool _ _ _).eqP (by exact eqv_ib _ _)
  · exact cast_eq (b := _) (SeqAt.EqAt.int_int _ _ _ _).eqP (by simp [eqv]; rw [Bool.eq_iff_iff]; simp)
  · exact cast_eq (b := false) (SeqAt.EqAt.int_str _ _ _ _).eqP (by simp [eqv])
  · exact cast_eq (b := false) (SeqAt.EqAt.int_tuple _ _ ‹_› hu).eqP (by simp [eqv])
  · exact cast_eq (b := false) (SeqAt.EqAt.int_list _ _ ‹_› hu).eqP (by simp [eqv])
  · exact absurd hk (by simp [eqK])
  · exact cast_eq (b := false) (SeqAt.EqAt.str_none _ _).eqP (by simp [eqv])
  · exact cast_eq (b := false) (SeqAt.EqAt.str_bool _ _ _).eqP (by simp [eqv])
  · exact cast_eq (b := false) (SeqAt.EqAt.str_int _ _ _ _).eqP (by simp [eqv])
  · exact cast_eq (b := _) (SeqAt.EqAt.str_str _ _ _ _).eqP (by exact eqv_str _ _)
  · exact cast_eq (b := false) (SeqAt.EqAt.str_tuple _ _ ‹_› hu).eqP (by simp [eqv])
  · exact cast_eq (b := false) (SeqAt.EqAt.str_list _ _ ‹_› hu).eqP (by simp [eqv])
  · exact absurd hk (by simp [eqK])
  · exact cast_eq (b := false) (SeqAt.EqAt.tuple_none ‹_› hu).eqP (by simp [eqv])
  · exact cast_eq (b := false) (SeqAt.EqAt.tuple_bool _ ‹_› hu).eqP (by simp [eqv])
  · exact cast_eq (b := false) (SeqAt.EqAt.tuple_int _ _ ‹_› hu).eqP (by simp [eqv])
  · exact cast_eq (b := false) (SeqAt.EqAt.tuple_str _ _ ‹_› hu).eqP (by simp [eqv])
  · exact hh rfl rfl
  · exact hh rfl rfl
  · exact hh rfl rfl
  · exact cast_eq (b := false) (SeqAt.EqAt.list_none ‹_› hu).eqP (by simp [eqv])
  · exact cast_eq (b := false) (SeqAt.EqAt.list_bool _ ‹_› hu).eqP (by simp [eqv])
  · exact cast_eq (b := false) (SeqAt.EqAt.list_int _ _ ‹_› hu).eqP (by simp [eqv])
  · exact cast_eq (b := false) (SeqAt.EqAt.list_str _ _ ‹_› hu).eqP (by simp [eqv])
  · exact hh rfl rfl
  · exact hh rfl rfl
  · exact hh rfl rfl
  · exact absurd hk (by simp [eqK])
  · exact absurd hk (by simp [eqK])
  · exact absurd hk (by simp [eqK])
  · exact absurd hk (by simp [eqK])
  · exact hh rfl rfl
  · exact hh rfl rfl
  · exact hh rfl rfl
theorem rc_sh {A : Around} {n : Nat} {px py : PV} {v u : Value} (hu : A.units < cLine) (hk : eqK (n + 1) px py = true) (h : Sh s px v) (g : Sh s py u)
    (hh : ∀ {a b : Addr}, v = .ref a → u = .ref b → EqRun X A s px py v u) : EqRun X A s px py v u := by
  cases h <;> cases g
  · have e : eqv .non .non = true := by simp [eqv]
    intro E Q q; rw [e] at q; exact SeqAt.RcAt.none_none _ _ E Q q
  · exact cast_rc (b := false) (SeqAt.RcAt.none_bool _) (by simp [eqv])
  · exact cast_rc (b := false) (SeqAt.RcAt.none_int _ _) (by simp [eqv])
  · exact cast_rc (b := false) (SeqAt.RcAt.none_str _ _) (by simp [eqv])
  · exact cast_rc (b := false) (SeqAt.RcAt.none_tuple ‹_› hu) (by simp [eqv])
  · exact cast_rc (b := false) (SeqAt.RcAt.none_list ‹_› hu) (by simp [eqv])
  · exact absurd hk (by simp [eqK])
  · exact cast_rc (b := false) (SeqAt.RcAt.bool_none _) (by simp [eqv])
  · exact cast_rc (b := _) (SeqAt.RcAt.bool_bool _ _) (by simp [eqv])
  · exact cast_rc (b := _) (SeqAt.RcAt.bool_int _ _ _) (by exact eqv_bi _ _)
  · exact cast_rc (b := false) (SeqAt.RcAt.bool_str _ _ _) (by simp [eqv])
  · exact cast_rc (b := false) (SeqAt.RcAt.bool_tuple _ ‹_› hu) (by simp [eqv])
  · exact cast_rc (b := false) (SeqAt.RcAt.bool_list _ ‹_› hu) (by simp [eqv])
  · exact absurd hk (by simp [eqK])
  · exact cast_rc (b := false) (SeqAt.RcAt.int_none _ _) (by simp [eqv])
  · exact cast_rc (b := _) (SeqAt.RcAt.int_bool _ _ _) (by exact eqv_ib _ _)
  · exact cast_rc (b := _) (SeqAt.RcAt.int_int _ _ _ _) (by simp [eqv]; rw [Bool.eq_iff_iff]; simp)
  · exact cast_rc (b := false) (SeqAt.RcAt.int_str _ _ _ _) (by simp [eqv])
  · exact cast_rc (b := false) (SeqAt.RcAt.int_tuple _ _ ‹_› hu) (by simp [eqv])
  · exact cast_rc (b := false) (SeqAt.RcAt.int_list _ _ ‹_› hu) (by simp [eqv])
  · exact absurd hk (by simp [eqK])
  · exact cast_rc (b := false) (SeqAt.RcAt.str_none _ _) (by simp [eqv])
  · exact cast_rc (b := false) (SeqAt.RcAt.str_bool _ _ _) (by simp [eqv])
  · exact cast_rc (b := false) (SeqAt.RcAt.str_int _ _ _ _) (by simp [eqv])
  · exact cast_rc (b := _) (SeqAt.RcAt.str_str _ _ _ _) (by exact eqv_str _ _)
  · exact cast_rc (b := false) (SeqAt.RcAt.str_tuple _ _ ‹_› hu) (by simp [eqv])
  · exact cast_rc (b := false) (SeqAt.RcAt.str_list _ _ ‹_› hu) (by simp [eqv])
  · exact absurd hk (by simp [eqK])
  · exact cast_rc (b := false) (SeqAt.RcAt.tuple_none ‹_› hu) (by simp [eqv])
  · exact cast_rc (b := false) (SeqAt.RcAt.tuple_bool _ ‹_› hu) (by simp [eqv])
  · exact cast_rc (b := false) (SeqAt.RcAt.tuple_int _ _ ‹_› hu) (by simp [eqv])
  · exact cast_rc (b := false) (SeqAt.RcAt.tuple_str _ _ ‹_› hu) (by simp [eqv])
  · exact hh rfl rfl
  · exact hh rfl rfl
  · exact hh rfl rfl
  · exact cast_rc (b := false) (SeqAt.RcAt.list_none ‹_› hu) (by simp [eqv])
  · exact cast_rc (b := false) (SeqAt.RcAt.list_bool _ ‹_› hu) (by simp [eqv])
  · exact cast_rc (b := false) (SeqAt.RcAt.list_int _ _ ‹_› hu) (by simp [eqv])
  · exact cast_rc (b := false) (SeqAt.RcAt.list_str _ _ ‹_› hu) (by simp [eqv])
  · exact hh rfl rfl
  · exact hh rfl rfl
  · exact hh rfl rfl
  · exact absurd hk (by simp [eqK])
  · exact absurd hk (by simp [eqK])
  · exact absurd hk (by simp [eqK])
  · exact absurd hk (by simp [eqK])
  · exact hh rfl rfl
  · exact hh rfl rfl
  · exact hh rfl rfl
theorem eqp_run (I : Inv X pins σ H s) : ∀ (n : Nat) (A : Around), A.units + n < cLine → ∀ (px py : PV) (x y : V) (v u : Value), eqK n px py = true → RepB X.K H px x → RepB X.K H py y → RelV x v → RelV y u → SeqAt.EqP X.prog X.w A s v u (eqv px py)
  | 0, _, _, _, _, _, _, _, _, hk, _, _, _, _ => absurd hk (by simp [eqK])
  | n + 1, A, hu, px, py, x, y, v, u, hk, h, g, r, q => by
    refine eqp_sh (n := n) (by omega) hk (sh_of I h r) (sh_of I g q) (fun {a b} e1 e2 => ?_)
    subst e1 e2
    rcases ref_of h r with ⟨c, e, e', ha⟩ | hn
    · cases e'
      rcases ref_of g q with ⟨d, e2, e2', hb⟩ | hn
      · cases e2'
        by_cases hab : a = b
        · subst hab
          rw [AtH.same I ha hb]
          exact (SeqAt.EqAt.same _).eqP
        · refine eq_of_run hab (heap_run I (n := n) (by omega) (fun px py x y v u k i j r1 r2 => ?_) hk ha hb)
          exact eqp_run I n A.in1 (by show A.units + 1 + n < cLine; omega) px py x y v u k i.b j.b r1 r2
      · exact absurd rfl (hn b)
    · exact absurd rfl (hn a)
theorem rc_run (I : Inv X pins σ H s) {n : Nat} {A : Around} (hu : A.units + (n + 1) < cLine) {px py : PV} {x y : V} {v u : Value} (hk : eqK (n + 1) px py = true) (h : RepB X.K H px x) (g : RepB X.K H py y) (r : RelV x v) (q : RelV y u) : EqRun X A s px py v u := by
  refine rc_sh (n := n) (by omega) hk (sh_of I h r) (sh_of I g q) (fun {a b} e1 e2 => ?_)
  subst e1 e2
  rcases ref_of h r with ⟨c, e, e', ha⟩ | hn
  · cases e'
    rcases ref_of g q with ⟨d, e2, e2', hb⟩ | hn
    · cases e2'
      exact heap_run I (n := n) (by omega) (fun px py x y v u k i j r1 r2 => eqp_run I n A.in1 (by show A.units + 1 + n < cLine; omega) px py x y v u k i.b j.b r1 r2) hk ha hb
    · exact absurd rfl (hn b)
  · exact absurd rfl (hn a)
end
end Rx
end
section
set_option Elab.async false
set_option linter.all false
set_option maxRecDepth 100000
set_option maxHeartbeats 1000000
/-! Rx ne: != of data. -/
namespace Rx
open PySem PySem.Spec PyProof.Rows L2
open AutoSeq1 (wpAny_loadPart')
open MeetsSeq MeetsSeq2 MeetsSeq3 SeqRoads2
section
variable {P : Program} {w : World}
/-- tuple != tuple -/
theorem tup_neIn (p q : Addr) (us ws : Array Value) (n m : Nat) (d1 d2 : Option Addr) (z1 z2 : Array (Option Value)) (e : Nat → Bool) :
    MeetsIn P w (Builtin.«tuple.__ne__» ⟨[.ref p, .ref q], []⟩)
      (fun A R s => s.heap.get? p = some { cls := .type "tuple", dict := d1, data := .seq us n, slots := z1 } ∧ s.heap.get? q = some { cls := .type "tuple", dict := d2, data := .seq ws m, slots := z2 } ∧
        (∀ k (g : k < us.size) (g2 : k < ws.size), SeqAt.EqP P w A.in1 s us[k] ws[k] (e k)) ∧
        R (.ok (.ret (.bool (!((List.range (min us.size ws.size)).all e && us.size == ws.size))))) s) := by
  intro A R s hyp
  obtain ⟨h0, g0, d0, t0, o0⟩ := s
  obtain ⟨hp, hq, hitem, hyp⟩ := hyp
  have fsub := AutoSeq1.sub_tuple_tuple
  have hlen : (us.toList.zip ws.toList).length = min us.size ws.size := by simp
  wp_walk using wpAny_loadPart' hp, wpAny_loadPart' hq, wpAny_forIn_list _ (fun rs b s' => b.1 = none ∧ s' = ⟨h0, g0, d0, t0, o0⟩ ∧ ∃ k, rs = (us.toList.zip ws.toList).drop k ∧
      R (.ok (.ret (.bool (!(((List.range (min us.size ws.size)).drop k).all e && us.size == ws.size))))) ⟨h0, g0, d0, t0, o0⟩) _
  case turn =>
    rintro ⟨y, x⟩ rs b s' ⟨hb0, rfl, k, hz, hR⟩
    have hk : k < (us.toList.zip ws.toList).length := by
      apply Classical.byContradiction
      intro hn
      rw [List.drop_of_length_le (Nat.not_lt.mp hn)] at hz
      cases hz
    have hmin : k < min us.size ws.size := by rw [← hlen]; exact hk
    have k1 : k < us.size := by omega
    have k2 : k < ws.size := by omega
    rw [List.drop_eq_getElem_cons hk] at hz
    injection hz with hpair htail
    obtain rfl : y = us[k] := by simpa using congrArg Prod.fst hpair
    obtain rfl : x = ws[k] := by simpa using congrArg Prod.snd hpair
    rw [show (List.range (min us.size ws.size)).drop k = k :: (List.range (min us.size ws.size)).drop (k + 1) by simp [List.drop_eq_getElem_cons, hmin], List.all_cons] at hR
    refine wpAny_bind (hitem k k1 k2 _ _ ?_)
    cases hv : e k with
    | true =>
      rw [hv] at hR
      wp_walk
      exact ⟨rfl, rfl, k + 1, htail, by simpa using hR⟩
    | false =>
      rw [hv] at hR
      wp_walk
      simpa using hR
  case fin =>
    rintro ⟨b1, b2⟩ s' ⟨hb0, rfl, k, hz, hR⟩
    obtain rfl : b1 = none := hb0
    have hk : min us.size ws.size ≤ k := by
      have q := congrArg List.length hz
      simp at q
      omega
    rw [List.drop_of_length_le (by simpa using hk)] at hR
    wp_walk
    simpa [Builtin.Tuple.tupleCompareSizes, bne] using hR
  case h => exact ⟨rfl, rfl, 0, rfl, by simpa using hyp⟩
theorem tup_rcn {A : Around} {s : Shared} {p q : Addr} {us ws : Array Value} {e : Nat → Bool} (hp : s.heap.IsTuple p us) (hq : s.heap.IsTuple q ws) (room : A.units < cLine)
    (he : ∀ k (g : k < us.size) (g2 : k < ws.size), SeqAt.EqP P w A.in1 s us[k] ws[k] (e k)) (E Q : Value → Shared → Prop) (fin : Q (.bool (!((List.range (min us.size ws.size)).all e && us.size == ws.size))) s) : wpAny (model P w) A (richCompare .NotEq (.ref p) (.ref q)) Q E s := by
  obtain ⟨⟨c1, d1, x1, z1⟩, i1, j1, n, l1⟩ := id hp
  obtain ⟨⟨c2, d2, x2, z2⟩, i2, j2, m, l2⟩ := id hq
  simp only at j1 l1 j2 l2
  subst j1 l1 j2 l2
  have ta : s.TypeIs (.ref p) "tuple" := ⟨_, i1, rfl⟩
  refine wpAny_richCompare_same_room (op := .NotEq) ta ⟨_, i2, rfl⟩ F.slot_tuple_ne (call_meetsIn F.slot_tuple_ne ta F.entry_tuple_ne (F.args_tuple_ne_2 _ _) (tup_neIn p q us ws n m d1 d2 z1 z2 e) ⟨i1, i2, he, ?_⟩) room
  exact ⟨(fun x => nomatch x), fin⟩
theorem lst_ne_loop (p q : Addr) (us ws : Array Value) (n m : Nat) (d1 d2 : Option Addr) (z1 z2 : Array (Option Value)) (hsz : us.size = ws.size) (e : Nat → Bool) (r : Nat) :
    ∀ k : Nat, us.size - k = r → MeetsIn P w (Builtin.«list.__eq__.loop» ⟨[.ref p, .ref q, rawInt k, rawInt 3], []⟩)
      (fun A R s => s.heap.get? p = some { cls := .type "list", dict := d1, data := .seq us n, slots := z1 } ∧ s.heap.get? q = some { cls := .type "list", dict := d2, data := .seq ws m, slots := z2 } ∧
        (∀ i (g : i < us.size) (g2 : i < ws.size), SeqAt.EqP P w A.in1 s us[i] ws[i] (e i)) ∧
        R (.ok (.ret (.bool (!((List.range us.size).drop k).all e)))) s) := by
  induction r with
  | zero =>
    intro k hk A R s hyp
    obtain ⟨h0, g0, d0, t0, o0⟩ := s
    obtain ⟨hp, hq, hitem, hyp⟩ := hyp
    wp_walk using wpAny_loadPart' hp, wpAny_loadPart' hq
    have n1 : us[((k : Nat) : Int).toNat]? = none := by simp; omega
    have n2 : ws[((k : Nat) : Int).toNat]? = none := by simp; omega
    rw [n1, n2]
    rw [show (List.range us.size).drop k = [] by simp; omega] at hyp
    wp_walk using wpAny_loadPart' hp, wpAny_loadPart' hq
    show R (.ok (.ret (.bool (us.size != ws.size)))) _
    rw [hsz]
    simpa using hyp
  | succ r ih =>
    intro k hk A R s hyp
    obtain ⟨h0, g0, d0, t0, o0⟩ := s
    obtain ⟨hp, hq, hitem, hyp⟩ := hyp
    wp_walk using wpAny_loadPart' hp, wpAny_loadPart' hq
    have k1 : k < us.size := by omega
    have k2 : k < ws.size := by omega
    have n1 : us[((k : Nat) : Int).toNat]? = some us[k] := by simp [k1]
    have n2 : ws[((k : Nat) : Int).toNat]? = some ws[k] := by simp [k2]
    have up : ((k : Int) + 1) = ((k + 1 : Nat) : Int) := by push_cast; rfl
    rw [show (List.range us.size).drop k = k :: (List.range us.size).drop (k + 1) by simp [List.drop_eq_getElem_cons, k1], List.all_cons] at hyp
    rw [n1, n2]
    refine wpAny_bind (hitem k k1 k2 _ _ ?_)
    cases hv : e k with
    | true =>
      rw [hv] at hyp
      wp_walk
      rw [up]
      refine ⟨plainId_quiet plain_eq_loop _, codeAny_builtin entry_eq_loop ?_⟩
      rw [Around.under_plainId plain_eq_loop _]
      exact ih (k + 1) (by omega) A R _ ⟨hp, hq, hitem, by simpa using hyp⟩
    | false =>
      rw [hv] at hyp
      wp_walk using wpAny_loadPart' hp, wpAny_loadPart' hq
      rw [n1, n2]
      wp_walk
      simpa using hyp
theorem lst_neIn (p q : Addr) (us ws : Array Value) (n m : Nat) (d1 d2 : Option Addr) (z1 z2 : Array (Option Value)) (hsz : us.size = ws.size) (e : Nat → Bool) :
    MeetsIn P w (Builtin.«list.__ne__» ⟨[.ref p, .ref q], []⟩)
      (fun A R s => s.heap.get? p = some { cls := .type "list", dict := d1, data := .seq us n, slots := z1 } ∧ s.heap.get? q = some { cls := .type "list", dict := d2, data := .seq ws m, slots := z2 } ∧
        (∀ i (g : i < us.size) (g2 : i < ws.size), SeqAt.EqP P w A.in1 s us[i] ws[i] (e i)) ∧
        R (.ok (.ret (.bool (!(List.range us.size).all e)))) s) := by
  intro A R s hyp
  obtain ⟨h0, g0, d0, t0, o0⟩ := s
  obtain ⟨hp, hq, hitem, hyp⟩ := hyp
  have fsub := AutoSeq1.sub_list_list
  have same : ¬ (us.size != ws.size) = true := by simp [hsz]
  wp_walk using wpAny_loadPart' hp, wpAny_loadPart' hq
  refine ⟨plainId_quiet plain_eq_loop _, codeAny_builtin entry_eq_loop ?_⟩
  rw [Around.under_plainId plain_eq_loop _]
  exact lst_ne_loop p q us ws n m d1 d2 z1 z2 hsz e _ 0 rfl A R _ ⟨hp, hq, hitem, by simpa using hyp⟩
theorem lst_rcn {A : Around} {s : Shared} {p q : Addr} {us ws : Array Value} {e : Nat → Bool} (hp : s.heap.IsList p us) (hq : s.heap.IsList q ws) (hsz : us.size = ws.size) (room : A.units < cLine)
    (he : ∀ k (g : k < us.size) (g2 : k < ws.size), SeqAt.EqP P w A.in1 s us[k] ws[k] (e k)) (E Q : Value → Shared → Prop) (fin : Q (.bool (!(List.range us.size).all e)) s) : wpAny (model P w) A (richCompare .NotEq (.ref p) (.ref q)) Q E s := by
  obtain ⟨⟨c1, d1, x1, z1⟩, i1, j1, n, l1⟩ := id hp
  obtain ⟨⟨c2, d2, x2, z2⟩, i2, j2, m, l2⟩ := id hq
  simp only at j1 l1 j2 l2
  subst j1 l1 j2 l2
  have ta : s.TypeIs (.ref p) "list" := ⟨_, i1, rfl⟩
  refine wpAny_richCompare_same_room (op := .NotEq) ta ⟨_, i2, rfl⟩ F.slot_list_ne (call_meetsIn F.slot_list_ne ta F.entry_list_ne (F.args_list_ne_2 _ _) (lst_neIn p q us ws n m d1 d2 z1 z2 hsz e) ⟨i1, i2, he, ?_⟩) room
  exact ⟨(fun x => nomatch x), fin⟩
end
section
variable {P : Program} {w : World} {κ : Type} [DecidableEq κ] {knd : PySem.KeyKind P w κ} {A : Around} {s : Shared}
theorem dct_rcn {a b : Addr} {ka kb : List (κ × Value)} {r : Bool} (ha : (a == sysModules) = false) (hb : (b == sysModules) = false)
    (da : s.heap.DictOf knd a ka) (db : s.heap.DictOf knd b kb) (room : A.units < cLine) (hits : ka.length = kb.length → PySem.W.KeqHitsP P w A.in1 s kb ka r) (E Q : Value → Shared → Prop) (fin : Q (.bool (!(ka.length == kb.length && r))) s) :
    wpAny (model P w) A (richCompare .NotEq (.ref a) (.ref b)) Q E s := by
  refine wpAny_richCompare_same_room (op := .NotEq) da.typeIs db.typeIs PySem.F.slot_dict_ne (wpAny_call_entry PySem.F.slot_dict_ne da.typeIs PySem.F.entry_dict_ne ?_ (PySem.F.args_dict_ne_2 _ _)) room
  show wpAny _ _ (Builtin.Dict.dictSlotArgs "__ne__" ⟨[.ref a, .ref b], []⟩ >>= _) _ _ s
  refine wpAny_bind ?_
  unfold Builtin.Dict.dictSlotArgs
  refine wpAny_bind (wpAny_notOrdered_dict da.typeIs ?_)
  refine wpAny_pure ?_
  refine wpAny_bind (wpAny_isInstance (T := "dict") db.typeIs PySem.F.sub_dict_dict ?_)
  rw [Bool.not_true, if_neg Bool.false_ne_true]
  refine wpAny_bind (wpAny_pure (wpAny_bind (wpAny_pure ?_)))
  refine wpAny_bind (PySem.W.samePairsP ha hb da db hits (wpAny_pure ⟨_, rfl, (fun x => nomatch x), ?_⟩))
  simpa using fin
end

section
variable {X : L2.Cx} {pins : List (Addr × Obj)} {σ : L2.St} {H : Hp} {s : Shared}
def NeRun (X : L2.Cx) (A : Around) (s : Shared) (px py : PV) (v u : Value) : Prop :=
  ∀ (E Q : Value → Shared → Prop), Q (.bool (!eqv px py)) s → wpAny (model X.prog X.w) A (richCompare .NotEq v u) Q E s
theorem cast_rcN {A : Around} {v u : Value} {b : Bool} {px py : PV} (h : SeqAt.RcNeAt A s v u (!b)) (e : eqv px py = b) : NeRun X A s px py v u := fun E Q q => h _ _ E Q (e ▸ q)
/-- two things on the heap -/
theorem heap_runN (I : Inv X pins σ H s) {A : Around} {n : Nat} (hu : A.units < cLine)
    (ih : ∀ px py x y v u, eqK n px py = true → Rep X.K H px x → Rep X.K H py y → RelV x v → RelV y u → SeqAt.EqP X.prog X.w A.in1 s v u (eqv px py)) {px py : PV} {a b : Addr} (hk : eqK (n + 1) px py = true) (h : AtH X H a px) (g : AtH X H b py) :
    NeRun X A s px py (.ref a) (.ref b) := by
  intro E Q q
  cases px with
  | tup xs =>
    obtain ⟨vs, h1, h2⟩ := h
    obtain ⟨us, r1, p1⟩ := Rd.tupI I h1
    cases py with
    | tup ys =>
      obtain ⟨ws, g1, g2⟩ := g
      obtain ⟨ts, r2, p2⟩ := Rd.tupI I g1
      have hk : eqKL (eqK n) xs ys = true := hk
      have l1 : xs.length = us.toArray.size := by rw [List.size_toArray, ← r1.length, h2.length]
      have l2 : ys.length = ts.toArray.size := by rw [List.size_toArray, ← r2.length, g2.length]
      refine tup_rcn (e := itv xs ys) p1 p2 hu (fun k k1 k2 => ?_) E Q ?_
      · obtain ⟨v, i1, i2⟩ := h2.at r1 (by simpa using k1)
        obtain ⟨w, j1, j2⟩ := g2.at r2 (by simpa using k2)
        exact ih _ _ _ _ _ _ (eqKL_get hk (by rw [l1]; exact k1) (by rw [l2]; exact k2)) i1 j1 (by simpa using i2) (by simpa using j2)
      · rw [eqv, ← eqvL_range] at q
        rw [← l1, ← l2]
        exact q
    | lst ys =>
      obtain ⟨ws, g1, g2⟩ := g
      obtain ⟨ts, r2, p2⟩ := Rd.lstI I g1
      exact SeqAt.RcNeAt.tuple_list p1 p2 hu _ _ E Q (by simpa [eqv] using q)
    | dct ys => exact nomatch (show false = true from hk)
    | _ => exact (show False from g).elim
  | lst xs =>
    obtain ⟨vs, h1, h2⟩ := h
    obtain ⟨us, r1, p1⟩ := Rd.lstI I h1
    cases py with
    | tup ys =>
      obtain ⟨ws, g1, g2⟩ := g
      obtain ⟨ts, r2, p2⟩ := Rd.tupI I g1
      exact SeqAt.RcNeAt.list_tuple p1 p2 hu _ _ E Q (by simpa [eqv] using q)
    | lst ys =>
      obtain ⟨ws, g1, g2⟩ := g
      obtain ⟨ts, r2, p2⟩ := Rd.lstI I g1
      have hk : eqKL (eqK n) xs ys = true := hk
      have l1 : xs.length = us.toArray.size := by rw [List.size_toArray, ← r1.length, h2.length]
      have l2 : ys.length = ts.toArray.size := by rw [List.size_toArray, ← r2.length, g2.length]
      rw [eqv, ← eqvL_range] at q
      by_cases hsz : xs.length = ys.length
      · refine lst_rcn (e := itv xs ys) p1 p2 (by omega) hu (fun k k1 k2 => ?_) E Q ?_
        · obtain ⟨v, i1, i2⟩ := h2.at r1 (by simpa using k1)
          obtain ⟨w, j1, j2⟩ := g2.at r2 (by simpa using k2)
          exact ih _ _ _ _ _ _ (eqKL_get hk (by rw [l1]; exact k1) (by rw [l2]; exact k2)) i1 j1 (by simpa using i2) (by simpa using j2)
        · rw [← l1]
          rw [← hsz, Nat.min_self] at q
          simpa using q
      · refine SeqAt.RcNeAt.lists_lengths p1 p2 (by rw [← l1, ← l2]; simpa using hsz) hu _ _ E Q ?_
        rw [show (xs.length == ys.length) = false by simpa using hsz, Bool.and_false] at q
        exact q
    | dct ys => exact nomatch (show false = true from hk)
    | _ => exact (show False from g).elim
  | dct xs =>
    obtain ⟨ks, h1, h2⟩ := h
    cases py with
    | dct ys =>
      obtain ⟨ls, g1, g2⟩ := g
      obtain ⟨ya, va, ra, da⟩ := Rd.dctI I h1
      obtain ⟨yb, vb, rb, db⟩ := Rd.dctI I g1
      refine dct_rcn (knd := mixKind X.prog X.w) (r := eqvD xs ys) ya yb da db hu (fun _ => hits_at g2 rb ih h2 ra hk) E Q ?_
      rw [eqv] at q
      have e1 : (va.length == vb.length) = Nat.beq xs.length ys.length := by
        rw [← ra.length, ← rb.length, ← h2.length, ← g2.length, Bool.eq_iff_iff, beq_iff_eq, Nat.beq_eq]
      rw [e1]
      exact q
    | _ => exact nomatch (show false = true from hk)
  | _ => exact (show False from h).elim
theorem rc_shN {A : Around} {n : Nat} {px py : PV} {v u : Value} (hu : A.units < cLine) (hk : eqK (n + 1) px py = true) (h : Sh s px v) (g : Sh s py u)
    (hh : ∀ {a b : Addr}, v = .ref a → u = .ref b → NeRun X A s px py v u) : NeRun X A s px py v u := by
  cases h <;> cases g
  · have e : eqv .non .non = true := by simp [eqv]
    intro E Q q; rw [e] at q; exact SeqAt.RcNeAt.none_none _ _ E Q q
  · exact cast_rcN (b := false) (SeqAt.RcNeAt.none_bool _) (by simp [eqv])
  · exact cast_rcN (b := false) (SeqAt.RcNeAt.none_int _ _) (by simp [eqv])
  · exact cast_rcN (b := false) (SeqAt.RcNeAt.none_str _ _) (by simp [eqv])
  · exact cast_rcN (b := false) (SeqAt.RcNeAt.none_tuple ‹_› hu) (by simp [eqv])
  · exact cast_rcN (b := false) (SeqAt.RcNeAt.none_list ‹_› hu) (by simp [eqv])
  · exact absurd hk (by simp [eqK])
  · exact cast_rcN (b := false) (SeqAt.RcNeAt.bool_none _) (by simp [eqv])
  · exact cast_rcN (b := _) (SeqAt.RcNeAt.bool_bool _ _) (by simp [eqv])
  · exact cast_rcN (b := _) (SeqAt.RcNeAt.bool_int _ _ _) (by exact eqv_bi _ _)
  · exact cast_rcN (b := false) (SeqAt.RcNeAt.bool_str _ _ _) (by simp [eqv])
  · exact cast_rcN (b := false) (SeqAt.RcNeAt.bool_tuple _ ‹_› hu) (by simp [eqv])
  · exact cast_rcN (b := false) (SeqAt.RcNeAt.bool_list _ ‹_› hu) (by simp [eqv])
  · exact absurd hk (by simp [eqK])
  · exact cast_rcN (b := false) (SeqAt.RcNeAt.int_none _ _) (by simp [eqv])
  · exact cast_rcN (b := _) (SeqAt.RcNeAt.int_bool _ _ _) (by exact eqv_ib _ _)
  · exact cast_rcN (b := _) (SeqAt.RcNeAt.int_int _ _ _ _) (by simp [eqv]; rw [Bool.eq_iff_iff]; simp)
  · exact cast_rcN (b := false) (SeqAt.RcNeAt.int_str _ _ _ _) (by simp [eqv])
  · exact cast_rcN (b := false) (SeqAt.RcNeAt.int_tuple _ _ ‹_› hu) (by simp [eqv])
  · exact cast_rcN (b := false) (SeqAt.RcNeAt.int_list _ _ ‹_› hu) (by simp [eqv])
  · exact absurd hk (by simp [eqK])
  · exact cast_rcN (b := false) (SeqAt.RcNeAt.str_none _ _) (by simp [eqv])
  · exact cast_rcN (b := false) (SeqAt.RcNeAt.str_bool _ _ _) (by simp [eqv])
  · exact cast_rcN (b := false) (SeqAt.RcNeAt.str_int _ _ _ _) (by simp [eqv])
  · exact cast_rcN (b := _) (SeqAt.RcNeAt.str_str _ _ _ _) (by exact eqv_str _ _)
  · exact cast_rcN (b := false) (SeqAt.RcNeAt.str_tuple _ _ ‹_› hu) (by simp [eqv])
  · exact cast_rcN (b := false) (SeqAt.RcNeAt.str_list _ _ ‹_› hu) (by simp [eqv])
  · exact absurd hk (by simp [eqK])
  · exact cast_rcN (b := false) (SeqAt.RcNeAt.tuple_none ‹_› hu) (by simp [eqv])
  · exact cast_rcN (b := false) (SeqAt.RcNeAt.tuple_bool _ ‹_› hu) (by simp [eqv])
  · exact cast_rcN (b := false) (SeqAt.RcNeAt.tuple_int _ _ ‹_› hu) (by simp [eqv])
  · exact cast_rcN (b := false) (SeqAt.RcNeAt.tuple_str _ _ ‹_› hu) (by simp [eqv])
  · exact hh rfl rfl
  · exact hh rfl rfl
  · exact hh rfl rfl
  · exact cast_rcN (b := false) (SeqAt.RcNeAt.list_none ‹_› hu) (by simp [eqv])
  · exact cast_rcN (b := false) (SeqAt.RcNeAt.list_bool _ ‹_› hu) (by simp [eqv])
  · exact cast_rcN (b := false) (SeqAt.RcNeAt.list_int _ _ ‹_› hu) (by simp [eqv])
  · exact cast_rcN (b := false) (SeqAt.RcNeAt.list_str _ _ ‹_› hu) (by simp [eqv])
  · exact hh rfl rfl
  · exact hh rfl rfl
  · exact hh rfl rfl
  · exact absurd hk (by simp [eqK])
  · exact absurd hk (by simp [eqK])
  · exact absurd hk (by simp [eqK])
  · exact absurd hk (by simp [eqK])
  · exact hh rfl rfl
  · exact hh rfl rfl
  · exact hh rfl rfl
theorem rc_runN (I : Inv X pins σ H s) {n : Nat} {A : Around} (hu : A.units + (n + 1) < cLine) {px py : PV} {x y : V} {v u : Value} (hk : eqK (n + 1) px py = true) (h : RepB X.K H px x) (g : RepB X.K H py y) (r : RelV x v) (q : RelV y u) : NeRun X A s px py v u := by
  refine rc_shN (n := n) (by omega) hk (sh_of I h r) (sh_of I g q) (fun {a b} e1 e2 => ?_)
  subst e1 e2
  rcases ref_of h r with ⟨c, e, e', ha⟩ | hn
  · cases e'
    rcases ref_of g q with ⟨d, e2, e2', hb⟩ | hn
    · cases e2'
      exact heap_runN I (n := n) (by omega) (fun px py x y v u k i j r1 r2 => eqp_run I n A.in1 (by show A.units + 1 + n < cLine; omega) px py x y v u k i.b j.b r1 r2) hk ha hb
    · exact absurd rfl (hn b)
  · exact absurd rfl (hn a)
end
end Rx
end
section
set_option Elab.async false
set_option linter.all false
set_option maxRecDepth 100000
set_option maxHeartbeats 1000000
/-! Rx cmp: comparisons. -/
namespace Rx
open PySem PySem.Spec PyProof.Rows L2
open AutoSeq1 (wpAny_loadPart')
open MeetsSeq MeetsSeq2 MeetsSeq3 SeqRoads2
section
variable {P : Program} {w : World}
theorem lst_in_loop (p : Addr) (us : Array Value) (n : Nat) (d1 : Option Addr) (z1 : Array (Option Value)) (x : Value) (e : Nat → Bool) (r : Nat) :
    ∀ k : Nat, us.size - k = r → MeetsIn P w (Builtin.«list.__contains__.loop» ⟨[.ref p, x, rawInt k], []⟩)
      (fun A R s => s.heap.get? p = some { cls := .type "list", dict := d1, data := .seq us n, slots := z1 } ∧ (∀ i (g : i < us.size), SeqAt.EqP P w A.in1 s us[i] x (e i)) ∧
        R (.ok (.ret (.bool (((List.range us.size).drop k).any e)))) s) := by
  induction r with
  | zero =>
    intro k hk A R s hyp
    obtain ⟨h0, g0, d0, t0, o0⟩ := s
    obtain ⟨hp, hitem, hyp⟩ := hyp
    wp_walk using wpAny_loadPart' hp
    have n1 : us[((k : Nat) : Int).toNat]? = none := by simp; omega
    rw [n1]
    rw [show (List.range us.size).drop k = [] by simp; omega] at hyp
    wp_walk
    exact hyp
  | succ r ih =>
    intro k hk A R s hyp
    obtain ⟨h0, g0, d0, t0, o0⟩ := s
    obtain ⟨hp, hitem, hyp⟩ := hyp
    wp_walk using wpAny_loadPart' hp
    have k1 : k < us.size := by omega
    have n1 : us[((k : Nat) : Int).toNat]? = some us[k] := by simp [k1]
    have up : ((k : Int) + 1) = ((k + 1 : Nat) : Int) := by push_cast; rfl
    rw [show (List.range us.size).drop k = k :: (List.range us.size).drop (k + 1) by simp [List.drop_eq_getElem_cons, k1], List.any_cons] at hyp
    rw [n1]
    refine wpAny_bind (hitem k k1 _ _ ?_)
    cases hv : e k with
    | true =>
      rw [hv] at hyp
      wp_walk
      exact hyp
    | false =>
      rw [hv] at hyp
      wp_walk
      rw [up]
      refine ⟨plainId_quiet plain_contains_loop _, codeAny_builtin entry_contains_loop ?_⟩
      rw [Around.under_plainId plain_contains_loop _]
      exact ih (k + 1) (by omega) A R _ ⟨hp, hitem, by simpa using hyp⟩
theorem lst_inIn (p : Addr) (us : Array Value) (n : Nat) (d1 : Option Addr) (z1 : Array (Option Value)) (x : Value) (e : Nat → Bool) :
    MeetsIn P w (Builtin.«list.__contains__» ⟨[.ref p, x], []⟩)
      (fun A R s => s.heap.get? p = some { cls := .type "list", dict := d1, data := .seq us n, slots := z1 } ∧ (∀ i (g : i < us.size), SeqAt.EqP P w A.in1 s us[i] x (e i)) ∧
        R (.ok (.ret (.bool ((List.range us.size).any e)))) s) := by
  intro A R s hyp
  obtain ⟨h0, g0, d0, t0, o0⟩ := s
  obtain ⟨hp, hitem, hyp⟩ := hyp
  wp_walk using wpAny_loadPart' hp
  refine ⟨plainId_quiet plain_contains_loop _, codeAny_builtin entry_contains_loop ?_⟩
  rw [Around.under_plainId plain_contains_loop _]
  exact lst_in_loop p us n d1 z1 x e _ 0 rfl A R _ ⟨hp, hitem, by simpa using hyp⟩
theorem tup_inIn (p : Addr) (us : Array Value) (n : Nat) (d1 : Option Addr) (z1 : Array (Option Value)) (x : Value) (e : Nat → Bool) :
    MeetsIn P w (Builtin.«tuple.__contains__» ⟨[.ref p, x], []⟩)
      (fun A R s => s.heap.get? p = some { cls := .type "tuple", dict := d1, data := .seq us n, slots := z1 } ∧ (∀ i (g : i < us.size), SeqAt.EqP P w A.in1 s us[i] x (e i)) ∧
        R (.ok (.ret (.bool ((List.range us.size).any e)))) s) := by
  intro A R s hyp
  obtain ⟨h0, g0, d0, t0, o0⟩ := s
  obtain ⟨hp, hitem, hyp⟩ := hyp
  wp_walk using wpAny_loadPart' hp, wpAny_forIn_array _ (fun rs b s' => b.1 = none ∧ s' = ⟨h0, g0, d0, t0, o0⟩ ∧ ∃ k, rs = us.toList.drop k ∧
      R (.ok (.ret (.bool (((List.range us.size).drop k).any e)))) ⟨h0, g0, d0, t0, o0⟩) _
  case turn =>
    rintro y rs b s' ⟨hb0, rfl, k, hz, hR⟩
    have k1 : k < us.size := by
      apply Classical.byContradiction
      intro hn
      rw [List.drop_of_length_le (by simpa using Nat.not_lt.mp hn)] at hz
      cases hz
    rw [List.drop_eq_getElem_cons (by simpa using k1)] at hz
    injection hz with hy htail
    obtain rfl : y = us[k] := by simpa using hy
    rw [show (List.range us.size).drop k = k :: (List.range us.size).drop (k + 1) by simp [List.drop_eq_getElem_cons, k1], List.any_cons] at hR
    refine wpAny_bind (hitem k k1 _ _ ?_)
    cases hv : e k with
    | true =>
      rw [hv] at hR
      wp_walk
      simpa using hR
    | false =>
      rw [hv] at hR
      wp_walk
      exact ⟨rfl, rfl, k + 1, htail, by simpa using hR⟩
  case fin =>
    rintro ⟨b1, b2⟩ s' ⟨hb0, rfl, k, hz, hR⟩
    obtain rfl : b1 = none := hb0
    have hk : us.size ≤ k := by
      have q := congrArg List.length hz
      simp at q
      omega
    rw [List.drop_of_length_le (by simpa using hk)] at hR
    wp_walk
    simpa using hR
  case h => exact ⟨rfl, rfl, 0, rfl, by simpa using hyp⟩
/-- x in c -/
theorem cont_lst {A : Around} {s : Shared} {p : Addr} {us : Array Value} {x : Value} {e : Nat → Bool} (hp : s.heap.IsList p us) (he : ∀ i (g : i < us.size), SeqAt.EqP P w A.in1 s us[i] x (e i)) {E : Value → Shared → Prop} {Q : Bool → Shared → Prop}
    (fin : Q ((List.range us.size).any e) s) : wpAny (model P w) A (contains (.ref p) x) Q E s := by
  obtain ⟨⟨c1, d1, x1, z1⟩, i1, j1, n, l1⟩ := id hp
  simp only at j1 l1
  subst j1 l1
  have ta : s.TypeIs (.ref p) "list" := ⟨_, i1, rfl⟩
  refine wpAny_contains_slot ta F.slot_list_contains (wpAny_mono (call_meetsIn F.slot_list_contains ta F.entry_list_contains (F.args_list_contains_2 _ _) (lst_inIn p us n d1 z1 x e) (Q := fun v s' => ∃ b, v = .bool b ∧ Q b s') (E := E) ⟨i1, he, _, rfl, fin⟩) (fun v s' hv => ?_) fun _ _ e => e)
  obtain ⟨b, rfl, hq⟩ := hv
  exact wpAny_truthy_bool hq
theorem cont_tup {A : Around} {s : Shared} {p : Addr} {us : Array Value} {x : Value} {e : Nat → Bool} (hp : s.heap.IsTuple p us) (he : ∀ i (g : i < us.size), SeqAt.EqP P w A.in1 s us[i] x (e i)) {E : Value → Shared → Prop} {Q : Bool → Shared → Prop}
    (fin : Q ((List.range us.size).any e) s) : wpAny (model P w) A (contains (.ref p) x) Q E s := by
  obtain ⟨⟨c1, d1, x1, z1⟩, i1, j1, n, l1⟩ := id hp
  simp only at j1 l1
  subst j1 l1
  have ta : s.TypeIs (.ref p) "tuple" := ⟨_, i1, rfl⟩
  refine wpAny_contains_slot ta F.slot_tuple_contains (wpAny_mono (call_meetsIn F.slot_tuple_contains ta F.entry_tuple_contains (F.args_tuple_contains_2 _ _) (tup_inIn p us n d1 z1 x e) (Q := fun v s' => ∃ b, v = .bool b ∧ Q b s') (E := E) ⟨i1, he, _, rfl, fin⟩) (fun v s' hv => ?_) fun _ _ e => e)
  obtain ⟨b, rfl, hq⟩ := hv
  exact wpAny_truthy_bool hq
end

def cmpO : CmpO → CmpOp
  | .eq => .Eq | .ne => .NotEq | .lt => .Lt | .le => .LtE | .gt => .Gt | .ge => .GtE | .isn => .Is | .notn => .IsNot | .inn => .In | .nin => .NotIn
theorem ltN_tx : ∀ a b : List Nat, ltN a b = decide (a < b)
  | [], [] => by simp [ltN]
  | [], _ :: _ => by simp [ltN]
  | _ :: _, [] => by simp [ltN]
  | a :: x, b :: y => by
    rw [ltN, ltN_tx x y]
    by_cases h : a < b
    · have e1 : Nat.blt a b = true := by rw [Nat.blt_eq]; exact h
      rw [e1, if_pos rfl]
      simp [List.cons_lt_cons_iff, h]
    · have e1 : Nat.blt a b = false := by
        cases q : Nat.blt a b with
        | false => rfl
        | true => rw [Nat.blt_eq] at q; exact absurd q h
      rw [e1, if_neg Bool.false_ne_true]
      by_cases g : a = b
      · subst g
        rw [show Nat.beq a a = true from Nat.beq_refl a, if_pos rfl]
        simp [List.cons_lt_cons_iff]
      · have e2 : Nat.beq a b = false := by
          cases q : Nat.beq a b with
          | false => rfl
          | true => exact absurd (Nat.eq_of_beq_eq_true q) g
        rw [e2, if_neg Bool.false_ne_true]
        simp [List.cons_lt_cons_iff, h, g]
theorem tx_lt (a b : List Nat) : decide ((tx a).cps.toList < (tx b).cps.toList) = ltN a b := by rw [ltN_tx]
theorem memN_tx : ∀ (c : Nat) (y : List Nat), memN c y = decide (c ∈ y)
  | c, [] => by simp [memN]
  | c, a :: r => by
    rw [memN, memN_tx c r]
    by_cases g : a = c
    · subst g
      rw [show Nat.beq a a = true from Nat.beq_refl a]
      simp
    · have e2 : Nat.beq a c = false := by
        cases q : Nat.beq a c with
        | false => rfl
        | true => exact absurd (Nat.eq_of_beq_eq_true q) g
      have g' : ¬ c = a := fun e => g e.symm
      rw [e2]
      simp [g']
def mtv (x : PV) (xs : List PV) (j : Nat) : Bool := eqv (xs.getD j .non) x
theorem memL_range (x : PV) : ∀ xs : List PV, (List.range xs.length).any (mtv x xs) = memL x xs
  | [] => by simp [memL]
  | y :: ys => by
    rw [memL, ← memL_range x ys, List.length_cons, List.range_succ_eq_map, List.any_cons, List.any_map]
    have : (mtv x (y :: ys)) ∘ Nat.succ = mtv x ys := rfl
    rw [this]
    show (eqv y x || _) = _
    cases eqv y x <;> rfl
theorem memK_get : ∀ {x : PV} {xs : List PV} {j : Nat}, memK x xs = true → j < xs.length → eqK 100 (xs.getD j .non) x = true
  | x, y :: ys, 0, h, _ => by
    rw [memK, Bool.and_eq_true] at h
    exact h.1
  | x, y :: ys, j + 1, h, h1 => by
    rw [memK, Bool.and_eq_true] at h
    exact memK_get (xs := ys) h.2 (Nat.lt_of_succ_lt_succ h1)
  | x, [], j, _, h1 => absurd h1 (Nat.not_lt_zero _)
theorem keyable_key {x : PV} {K : PySem.W.Frag} {H : Hp} {v : V} (h : RepB K H x v) (k : keyable x = true) : ∃ j, keyR x j ∧ v = kV j := by
  cases x with
  | int i => exact ⟨.inl i, ⟨rfl, trivial⟩, h⟩
  | str z => exact ⟨.inr (tx z), ⟨rfl, (show v = .str (tx z) ∧ _ from h).2⟩, (show v = .str (tx z) ∧ _ from h).1⟩
  | _ => exact absurd k (by simp [keyable])
section
variable {X : L2.Cx} {pins : List (Addr × Obj)} {σ : L2.St} {H : Hp} {s : Shared}
theorem cont_run (I : Inv X pins σ H s) (hu : X.A.units + 120 < cLine) {px py : PV} {x y : V} {v u : Value} {t : Bool} (rx : RelV x v) (ry : RelV y u) (hx : RepB X.K H px x) (hy : RepB X.K H py y) (hs : ∀ z, py ≠ .str z) (hd : ∀ z, py ≠ .dct z) (e : inO px py = some t)
    {E : Value → Shared → Prop} {Q : Bool → Shared → Prop} (q : Q t s) : wpAny (model X.prog X.w) X.A (contains u v) Q E s := by
  cases py with
  | str z => exact absurd rfl (hs z)
  | dct z => exact absurd rfl (hd z)
  | tup ys =>
    obtain ⟨a, vs, rfl, h1, h2, _⟩ := (show ∃ a vs, y = .ref a ∧ SqT X.K H a vs ∧ RepL X.K H ys vs ∧ _ from hy)
    cases (show u = Value.ref a from ry)
    obtain ⟨us, r1, p1⟩ := Rd.tupI I h1
    simp only [inO] at e
    split at e
    · rename_i hk
      cases e
      have l1 : ys.length = us.toArray.size := by rw [List.size_toArray, ← r1.length, h2.length]
      refine cont_tup (e := mtv px ys) p1 (fun k k1 => ?_) ?_
      · obtain ⟨v, i1, i2⟩ := h2.at r1 (by simpa using k1)
        exact eqp_run I 100 X.A.in1 (by show X.A.units + 1 + 100 < cLine; omega) _ _ _ _ _ _ (memK_get hk (by rw [l1]; exact k1)) i1.b hx (by simpa using i2) rx
      · rw [← l1, memL_range]
        exact q
    · cases e
  | lst ys =>
    obtain ⟨a, vs, rfl, h1, h2, _⟩ := (show ∃ a vs, y = .ref a ∧ Rd H a (.lst vs) ∧ RepL X.K H ys vs ∧ _ from hy)
    cases (show u = Value.ref a from ry)
    obtain ⟨us, r1, p1⟩ := Rd.lstI I h1
    simp only [inO] at e
    split at e
    · rename_i hk
      cases e
      have l1 : ys.length = us.toArray.size := by rw [List.size_toArray, ← r1.length, h2.length]
      refine cont_lst (e := mtv px ys) p1 (fun k k1 => ?_) ?_
      · obtain ⟨v, i1, i2⟩ := h2.at r1 (by simpa using k1)
        exact eqp_run I 100 X.A.in1 (by show X.A.units + 1 + 100 < cLine; omega) _ _ _ _ _ _ (memK_get hk (by rw [l1]; exact k1)) i1.b hx (by simpa using i2) rx
      · rw [← l1, memL_range]
        exact q
    · cases e
  | _ => exact nomatch (show none = some t from e)
theorem key_in {px : PV} {kvs : List (PV × PV)} {ks : List (Key × V)} {a : Addr} {x : V} (hx : RepB X.K H px x) (h1 : Rd H a (.dK ks)) (h2 : RepK X.K H kvs ks) (hk : keyable px = true) :
    ∃ j, keyR px j ∧ x = kV j ∧ DGet H a x (valV ks j) ∧ (dget px kvs).isSome = (valV ks j).isSome := by
  obtain ⟨j, e, e2⟩ := keyable_key hx hk
  refine ⟨j, e, e2, .inl ⟨ks, j, h1, e2, rfl⟩, ?_⟩
  rcases RepK.get h2 e.1 with ⟨g1, g2⟩ | ⟨y, w, g1, g2, _⟩ <;> rw [g1, g2] <;> rfl
theorem in_run (I : Inv X pins σ H s) (hu : X.A.units + 120 < cLine) {px py : PV} {x y : V} {v u : Value} {t : Bool} {Q : VK} (rx : RelV x v) (ry : RelV y u) (hx : RepB X.K H px x) (hy : RepB X.K H py y) (e : inO px py = some t) (q : Q (.bl t) H) :
    wpAny (model X.prog X.w) X.A (compareOp .In v u) (EP X pins σ Q) X.xe s := by
  cases py with
  | str z =>
    obtain ⟨e2, _⟩ := (show y = .str (tx z) ∧ _ from hy)
    cases px with
    | str w =>
      obtain ⟨e1, _⟩ := (show x = .str (tx w) ∧ _ from hx)
      match w, e, e1 with
      | [c], e, e1 =>
        cases e
        refine op_in_sign pins s σ H x y v u Q I rx ry ⟨c, tx z, e1, e2, ?_⟩
        rw [memN_tx] at q
        exact q
      | [], e, _ => cases e
      | _ :: _ :: _, e, _ => cases e
    | _ => cases e
  | dct kvs =>
    obtain ⟨a, ks, rfl, h1, h2, _⟩ := (show ∃ a ks, y = .ref a ∧ Rd H a (.dK ks) ∧ RepK X.K H kvs ks ∧ _ from hy)
    cases (show u = Value.ref a from ry)
    simp only [inO] at e
    split at e
    · rename_i hk
      cases e
      obtain ⟨j, e1, e2, g, e3⟩ := key_in hx h1 h2 hk
      rw [e3] at q
      exact d_in (by omega) I g rx fun s' I' => ⟨.bl _, H, I', rfl, q⟩
    · cases e
  | _ =>
    show wpAny _ _ (do return Value.bool (← contains u v)) _ _ _
    exact wpAny_bind (cont_run I hu rx ry hx hy (fun _ => nofun) (fun _ => nofun) e (wpAny_pure ⟨.bl _, H, I, rfl, q⟩))
theorem nin_run (I : Inv X pins σ H s) (hu : X.A.units + 120 < cLine) {px py : PV} {x y : V} {v u : Value} {t : Bool} {Q : VK} (rx : RelV x v) (ry : RelV y u) (hx : RepB X.K H px x) (hy : RepB X.K H py y) (e : inO px py = some t) (q : Q (.bl (!t)) H) :
    wpAny (model X.prog X.w) X.A (compareOp .NotIn v u) (EP X pins σ Q) X.xe s := by
  cases py with
  | str z =>
    obtain ⟨e2, _⟩ := (show y = .str (tx z) ∧ _ from hy)
    cases px with
    | str w =>
      obtain ⟨e1, _⟩ := (show x = .str (tx w) ∧ _ from hx)
      match w, e, e1 with
      | [c], e, e1 =>
        cases e
        refine op_notIn_sign pins s σ H x y v u Q I rx ry ⟨c, tx z, e1, e2, ?_⟩
        rw [memN_tx] at q
        exact q
      | [], e, _ => cases e
      | _ :: _ :: _, e, _ => cases e
    | _ => cases e
  | dct kvs =>
    obtain ⟨a, ks, rfl, h1, h2, _⟩ := (show ∃ a ks, y = .ref a ∧ Rd H a (.dK ks) ∧ RepK X.K H kvs ks ∧ _ from hy)
    cases (show u = Value.ref a from ry)
    simp only [inO] at e
    split at e
    · rename_i hk
      cases e
      obtain ⟨j, e1, e2, g, e3⟩ := key_in hx h1 h2 hk
      rw [e3] at q
      exact d_notIn (by omega) I g rx fun s' I' => ⟨.bl _, H, I', rfl, q⟩
    · cases e
  | _ =>
    show wpAny _ _ (do return Value.bool (!(← contains u v))) _ _ _
    exact wpAny_bind (cont_run I hu rx ry hx hy (fun _ => nofun) (fun _ => nofun) e (wpAny_pure ⟨.bl _, H, I, rfl, q⟩))
theorem isn_val {px : PV} {x : V} (h : RepB X.K H px x) : decide (x = .non) = (match px with | .non => true | _ => false) := by
  cases px with
  | non => cases (show x = .non from h); rfl
  | bl b => cases (show x = .bl b from h); rfl
  | int b => cases (show x = .int b from h); rfl
  | str b => obtain ⟨e, _⟩ := (show x = .str (tx b) ∧ _ from h); subst e; rfl
  | tup b => obtain ⟨_, _, e, _⟩ := (show ∃ a vs, x = .ref a ∧ _ from h); subst e; rfl
  | lst b => obtain ⟨_, _, e, _⟩ := (show ∃ a vs, x = .ref a ∧ _ from h); subst e; rfl
  | dct b => obtain ⟨_, _, e, _⟩ := (show ∃ a vs, x = .ref a ∧ _ from h); subst e; rfl
  | set b => exact (show False from h).elim
theorem eqO_some {a b : PV} {t : Bool} (h : eqO a b = some t) : eqK 100 a b = true ∧ t = eqv a b := by
  unfold eqO at h
  split at h
  · rename_i k
    cases h
    exact ⟨k, rfl⟩
  · cases h
theorem cmpop_run (I : Inv X pins σ H s) (hu : X.A.units + 120 < cLine) {o : CmpO} {px py : PV} {x y : V} {v u : Value} {t : Bool} {Q : VK} (rx : RelV x v) (ry : RelV y u) (hx : RepB X.K H px x) (hy : RepB X.K H py y) (e : cmpop o px py = some t) (q : Q (.bl t) H) :
    wpAny (model X.prog X.w) X.A (compareOp (cmpO o) v u) (EP X pins σ Q) X.xe s := by
  cases o with
  | eq =>
    obtain ⟨hk, rfl⟩ := eqO_some (show eqO px py = some t from e)
    exact rc_run I (n := 99) (by omega) hk hx hy rx ry X.xe _ ⟨.bl _, H, I, rfl, q⟩
  | ne =>
    obtain ⟨t', e', rfl⟩ := Option.map_eq_some_iff.mp (show (eqO px py).map (!·) = some t from e)
    obtain ⟨hk, rfl⟩ := eqO_some e'
    exact rc_runN I (n := 99) (by omega) hk hx hy rx ry X.xe _ ⟨.bl _, H, I, rfl, q⟩
  | lt =>
    cases px with
    | int i =>
      cases py with
      | int j => cases (show x = .int i from hx); cases (show y = .int j from hy); cases e; exact op_lt pins s σ H _ _ v u Q I rx ry ⟨i, j, rfl, rfl, q⟩
      | _ => cases e
    | str i =>
      cases py with
      | str j => obtain ⟨e1, _⟩ := (show x = .str (tx i) ∧ _ from hx); obtain ⟨e2, _⟩ := (show y = .str (tx j) ∧ _ from hy); cases e; exact op_lt_str pins s σ H _ _ v u Q I rx ry ⟨_, _, e1, e2, by rw [tx_lt]; exact q⟩
      | _ => cases e
    | _ => cases e
  | gt =>
    cases px with
    | int i =>
      cases py with
      | int j => cases (show x = .int i from hx); cases (show y = .int j from hy); cases e; exact op_gt pins s σ H _ _ v u Q I rx ry ⟨i, j, rfl, rfl, q⟩
      | _ => cases e
    | str i =>
      cases py with
      | str j => obtain ⟨e1, _⟩ := (show x = .str (tx i) ∧ _ from hx); obtain ⟨e2, _⟩ := (show y = .str (tx j) ∧ _ from hy); cases e; exact op_gt_str pins s σ H _ _ v u Q I rx ry ⟨_, _, e1, e2, by rw [tx_lt]; exact q⟩
      | _ => cases e
    | _ => cases py <;> cases e
  | le =>
    cases px with
    | int i =>
      cases py with
      | int j => cases (show x = .int i from hx); cases (show y = .int j from hy); cases e; exact op_le pins s σ H _ _ v u Q I rx ry ⟨i, j, rfl, rfl, q⟩
      | _ => cases e
    | str i =>
      cases py with
      | str j => obtain ⟨e1, _⟩ := (show x = .str (tx i) ∧ _ from hx); obtain ⟨e2, _⟩ := (show y = .str (tx j) ∧ _ from hy); cases e; exact op_le_str pins s σ H _ _ v u Q I rx ry ⟨_, _, e1, e2, by rw [tx_lt]; exact q⟩
      | _ => cases e
    | _ => cases e
  | ge =>
    cases px with
    | int i =>
      cases py with
      | int j => cases (show x = .int i from hx); cases (show y = .int j from hy); cases e; exact op_ge pins s σ H _ _ v u Q I rx ry ⟨i, j, rfl, rfl, q⟩
      | _ => cases e
    | str i =>
      cases py with
      | str j => obtain ⟨e1, _⟩ := (show x = .str (tx i) ∧ _ from hx); obtain ⟨e2, _⟩ := (show y = .str (tx j) ∧ _ from hy); cases e; exact op_ge_str pins s σ H _ _ v u Q I rx ry ⟨_, _, e1, e2, by rw [tx_lt]; exact q⟩
      | _ => cases e
    | _ => cases py <;> cases e
  | isn =>
    cases py with
    | non =>
      cases (show y = .non from hy)
      refine op_isN pins s σ H x _ v u Q I rx ry ⟨rfl, ?_⟩
      rw [isn_val hx]
      cases px <;> cases e <;> exact q
    | _ => cases e
  | notn =>
    cases py with
    | non =>
      cases (show y = .non from hy)
      refine op_notN pins s σ H x _ v u Q I rx ry ⟨rfl, ?_⟩
      rw [isn_val hx]
      cases px <;> cases e <;> exact q
    | _ => cases e
  | inn => exact in_run I hu rx ry hx hy e q
  | nin =>
    obtain ⟨t', e', rfl⟩ := Option.map_eq_some_iff.mp (show (inO px py).map (!·) = some t from e)
    exact nin_run I hu rx ry hx hy e' q
end
end Rx
end
section
set_option Elab.async false
set_option linter.all false
set_option maxRecDepth 100000
set_option maxHeartbeats 1000000
/-! Rx ops 2: items, slices, truth. -/
namespace Rx
open PySem PySem.Spec PyProof.Rows L2
section
variable {X : L2.Cx} {pins : List (Addr × Obj)} {σ : L2.St} {H : Hp} {s : Shared} {μ : List Addr}
theorem truth_run (I : Inv X pins σ H s) {px : PV} {x : V} {v : Value} {Q : Bool → Hp → Prop} (rx : RelV x v) (hx : RepB X.K H px x) (q : Q (truth px) H) : wpAny (model X.prog X.w) X.A (truthy v) (TP X pins σ Q) X.xe s := by
  have hs : sizeLine = 16777216 := sizeLine_eq
  cases px with
  | non => cases (show x = .non from hx); exact tru_ok pins s σ H _ v Q I rx ⟨_, rfl, q⟩
  | bl b => cases (show x = .bl b from hx); exact tru_ok pins s σ H _ v Q I rx ⟨_, rfl, q⟩
  | int i =>
    cases (show x = .int i from hx)
    refine tru_ok pins s σ H _ v Q I rx ⟨_, rfl, ?_⟩
    have : truth (.int i) = (i != 0) := by
      show decide (i ≠ 0) = (i != 0)
      rw [Bool.eq_iff_iff]
      simp
    rw [← this]
    exact q
  | str z =>
    obtain ⟨e, hz⟩ := (show x = .str (tx z) ∧ z.length ≤ sizeLine from hx)
    subst e
    refine tru_ok pins s σ H _ v Q I rx ⟨_, ⟨by rw [tx_len]; exact hz, rfl⟩, ?_⟩
    have : truth (.str z) = (((tx z).length : Int) != 0) := by
      show (!z.isEmpty) = _
      rw [tx_len]
      cases z with
      | nil => rfl
      | cons a r =>
        rw [Bool.eq_iff_iff]
        simp
        omega
    rw [← this]
    exact q
  | tup xs =>
    obtain ⟨a, vs, rfl, h1, h2, _⟩ := (show ∃ a vs, x = .ref a ∧ SqT X.K H a vs ∧ RepL X.K H xs vs ∧ _ from hx)
    refine tru_ok pins s σ H _ v Q I rx ⟨_, .inr (.inl ⟨vs, h1, rfl⟩), ?_⟩
    have : truth (.tup xs) = !vs.isEmpty := by
      show (!xs.isEmpty) = _
      cases xs <;> cases vs <;> first | rfl | exact h2.elim
    rw [← this]
    exact q
  | lst xs =>
    obtain ⟨a, vs, rfl, h1, h2, _⟩ := (show ∃ a vs, x = .ref a ∧ Rd H a (.lst vs) ∧ RepL X.K H xs vs ∧ _ from hx)
    refine tru_ok pins s σ H _ v Q I rx ⟨_, .inl ⟨vs, .inl h1, rfl⟩, ?_⟩
    have : truth (.lst xs) = !vs.isEmpty := by
      show (!xs.isEmpty) = _
      cases xs <;> cases vs <;> first | rfl | exact h2.elim
    rw [← this]
    exact q
  | dct xs =>
    obtain ⟨a, ks, rfl, h1, h2, hz⟩ := (show ∃ a ks, x = .ref a ∧ Rd H a (.dK ks) ∧ RepK X.K H xs ks ∧ xs.length ≤ sizeLine from hx)
    cases (show v = Value.ref a from rx)
    obtain ⟨y, va, ra, d⟩ := Rd.dctI I h1
    have e : truth (.dct xs) = !ks.isEmpty := by
      show (!xs.isEmpty) = _
      cases xs <;> cases ks <;> first | rfl | exact h2.elim
    have hl : va.length = xs.length := by rw [← ra.length, h2.length]
    exact wpAny_truthy_dict y d (by omega) ⟨H, I.tok _, by rw [isEmpty_kv ra, ← e]; exact q⟩
  | set xs => exact (show False from hx).elim
/-! ### items -/
theorem nthO_get {α : Type} : ∀ (xs : List α) (n : Nat), nthO xs n = xs[n]?
  | [], n => by simp [nthO]
  | a :: r, 0 => rfl
  | a :: r, n + 1 => by rw [nthO, nthO_get r n, List.getElem?_cons_succ]
theorem place_ix (i : Int) (n : Nat) : place i n = ixN n i := rfl
theorem at_of_place {xs : List PV} {vs : List V} {i : Int} {z : PV} (r : RepL X.K H xs vs) (e : (place i xs.length).bind (nthO xs) = some z) : ∃ v, atI vs i = some v ∧ Rep X.K H z v := by
  obtain ⟨j, e1, e2⟩ := Option.bind_eq_some_iff.mp e
  rw [nthO_get] at e2
  obtain ⟨v, g1, g2⟩ := r.get e2
  refine ⟨v, ?_, g2⟩
  unfold atI
  rw [← r.length, ← place_ix, e1]
  exact g1
/-- d[k] as a subscript's rule -/
theorem ix_dct (hu : X.A.units + 1 < cLine) : IxR X (fun x y H Q => ∃ a v, x = .ref a ∧ DGet H a y (some v) ∧ Q v H) := by
  intro value slice pins s σ H x y v u Q I rx ry h hs
  obtain ⟨a, z, rfl, g, q⟩ := h
  cases (show v = Value.ref a from rx)
  exact tail_any (dict_typeIs I g) PySem.F.slot_dict_getitem.lookup (d_getItem hu I g ry fun w' s' I' rw' => ⟨z, H, I', rw', q⟩) hs
/-- any subscript of the core -/
theorem ix_all (hu : X.A.units + 1 < cLine) : IxR X (fun x y H Q => ∃ px py pz, RepB X.K H px x ∧ RepB X.K H py y ∧ index px py = some pz ∧ ∀ z, Rep X.K H pz z → Q z H) := by
  intro value slice pins s σ H x y v u Q I rx ry h hs
  obtain ⟨px, py, pz, hx, hy, e, q⟩ := h
  cases px with
  | tup xs =>
    cases py with
    | int i =>
      cases (show y = .int i from hy)
      obtain ⟨a, vs, rfl, h1, h2, _⟩ := (show ∃ a vs, x = .ref a ∧ SqT X.K H a vs ∧ RepL X.K H xs vs ∧ _ from hx)
      obtain ⟨z, g1, g2⟩ := at_of_place h2 e
      exact ix_tup value slice pins s σ H _ _ v u Q I rx ry ⟨a, vs, i, z, rfl, rfl, h1, g1, q z g2⟩ hs
    | _ => cases e
  | lst xs =>
    cases py with
    | int i =>
      cases (show y = .int i from hy)
      obtain ⟨a, vs, rfl, h1, h2, _⟩ := (show ∃ a vs, x = .ref a ∧ Rd H a (.lst vs) ∧ RepL X.K H xs vs ∧ _ from hx)
      obtain ⟨z, g1, g2⟩ := at_of_place h2 e
      exact ix_list value slice pins s σ H _ _ v u Q I rx ry ⟨a, vs, i, z, rfl, rfl, .inl h1, g1, q z g2⟩ hs
    | _ => cases e
  | str t =>
    cases py with
    | int i =>
      cases (show y = .int i from hy)
      obtain ⟨e0, hz⟩ := (show x = .str (tx t) ∧ t.length ≤ sizeLine from hx)
      subst e0
      have e' : ((place i t.length).bind fun n => (nthO t n).map fun c => PV.str [c]) = some pz := e
      obtain ⟨j, e1, e2⟩ := Option.bind_eq_some_iff.mp e'
      obtain ⟨c, e3, e4⟩ := Option.map_eq_some_iff.mp e2
      refine ix_str value slice pins s σ H _ _ v u Q I rx ry ⟨tx t, i, c, rfl, rfl, by rw [tx_len]; exact hz, ?_, q _ ?_⟩ hs
      · unfold atI
        show ((ixN t.length i).bind fun j => t[j]?) = some c
        rw [← place_ix, e1, ← e3, nthO_get]
        rfl
      · rw [← e4]
        exact ⟨rfl, by show 1 ≤ sizeLine; rw [sizeLine_eq]; decide⟩
    | _ => cases e
  | dct kvs =>
    obtain ⟨a, ks, rfl, h1, h2, _⟩ := (show ∃ a ks, x = .ref a ∧ Rd H a (.dK ks) ∧ RepK X.K H kvs ks ∧ _ from hx)
    simp only [index] at e
    split at e
    · rename_i hk
      obtain ⟨j, e1, e2, g, _⟩ := key_in hy h1 h2 hk
      rcases RepK.get h2 e1.1 with ⟨g1, g2⟩ | ⟨pv, w, g1, g2, g3⟩
      · rw [g1] at e; cases e
      · rw [g1] at e
        cases e
        rw [g2] at g
        exact ix_dct hu value slice pins s σ H _ _ v u Q I rx ry ⟨a, w, rfl, g, q w g3⟩ hs
    · cases e
  | _ => cases e
/-! ### slices -/
theorem endO_six (o : Option Int) (d n : Nat) : HT.sIx n d o = endO o d n := by
  cases o <;> rfl
theorem RepL.cut {K : PySem.W.Frag} {xs : List PV} {vs : List V} (h : RepL K H xs vs) (a b : Nat) : RepL K H (cut xs a b) ((vs.drop a).take (b - a)) := (h.drop a).take (b - a)
theorem sl_all (hm : ∀ a ∈ μ, H a ≠ none) : ∀ (pins : List (Addr × Obj)) (s : Shared) (σ : L2.St) (x : V) (v vl vu : Value) (lo hi : Option Int) (sl : Addr) (Q : VK) (px pz : PV), Inv X pins σ H s → RelV x v →
      s.heap.IsSliceOf sl vl vu Value.none → IsPart vl lo → IsPart vu hi → RepB X.K H px x → slice px lo hi = some pz → New X.K H μ pz Q →
      ∃ T id, typeLookup (Value.type T) (Str.ofString "__getitem__") = pure (some (Value.builtin id)) ∧ s.TypeIs v T ∧ wpAny (model X.prog X.w) X.A (getItem v (Value.ref sl)) (EP X pins σ Q) X.xe s := by
  intro pins s σ x v vl vu lo hi sl Q px pz I rx hs pl pu hx e q
  cases px with
  | tup xs =>
    obtain ⟨a, vs, rfl, h1, h2, hz⟩ := (show ∃ a vs, x = .ref a ∧ SqT X.K H a vs ∧ RepL X.K H xs vs ∧ xs.length ≤ sizeLine from hx)
    cases e
    have s1 := endO_six lo 0 xs.length
    have s2 := endO_six hi xs.length xs.length
    have hl := h2.length
    refine sl_tupA pins s σ H (.ref a) v vl vu lo hi sl Q I rx hs pl pu ⟨a, vs, rfl, h1, fun ⟨w1, w2⟩ => ?_, fun _ => ?_⟩
    · rw [← hl, s1] at w1
      rw [← hl, s2] at w2
      refine q.flat ?_
      show Rep X.K H (.tup (cut xs (endO lo 0 xs.length) (endO hi xs.length xs.length))) (.ref a)
      rw [w1, w2]
      have : cut xs 0 xs.length = xs := by unfold cut; simp
      rw [this]
      exact ⟨a, vs, rfl, h1, h2, hz⟩
    · unfold cutV
      rw [← hl, s1, s2]
      refine q.tup (h2.cut _ _) ?_ hm
      unfold cut
      rw [List.length_take, List.length_drop]
      omega
  | lst xs =>
    obtain ⟨a, vs, rfl, h1, h2, hz⟩ := (show ∃ a vs, x = .ref a ∧ Rd H a (.lst vs) ∧ RepL X.K H xs vs ∧ xs.length ≤ sizeLine from hx)
    cases e
    have s1 := endO_six lo 0 xs.length
    have s2 := endO_six hi xs.length xs.length
    have hl := h2.length
    refine sl_list pins s σ H (.ref a) v vl vu lo hi sl Q I rx hs pl pu ⟨a, vs, rfl, .inl h1, ?_⟩
    unfold cutV
    rw [← hl, s1, s2]
    refine q.list (h2.cut _ _) ?_ hm
    unfold cut
    rw [List.length_take, List.length_drop]
    omega
  | str t =>
    obtain ⟨e0, hz⟩ := (show x = .str (tx t) ∧ t.length ≤ sizeLine from hx)
    subst e0
    cases e
    have s1 := endO_six lo 0 t.length
    have s2 := endO_six hi t.length t.length
    refine sl_str pins s σ H _ v vl vu lo hi sl Q I rx hs pl pu ⟨tx t, rfl, by rw [tx_len]; exact hz, q.flat ?_⟩
    refine ⟨?_, ?_⟩
    · unfold cutS
      rw [tx_len, s1, s2]
      rfl
    · unfold cut
      rw [List.length_take, List.length_drop]
      omega
  | _ => cases e
end
end Rx
end
section
set_option Elab.async false
set_option linter.all false
set_option maxRecDepth 100000
set_option maxHeartbeats 1000000
/-! Rx E: rules of expressions. -/
namespace Rx
open PySem PySem.Spec PyProof.Rows L2

/-- what an expression's rule leans on -/
structure Ec where
  N : Nm
  O : Nat → Bool
  H0 : Hp
  Wx : WX
  /-- within an except suite -/
  hot : Bool := false
  /-- caught exceptions -/
  pn : List (Addr × Obj) := []
structure Gd (X : L2.Cx) (c : Ec) : Prop where
  calm : c.hot = false → X.calm = true
  nd : X.N.Nodup
  pnI : ∀ p ∈ c.pn, p ∈ X.pn
  hu : X.A.units + 130 < cLine
  tk : Takes X c.Wx
def repV (X : L2.Cx) (c : Ec) (fl : Fl) (Hs : Hp) (H : Hp) (μ : List Addr) (x : Val) (v : V) : Prop :=
  match x with
  | .d p => RepF X.K Hs fl H μ p v
  | x => RepV X.K c.N H μ c.pn x v
def tE (X : L2.Cx) (c : Ec) (fl : Fl) (r : Env → Wd → R Val) : TE := fun σ H Q =>
  ∃ ρ μ W, FR X.K c.N c.H0 H μ c.pn c.O σ ρ ∧ WR X.K c.N H μ W ∧ Ans X.K c.N c.Wx (repV X c fl H) H μ σ (r ρ W) Q
def tB (X : L2.Cx) (c : Ec) (r : Env → Wd → R Bool) : TT := fun σ H Q =>
  ∃ ρ μ W, FR X.K c.N c.H0 H μ c.pn c.O σ ρ ∧ WR X.K c.N H μ W ∧ Ans X.K c.N c.Wx (fun _ _ a b => b = a) H μ σ (r ρ W) Q
def tAs (X : L2.Cx) (c : Ec) (r : Env → Wd → R (List Val)) : TA := fun σ H Q =>
  ∃ ρ μ W, FR X.K c.N c.H0 H μ c.pn c.O σ ρ ∧ WR X.K c.N H μ W ∧ Ans X.K c.N c.Wx (fun H μ vs us => RepVL X.K c.N H μ c.pn vs us) H μ σ (r ρ W) Q
def JE (X : L2.Cx) (c : Ec) (fl : Fl) (e : Expr) (r : Env → Wd → R Val) : Prop := PE X e (tE X c fl r)
def JT (X : L2.Cx) (c : Ec) (e : Expr) (r : Env → Wd → R Bool) : Prop := PT X e (tB X c r)
def JA (X : L2.Cx) (c : Ec) (es : List Expr) (r : Env → Wd → R (List Val)) : Prop := PA X es (tAs X c r)
/-- the test of a value -/
def tst (r : Env → Wd → R Val) (ρ : Env) (W : Wd) : R Bool := (dat (r ρ W)).bind fun x w => .ok (truth x) w

theorem pe_mono {X : L2.Cx} {e : Expr} {t t' : TE} (h : PE X e t) (i : ∀ σ H Q, t' σ H Q → t σ H Q) : PE X e t' :=
  ⟨fun pins s σ H Q I q => h.run pins s σ H Q I (i σ H Q q)⟩
theorem pt_mono {X : L2.Cx} {e : Expr} {t t' : TT} (h : PT X e t) (i : ∀ σ H Q, t' σ H Q → t σ H Q) : PT X e t' :=
  ⟨fun pins s σ H Q I q => h.run pins s σ H Q I (i σ H Q q)⟩
theorem pa_mono {X : L2.Cx} {e : List Expr} {t t' : TA} (h : PA X e t) (i : ∀ σ H Q, t' σ H Q → t σ H Q) : PA X e t' :=
  ⟨fun pos pins s σ H Q I q => h.run pos pins s σ H Q I (i σ H Q q)⟩

/-! ### answers -/
section
variable {X : L2.Cx} {c : Ec} {H : Hp} {μ : List Addr} {σ : L2.St} {W : Wd}
theorem Ans.bindD {γ δ : Type} {fl : Fl} {Hs : Hp} {rep2 : Hp → List Addr → γ → δ → Prop} {r : R Val} {k : PV → Wd → R γ} {Q : δ → Hp → Prop} {G : V → Hp → Prop}
    (h : Ans X.K c.N c.Wx rep2 H μ σ ((dat r).bind k) Q)
    (g : ∀ a W1, ∀ b H1 μ1, r = .ok (.d a) W1 → Stp μ μ1 H H1 → WR X.K c.N H1 μ1 W1 → RepF X.K Hs fl H1 μ1 a b → Ans X.K c.N c.Wx rep2 H1 μ1 σ (k a W1) Q → G b H1) :
    Ans X.K c.N c.Wx (repV X c fl Hs) H μ σ r G := by
  cases r with
  | st => exact h
  | ex c fs W1 => exact h
  | ok a W1 =>
    cases a with
    | d p =>
      have h : Ans X.K c.N c.Wx rep2 H μ σ ((R.ok p W1).bind k) Q := h
      exact Ans.bind (rep1 := fun H μ p v => RepF X.K Hs fl H μ p v) h (fun a W1 e b H1 μ1 s w q hA => by
        cases e
        exact g p _ b H1 μ1 rfl s w q hA)
    | o n => exact (show False from h).elim
    | x _ _ => exact (show False from h).elim
    | f _ _ => exact (show False from h).elim
theorem Ans.new {Hs : Hp} {p : PV} {Q : VK} (w : WR X.K c.N H μ W) (fr : ∀ p, H p = none → Hs p = none) (h : Ans X.K c.N c.Wx (repV X c .f Hs) H μ σ (.ok (.d p) W) Q) : New X.K H μ p Q := by
  intro v H' s k r
  refine h v H' μ s (w.keep k s.ext) ?_
  cases p with
  | lst xs => obtain ⟨a, e, h0, hm, q⟩ := r; exact ⟨a, e, fr a h0, hm, q⟩
  | dct xs => obtain ⟨a, e, h0, hm, q⟩ := r; exact ⟨a, e, fr a h0, hm, q⟩
  | _ => exact r
theorem Ans.here {α β : Type} {rep : Hp → List Addr → α → β → Prop} {a : α} {b : β} {Q : β → Hp → Prop} (w : WR X.K c.N H μ W) (h : Ans X.K c.N c.Wx rep H μ σ (.ok a W) Q) (r : rep H μ a b) : Q b H :=
  h b H μ (Stp.refl _ _) w r
/-- the strongest that may be said -/
theorem Ans.post {α β β' : Type} {rep : Hp → List Addr → α → β → Prop} {rep' : Hp → List Addr → α → β' → Prop} {r : R α} {Q : β → Hp → Prop} (h : Ans X.K c.N c.Wx rep H μ σ r Q) :
    Ans X.K c.N c.Wx rep' H μ σ r fun b H' => ∃ a W' μ', r = .ok a W' ∧ Stp μ μ' H H' ∧ WR X.K c.N H' μ' W' ∧ rep' H' μ' a b := by
  cases r with
  | st => exact h
  | ex c fs W1 => exact h
  | ok a W1 => exact fun b H' μ' s w q => ⟨a, W1, μ', rfl, s, w, q⟩
theorem R.of_ok {α : Type} {o : Option α} {w w' : Wd} {a : α} (h : R.of o w = .ok a w') : o = some a ∧ w' = w := by
  cases o with
  | none => cases h
  | some b => cases h; exact ⟨rfl, rfl⟩
theorem Ans.ofo {α β : Type} {rep : Hp → List Addr → α → β → Prop} {o : Option α} {Q : β → Hp → Prop} (h : Ans X.K c.N c.Wx rep H μ σ (R.of o W) Q) : ∃ a, o = some a ∧ Ans X.K c.N c.Wx rep H μ σ (.ok a W) Q := by
  cases o with
  | none => exact (show False from h).elim
  | some a => exact ⟨a, rfl, h⟩
/-! ### kinds of data -/
theorem RepF.weak {Hs : Hp} {fl : Fl} {p : PV} {v : V} (h : RepF X.K Hs fl H μ p v) {Ht : Hp} : RepF X.K Ht .b H μ p v := by
  cases fl with
  | z => exact .inl h
  | b => exact h
  | f =>
    cases p with
    | lst xs => obtain ⟨a, rfl, _, hm, q⟩ := h; exact .inr ⟨a, rfl, hm, q⟩
    | dct xs => obtain ⟨a, rfl, _, hm, q⟩ := h; exact .inr ⟨a, rfl, hm, q⟩
    | _ => exact .inl h
theorem RepF.toB {Hs : Hp} {fl : Fl} {p : PV} {v : V} (h : RepF X.K Hs fl H μ p v) : RepB X.K H p v := by
  rcases (show Rep X.K H p v ∨ ∃ a, v = .ref a ∧ a ∉ μ ∧ RepO X.K H p a from h.weak (Ht := Hs)) with h | ⟨a, rfl, _, q⟩
  · exact h.b
  · exact q.b
/-- what may be read now may be read a step on -/
theorem RepF.step {Hs Ht : Hp} {fl : Fl} {p : PV} {v : V} {H' : Hp} {μ' : List Addr} (s : Stp μ μ' H H') (h : RepF X.K Hs fl H μ p v) : RepF X.K Ht .b H' μ' p v := by
  rcases (show Rep X.K H p v ∨ ∃ a, v = .ref a ∧ a ∉ μ ∧ RepO X.K H p a from h.weak (Ht := Hs)) with h | ⟨a, rfl, hm, q⟩
  · exact .inl (Rep.mono s.ext _ _ h)
  · obtain ⟨o, ho⟩ := RepO.ex q
    exact .inr ⟨a, rfl, s.nin ho hm, RepO.mono s.ext (fun o h => s.keep a o h hm) q⟩
theorem Stp.fresh {H' : Hp} {μ' : List Addr} (s : Stp μ μ' H H') {p : Addr} (h : H' p = none) : H p = none := by
  cases e : H p with
  | none => rfl
  | some o =>
    by_cases hm : p ∈ μ
    · exact absurd h (s.wld p hm (by rw [e]; exact nofun))
    · rw [s.keep p o e hm] at h; cases h
theorem JE.toB {fl : Fl} {e : Expr} {r : Env → Wd → R Val} (h : JE X c fl e r) : JE X c .b e r := by
  refine pe_mono h fun σ H Q ⟨ρ, μ, W, hF, hW, hA⟩ => ⟨ρ, μ, W, hF, hW, ?_⟩
  cases e : r ρ W with
  | st => rw [e] at hA; exact hA
  | ex c fs W1 => rw [e] at hA; exact hA
  | ok a W1 =>
    rw [e] at hA
    intro b H' μ' s w q
    refine hA b H' μ' s w ?_
    cases a with
    | d p => exact RepF.weak (Ht := H) (show RepF X.K H fl H' μ' p b from q)
    | _ => exact q
/-- a new thing, never changed from now on -/
theorem lock_f {pins : List (Addr × Obj)} {s : Shared} {Hs : Hp} {p : PV} {v : V} {N : Nm} (I : Inv X pins σ H s) (w : WR X.K N H μ W) (h : RepF X.K Hs .f H μ p v) :
    ∃ H', Inv X pins σ H' s ∧ WR X.K N H' μ W ∧ Rep X.K H' p v ∧ Ext H H' ∧ (∀ a, Hs a ≠ none → H' a = H a) ∧ (∀ a ∈ μ, H' a = H a) ∧ ∀ a, H a ≠ none → H' a ≠ none := by
  cases p with
  | lst xs =>
    obtain ⟨a, rfl, h0, hm, vs, e, r, hz⟩ := h
    obtain ⟨od, I'⟩ := I.lock e trivial
    have ext : Ext H (upd H a (.frz od (.lst vs))) := ⟨fun b ys q => by rw [upd_ne (fun z => by rw [z, e] at q; cases q)]; exact q, fun b o u q => by rw [upd_ne (fun z => by rw [z, e] at q; cases q)]; exact q⟩
    have km : ∀ b ∈ μ, upd H a (.frz od (.lst vs)) b = H b := fun b hb => upd_ne (fun z => hm (z ▸ hb))
    refine ⟨_, I', w.keep km ext, ⟨a, vs, rfl, ⟨od, upd_same⟩, RepL.mono ext xs vs r, hz⟩, ext, fun b hb => upd_ne (fun z => hb (z ▸ h0)), km, fun b hb => ?_⟩
    by_cases z : b = a
    · rw [z, upd_same]; exact nofun
    · rw [upd_ne z]; exact hb
  | dct xs =>
    obtain ⟨a, rfl, h0, hm, ks, e, r, hz⟩ := h
    obtain ⟨od, I'⟩ := I.lock e trivial
    have ext : Ext H (upd H a (.frz od (.dK ks))) := ⟨fun b ys q => by rw [upd_ne (fun z => by rw [z, e] at q; cases q)]; exact q, fun b o u q => by rw [upd_ne (fun z => by rw [z, e] at q; cases q)]; exact q⟩
    have km : ∀ b ∈ μ, upd H a (.frz od (.dK ks)) b = H b := fun b hb => upd_ne (fun z => hm (z ▸ hb))
    refine ⟨_, I', w.keep km ext, ⟨a, od, ks, rfl, upd_same, RepK.mono ext xs ks r, hz⟩, ext, fun b hb => upd_ne (fun z => hb (z ▸ h0)), km, fun b hb => ?_⟩
    by_cases z : b = a
    · rw [z, upd_same]; exact nofun
    · rw [upd_ne z]; exact hb
  | _ => exact ⟨H, I, w, h, Ext.refl H, fun _ _ => rfl, fun _ _ => rfl, fun _ z => z⟩
/-- a step, and then a lock of what is new -/
theorem Stp.lock {μ' : List Addr} {H1 H2 : Hp} (s : Stp μ μ' H H1) (e : Ext H1 H2) (k : ∀ a, H a ≠ none → H2 a = H1 a) : Stp μ μ' H H2 :=
  ⟨fun a o h hm => by rw [k a (by rw [h]; exact nofun)]; exact s.keep a o h hm, s.ext.trans e, fun a hm h => by rw [k a h]; exact s.wld a hm h, s.more⟩
theorem JE.toZ {e : Expr} {r : Env → Wd → R Val} (h : JE X c .f e r) : JE X c .z e r := by
  refine ⟨fun pins s σ H Q I ⟨ρ, μ, W, hF, hW, hA⟩ => ?_⟩
  refine thn (h.run pins s σ H _ I ⟨ρ, μ, W, hF, hW, hA.post⟩) fun u s1 ⟨v, H1, I1, rv, a, W1, μ1, e, st, w1, q⟩ => ?_
  rw [e] at hA
  cases a with
  | d p =>
    obtain ⟨H2, I2, w2, rz, ext, k, _, _⟩ := lock_f I1 w1 (show RepF X.K H .f H1 μ1 p v from q)
    exact ⟨v, H2, I2, rv, hA v H2 μ1 (st.lock ext k) w2 rz⟩
  | _ => exact ⟨v, H1, I1, rv, hA v H1 μ1 st w1 q⟩
end

section
variable {X : L2.Cx} {c : Ec} {a b d e : Expr} {ra rb rd : Env → Wd → R Val} {pos : Pos}
/-! ### constants, names -/
theorem je_val {p : PV} {v : V} {t : TE} (h : PE X e t) (i : ∀ σ H Q, Q v H → t σ H Q) (r : ∀ H, Rep X.K H p v) : JE X c .z e (fun _ W => .ok (.d p) W) :=
  pe_mono h fun σ H Q ⟨ρ, μ, W, hF, hW, hA⟩ => i σ H Q (hA.here (c := c) hW (r H))
theorem je_int {i : Int} {k : Nat} : JE X c .z (.Constant (.int i) k pos) (fun _ W => .ok (.d (.int i)) W) := je_val pe_int (fun _ _ _ q => q) fun _ => rfl
theorem je_bl {i : Bool} {k : Nat} : JE X c .z (.Constant (.bool i) k pos) (fun _ W => .ok (.d (.bl i)) W) := je_val pe_bl (fun _ _ _ q => q) fun _ => rfl
theorem je_non {k : Nat} : JE X c .z (.Constant .none k pos) (fun _ W => .ok (.d .non) W) := je_val pe_non (fun _ _ _ q => q) fun _ => rfl
theorem je_str {z : Str} {y : List Nat} {k : Nat} (e : z.cps.toList = y) (h : y.length ≤ sizeLine) : JE X c .z (.Constant (.str z) k pos) (fun _ W => .ok (.d (.str y)) W) :=
  je_val pe_str (fun _ _ _ q => q) fun _ => ⟨by rw [← e, tx_list], h⟩
theorem je_glo {x : Str} {p : PV} {u : Value} {v : V} (hg : Gl X x) (hm : X.mg x = some u) (r : RelV v u) (hr : ∀ H, Rep X.K H p v) (hd : (x == ("__debug__" : Str)) = false) : JE X c .z (.Name x pos) (fun _ W => .ok (.d p) W) :=
  je_val (pe_glob hg hm r hd) (fun _ _ _ q => q) hr
theorem je_var {i : Nat} {x : Str} (hN : X.N[i]? = some x) (hv : Vis X.env.scope x) (ho : c.O i = false) (h1 : (x == ("__debug__" : Str)) = false) (h2 : (x == ("__classdict__" : Str)) = false) : JE X c .z (.Name x pos) (fun ρ W => R.of (getv ρ i) W) := by
  refine pe_mono (pe_var hN hv h1 h2) fun σ H Q ⟨ρ, μ, W, hF, hW, hA⟩ => ?_
  obtain ⟨v, e, hA⟩ := hA.ofo
  obtain ⟨u, e1, q⟩ := hF.slot i v e ho
  refine ⟨u, e1, hA.here hW ?_⟩
  cases v <;> exact q
theorem je_own {i : Nat} {x : Str} (hN : X.N[i]? = some x) (hv : Vis X.env.scope x) (ho : c.O i = true) (h1 : (x == ("__debug__" : Str)) = false) (h2 : (x == ("__classdict__" : Str)) = false) : JE X c .b (.Name x pos) (fun ρ W => R.of (getv ρ i) W) := by
  refine pe_mono (pe_var hN hv h1 h2) fun σ H Q ⟨ρ, μ, W, hF, hW, hA⟩ => ?_
  obtain ⟨v, e, hA⟩ := hA.ofo
  obtain ⟨p, a, rfl, e1, q, hm, _⟩ := hF.own i v e ho
  exact ⟨_, e1, hA.here hW (show Rep X.K H p (.ref a) ∨ _ from .inr ⟨a, rfl, hm, q⟩)⟩
/-! ### operators -/
theorem je_bin (G : Gd X c) {o : BinO} (ha : JE X c .b a ra) (hb : JE X c .b b rb) :
    JE X c .f (.BinOp a (opO o) b pos) (fun ρ W => (dat (ra ρ W)).bind fun x w => (dat (rb ρ w)).bind fun y w => R.of ((binop o x y).map .d) w) := by
  refine pe_mono (pe_op (r := fun x y H Q => ∃ px py pz μ, RepB X.K H px x ∧ RepB X.K H py y ∧ binop o px py = some pz ∧ (∀ a ∈ μ, H a ≠ none) ∧ New X.K H μ pz Q) ?_ ha hb) fun σ H Q ⟨ρ, μ, W, hF, hW, hA⟩ => ?_
  · rintro pins s σ H x y v u Q I rx ry ⟨px, py, pz, μ, hx, hy, e, hm, q⟩
    exact binop_run I hm rx ry hx hy e q
  · refine ⟨ρ, μ, W, hF, hW, hA.bindD fun px W1 x H1 μ1 _ s1 w1 r1 hA1 => ⟨ρ, μ1, W1, hF.step s1 hW, w1, hA1.bindD fun py W2 y H2 μ2 _ s2 w2 r2 hA2 => ?_⟩⟩
    obtain ⟨a, e, hA2⟩ := hA2.ofo
    obtain ⟨pz, e1, rfl⟩ := Option.map_eq_some_iff.mp e
    exact ⟨px, py, pz, μ2, RepF.toB (RepF.step (Ht := H) s2 r1), RepF.toB r2, e1, w2.there, hA2.new w2 fun p h => s1.fresh (s2.fresh h)⟩

theorem op_cmpR (G : Gd X c) (o : CmpO) : OpR X (compareOp (cmpO o)) (fun x y H Q => ∃ px py t, RepB X.K H px x ∧ RepB X.K H py y ∧ cmpop o px py = some t ∧ Q (.bl t) H) := by
  rintro pins s σ H x y v u Q I rx ry ⟨px, py, t, hx, hy, e, q⟩
  have := G.hu
  exact cmpop_run I (by omega) rx ry hx hy e q
theorem map_bl {o : Option Bool} {v : Val} (h : (o.map fun t => Val.d (.bl t)) = some v) : ∃ t, o = some t ∧ v = .d (.bl t) := by
  obtain ⟨t, e, rfl⟩ := Option.map_eq_some_iff.mp h
  exact ⟨t, e, rfl⟩
def cmpR (o : CmpO) (ra rb : Env → Wd → R Val) : Env → Wd → R Val := fun ρ W => (dat (ra ρ W)).bind fun x w => (dat (rb ρ w)).bind fun y w => R.of ((cmpop o x y).map fun t => .d (.bl t)) w
theorem cmp_imp {o : CmpO} {σ : L2.St} {H : Hp} {Q : VK} (h : tE X c .z (cmpR o ra rb) σ H Q) :
    tOp (fun x y H Q => ∃ px py t, RepB X.K H px x ∧ RepB X.K H py y ∧ cmpop o px py = some t ∧ Q (.bl t) H) (tE X c .b ra) (tE X c .b rb) σ H Q := by
  obtain ⟨ρ, μ, W, hF, hW, hA⟩ := h
  refine ⟨ρ, μ, W, hF, hW, hA.bindD fun px W1 x H1 μ1 _ s1 w1 r1 hA1 => ⟨ρ, μ1, W1, hF.step s1 hW, w1, hA1.bindD fun py W2 y H2 μ2 _ s2 w2 r2 hA2 => ?_⟩⟩
  obtain ⟨v, e, hA2⟩ := hA2.ofo
  obtain ⟨t, e1, rfl⟩ := map_bl e
  exact ⟨px, py, t, RepF.toB (RepF.step (Ht := H) s2 r1), RepF.toB r2, e1, hA2.here w2 rfl⟩
theorem je_cmp (G : Gd X c) {o : CmpO} (ha : JE X c .b a ra) (hb : JE X c .b b rb) (hm : behindInMarks (cmpO o) b = false) : JE X c .z (.Compare a [cmpO o] [b] pos) (cmpR o ra rb) :=
  pe_mono (pe_cmpR (op_cmpR G o) ha hb hm) fun _ _ _ h => cmp_imp h
/-- any expression whose test is its value's truth -/
theorem jt_val {fl : Fl} {r : Env → Wd → R Val} (h : JE X c fl e r) (he : ∀ whole, isTrue e X.env whole = (do let v ← whole; standAt e.pos; holding [v] (truthy v))) : JT X c e (tst r) := by
  refine ⟨fun pins s σ H Q I ⟨ρ, μ, W, hF, hW, hA⟩ => ?_⟩
  refine isTrue_plain (thn (h.run pins s σ H _ I ⟨ρ, μ, W, hF, hW, hA.bindD (G := fun v H1 => ∃ p μ1 W1, WR X.K c.N H1 μ1 W1 ∧ RepF X.K H fl H1 μ1 p v ∧ Ans X.K c.N c.Wx (fun _ _ a b => b = a) H1 μ1 σ (.ok (truth p) W1) Q) fun p W1 x H1 μ1 _ s1 w1 r1 hA1 => ⟨p, μ1, W1, w1, r1, hA1⟩⟩) fun u s1 ⟨v, H1, I1, rv, p, μ1, W1, w1, r1, hA1⟩ => ?_) (he _)
  exact truth_run I1 rv (RepF.toB r1) (hA1.here w1 rfl)
theorem cmpR_bl {o : CmpO} {ρ : Env} {W W1 : Wd} {v : Val} (h : cmpR o ra rb ρ W = .ok v W1) : ∃ t, v = .d (.bl t) := by
  unfold cmpR at h
  cases e : dat (ra ρ W) with
  | st => rw [e] at h; cases h
  | ex _ _ _ => rw [e] at h; cases h
  | ok x W2 =>
    rw [e, R.bind_ok] at h
    cases e2 : dat (rb ρ W2) with
    | st => rw [e2] at h; cases h
    | ex _ _ _ => rw [e2] at h; cases h
    | ok y W3 =>
      rw [e2, R.bind_ok] at h
      obtain ⟨e3, _⟩ := R.of_ok h
      obtain ⟨t, _, rfl⟩ := map_bl e3
      exact ⟨t, rfl⟩
theorem tst_imp {r : Env → Wd → R Val} (hb : ∀ ρ W v W1, r ρ W = .ok v W1 → ∃ t, v = .d (.bl t)) {σ : L2.St} {H : Hp} {Q : Bool → Hp → Prop} (h : tB X c (tst r) σ H Q) : tE X c .z r σ H fun x H' => ∃ k, x = .bl k ∧ Q k H' := by
  obtain ⟨ρ, μ, W, hF, hW, hA⟩ := h
  refine ⟨ρ, μ, W, hF, hW, hA.bindD fun p W1 x H1 μ1 e s1 w1 r1 hA1 => ?_⟩
  obtain ⟨t, e2⟩ := hb _ _ _ _ e
  cases e2
  exact ⟨t, r1, hA1.here w1 rfl⟩
theorem jt_cmp (G : Gd X c) {o : CmpO} (ha : JE X c .b a ra) (hb : JE X c .b b rb) (hm : behindInMarks (cmpO o) b = false) : JT X c (.Compare a [cmpO o] [b] pos) (tst (cmpR o ra rb)) :=
  pt_mono (pt_cmpR (op_cmpR G o) ha hb hm) fun _ _ _ h => cmp_imp (tst_imp (fun _ _ _ _ => cmpR_bl) h)
/-! ### a chain of two -/
def cmp2R (o p : CmpO) (ra rb rd : Env → Wd → R Val) : Env → Wd → R Val := fun ρ W => (dat (ra ρ W)).bind fun x w => (dat (rb ρ w)).bind fun y w => (R.of (cmpop o x y) w).bind fun t w =>
  if t then (dat (rd ρ w)).bind fun z w => R.of ((cmpop p y z).map fun t => .d (.bl t)) w else .ok (.d (.bl false)) w
def cmpQ (X : L2.Cx) (o : CmpO) : R2 := fun x y H Q => ∃ px py t, RepB X.K H px x ∧ RepB X.K H py y ∧ cmpop o px py = some t ∧ Q (.bl t) H
theorem cmp2_imp {o p : CmpO} {σ : L2.St} {H : Hp} {Q : VK} (h : tE X c .z (cmp2R o p ra rb rd) σ H Q) : tChain (cmpQ X o) (cmpQ X p) (tE X c .b ra) (tE X c .b rb) (tE X c .b rd) σ H Q := by
  obtain ⟨ρ, μ, W, hF, hW, hA⟩ := h
  refine ⟨ρ, μ, W, hF, hW, hA.bindD fun px W1 x H1 μ1 _ s1 w1 r1 hA1 => ⟨ρ, μ1, W1, hF.step s1 hW, w1, hA1.bindD fun py W2 y H2 μ2 _ s2 w2 r2 hA2 => ?_⟩⟩
  cases e : cmpop o px py with
  | none => rw [e] at hA2; exact hA2.elim
  | some t =>
    rw [e] at hA2
    have hA2 : Ans X.K c.N c.Wx (repV X c .z H) H2 μ2 σ (if t then (dat (rd ρ W2)).bind fun z w => R.of ((cmpop p py z).map fun t => .d (.bl t)) w else .ok (.d (.bl false)) W2) Q := hA2
    refine ⟨px, py, t, RepF.toB (RepF.step (Ht := H) s2 r1), RepF.toB r2, e, t, rfl, ?_⟩
    cases t with
    | false =>
      rw [if_neg Bool.false_ne_true] at hA2
      rw [if_neg Bool.false_ne_true]
      exact hA2.here w2 rfl
    | true =>
      rw [if_pos rfl] at hA2
      rw [if_pos rfl]
      refine ⟨ρ, μ2, W2, (hF.step s1 hW).step s2 w1, w2, hA2.bindD fun pz W3 z H3 μ3 _ s3 w3 r3 hA3 => ?_⟩
      obtain ⟨v, e, hA3⟩ := hA3.ofo
      obtain ⟨t, e1, rfl⟩ := map_bl e
      exact ⟨py, pz, t, RepF.toB (RepF.step (Ht := H) s3 r2), RepF.toB r3, e1, hA3.here w3 rfl⟩
theorem je_cmp2 (G : Gd X c) {o p : CmpO} (ha : JE X c .b a ra) (hb : JE X c .b b rb) (hd : JE X c .b d rd) (hm : lastMarks [cmpO o, cmpO p] [b, d] = false) :
    JE X c .z (.Compare a [cmpO o, cmpO p] [b, d] pos) (cmp2R o p ra rb rd) :=
  pe_mono (pe_chain (r := cmpQ X o) (r' := cmpQ X p) (op_cmpR G o) (op_cmpR G p) ha hb hd hm) fun _ _ _ h => cmp2_imp h
theorem cmp2R_bl {o p : CmpO} {ρ : Env} {W W1 : Wd} {v : Val} (h : cmp2R o p ra rb rd ρ W = .ok v W1) : ∃ t, v = .d (.bl t) := by
  unfold cmp2R at h
  cases e : dat (ra ρ W) with
  | st => rw [e] at h; cases h
  | ex _ _ _ => rw [e] at h; cases h
  | ok x W2 =>
    rw [e, R.bind_ok] at h
    cases e2 : dat (rb ρ W2) with
    | st => rw [e2] at h; cases h
    | ex _ _ _ => rw [e2] at h; cases h
    | ok y W3 =>
      rw [e2, R.bind_ok] at h
      cases e4 : cmpop o x y with
      | none => rw [e4] at h; cases h
      | some t =>
        rw [e4, R.of_some, R.bind_ok] at h
        cases t with
        | false => cases h; exact ⟨_, rfl⟩
        | true =>
          rw [if_pos rfl] at h
          cases e5 : dat (rd ρ W3) with
          | st => rw [e5] at h; cases h
          | ex _ _ _ => rw [e5] at h; cases h
          | ok z W4 =>
            rw [e5, R.bind_ok] at h
            obtain ⟨e3, _⟩ := R.of_ok h
            obtain ⟨t, _, rfl⟩ := map_bl e3
            exact ⟨t, rfl⟩
theorem jt_cmp2 (G : Gd X c) {o p : CmpO} (ha : JE X c .b a ra) (hb : JE X c .b b rb) (hd : JE X c .b d rd) (hm : lastMarks [cmpO o, cmpO p] [b, d] = false) :
    JT X c (.Compare a [cmpO o, cmpO p] [b, d] pos) (tst (cmp2R o p ra rb rd)) :=
  pt_mono (pt_chain (r := cmpQ X o) (r' := cmpQ X p) (op_cmpR G o) (op_cmpR G p) ha hb hd hm) fun _ _ _ h => cmp2_imp (tst_imp (fun _ _ _ _ => cmp2R_bl) h)

/-! ### and, or, not, if -/
def andR (ra rb : Env → Wd → R Val) : Env → Wd → R Val := fun ρ W => (dat (ra ρ W)).bind fun x w => if truth x then rb ρ w else .ok (.d x) w
def orR (ra rb : Env → Wd → R Val) : Env → Wd → R Val := fun ρ W => (dat (ra ρ W)).bind fun x w => if truth x then .ok (.d x) w else rb ρ w
def notR (ra : Env → Wd → R Val) : Env → Wd → R Val := fun ρ W => (dat (ra ρ W)).bind fun x w => .ok (.d (.bl (!truth x))) w
def iteR (ra rb rd : Env → Wd → R Val) : Env → Wd → R Val := fun ρ W => (dat (ra ρ W)).bind fun x w => if truth x then rb ρ w else rd ρ w
/-- what stands behind a tested value -/
def Beh (X : L2.Cx) (c : Ec) (fl : Fl) (Hs : Hp) (σ : L2.St) (H : Hp) (μ : List Addr) (k : Env → Wd → R Val) (Q : VK) : Prop :=
  ∃ ρ W, FR X.K c.N c.H0 H μ c.pn c.O σ ρ ∧ WR X.K c.N H μ W ∧ Ans X.K c.N c.Wx (repV X c fl Hs) H μ σ (k ρ W) Q
/-- data got at Hs are new at H, too, if Hs is earlier -/
theorem Ans.late {fl : Fl} {Hs H : Hp} {μ : List Addr} {σ : L2.St} {r : R Val} {Q : VK} (fr : ∀ p, H p = none → Hs p = none) (h : Ans X.K c.N c.Wx (repV X c fl Hs) H μ σ r Q) : Ans X.K c.N c.Wx (repV X c fl H) H μ σ r Q := by
  cases r with
  | st => exact h
  | ex _ _ _ => exact h
  | ok v W1 =>
    intro b H' μ' s w q
    refine h b H' μ' s w ?_
    cases v with
    | d p =>
      cases fl with
      | z => exact q
      | b => exact q
      | f =>
        have q : RepF X.K H .f H' μ' p b := q
        show RepF X.K Hs .f H' μ' p b
        cases p with
        | lst xs => obtain ⟨a, e, h0, hm, q⟩ := q; exact ⟨a, e, fr a h0, hm, q⟩
        | dct xs => obtain ⟨a, e, h0, hm, q⟩ := q; exact ⟨a, e, fr a h0, hm, q⟩
        | _ => exact q
    | _ => exact q
theorem je_and {rest : List Expr} (ha : JE X c .z a ra) (hb : JE X c .z (.BoolOp .And (b :: rest) pos) rb) : JE X c .z (.BoolOp .And (a :: b :: rest) pos) (andR ra rb) := by
  refine ⟨fun pins s σ H Q I ⟨ρ, μ, W, hF, hW, hA⟩ => ?_⟩
  refine BoolOp_and (thn (ha.run pins s σ H _ I ⟨ρ, μ, W, hF, hW, hA.bindD (G := fun v H1 => ∃ p μ1 W1, Stp μ μ1 H H1 ∧ WR X.K c.N H1 μ1 W1 ∧ Rep X.K H1 p v ∧ Ans X.K c.N c.Wx (repV X c .z H) H1 μ1 σ (if truth p then rb ρ W1 else .ok (.d p) W1) Q)
    fun p W1 x H1 μ1 _ s1 w1 r1 hA1 => ⟨p, μ1, W1, s1, w1, r1, hA1⟩⟩) fun u s1 ⟨v, H1, I1, rv, p, μ1, W1, st, w1, r1, hA1⟩ => ?_)
  refine thn (truth_run I1 rv (Rep.b r1) (Q := fun k H2 => k = truth p ∧ H2 = H1) ⟨rfl, rfl⟩) fun k s2 ⟨H2, I2, e1, e2⟩ => ?_
  subst e2
  rw [← e1] at hA1
  cases k with
  | true => exact hb.run pins s2 σ H2 Q I2 ⟨ρ, μ1, W1, hF.step st hW, w1, hA1⟩
  | false => exact ⟨v, H2, I2, rv, hA1.here w1 r1⟩
theorem je_or {rest : List Expr} (ha : JE X c .z a ra) (hb : JE X c .z (.BoolOp .Or (b :: rest) pos) rb) : JE X c .z (.BoolOp .Or (a :: b :: rest) pos) (orR ra rb) := by
  refine ⟨fun pins s σ H Q I ⟨ρ, μ, W, hF, hW, hA⟩ => ?_⟩
  refine BoolOp_or (thn (ha.run pins s σ H _ I ⟨ρ, μ, W, hF, hW, hA.bindD (G := fun v H1 => ∃ p μ1 W1, Stp μ μ1 H H1 ∧ WR X.K c.N H1 μ1 W1 ∧ Rep X.K H1 p v ∧ Ans X.K c.N c.Wx (repV X c .z H) H1 μ1 σ (if truth p then .ok (.d p) W1 else rb ρ W1) Q)
    fun p W1 x H1 μ1 _ s1 w1 r1 hA1 => ⟨p, μ1, W1, s1, w1, r1, hA1⟩⟩) fun u s1 ⟨v, H1, I1, rv, p, μ1, W1, st, w1, r1, hA1⟩ => ?_)
  refine thn (truth_run I1 rv (Rep.b r1) (Q := fun k H2 => k = truth p ∧ H2 = H1) ⟨rfl, rfl⟩) fun k s2 ⟨H2, I2, e1, e2⟩ => ?_
  subst e2
  rw [← e1] at hA1
  cases k with
  | true => exact ⟨v, H2, I2, rv, hA1.here w1 r1⟩
  | false => exact hb.run pins s2 σ H2 Q I2 ⟨ρ, μ1, W1, hF.step st hW, w1, hA1⟩
theorem je_one {op : BoolOp} {fl : Fl} (ha : JE X c fl a ra) : JE X c fl (.BoolOp op [a] pos) ra := pe_one ha
theorem je_not {fl : Fl} (ha : JE X c fl a ra) : JE X c .z (.UnaryOp .Not a pos) (notR ra) := by
  refine ⟨fun pins s σ H Q I ⟨ρ, μ, W, hF, hW, hA⟩ => ?_⟩
  refine UnaryOp_ (thn (ha.run pins s σ H _ I ⟨ρ, μ, W, hF, hW, hA.bindD (G := fun v H1 => ∃ p μ1 W1, WR X.K c.N H1 μ1 W1 ∧ RepB X.K H1 p v ∧ Ans X.K c.N c.Wx (repV X c .z H) H1 μ1 σ (.ok (.d (.bl (!truth p))) W1) Q)
    fun p W1 x H1 μ1 _ s1 w1 r1 hA1 => ⟨p, μ1, W1, w1, RepF.toB r1, hA1⟩⟩) fun u s1 ⟨v, H1, I1, rv, p, μ1, W1, w1, r1, hA1⟩ => ?_)
  exact not_of (thn (truth_run I1 rv r1 (Q := fun k H2 => Q (.bl (!k)) H2) (hA1.here w1 rfl)) fun k s2 ⟨H2, I2, q2⟩ => ⟨.bl (!k), H2, I2, rfl, q2⟩)
/-- a test, then what follows -/
theorem tB_split {γ δ : Type} {rep2 : Hp → List Addr → γ → δ → Prop} {σ : L2.St} {H : Hp} {μ : List Addr} {r : R Val} {k : PV → Wd → R γ} {Q : δ → Hp → Prop} {G : Bool → Hp → Prop} {f : Bool → Wd → R γ}
    (hk : ∀ p w, k p w = f (truth p) w) (h : Ans X.K c.N c.Wx rep2 H μ σ ((dat r).bind k) Q)
    (g : ∀ t W1 H1 μ1, Stp μ μ1 H H1 → WR X.K c.N H1 μ1 W1 → Ans X.K c.N c.Wx rep2 H1 μ1 σ (f t W1) Q → G t H1) :
    Ans X.K c.N c.Wx (fun _ _ a b => b = a) H μ σ ((dat r).bind fun x w => .ok (truth x) w) G := by
  cases r with
  | st => exact h
  | ex _ _ _ => exact h
  | ok v W1 =>
    cases v with
    | d p =>
      have h : Ans X.K c.N c.Wx rep2 H μ σ (f (truth p) W1) Q := by rw [← hk]; exact h
      have h' : Ans X.K c.N c.Wx rep2 H μ σ ((R.ok (truth p) W1).bind f) Q := h
      exact Ans.bind (rep1 := fun _ _ a b => b = a) h' (fun a W2 e b H1 μ1 s w q hA => by
        cases e
        subst q
        exact g _ _ H1 μ1 s w hA)
    | _ => exact (show False from h).elim
theorem jt_not (ha : JT X c a (tst ra)) : JT X c (.UnaryOp .Not a pos) (tst (notR ra)) := by
  refine pt_mono (pt_not ha) fun σ H Q ⟨ρ, μ, W, hF, hW, hA⟩ => ⟨ρ, μ, W, hF, hW, ?_⟩
  have e : tst (notR ra) ρ W = (dat (ra ρ W)).bind fun x w => .ok (!truth x) w := by
    unfold tst notR
    cases dat (ra ρ W) <;> rfl
  rw [e] at hA
  exact tB_split (f := fun t w => .ok (!t) w) (fun _ _ => rfl) hA fun t W1 H1 μ1 s1 w1 hA1 => hA1.here w1 rfl
theorem jt_and {rest : List Expr} (ha : JT X c a (tst ra)) (hb : PW X (.BoolOp .And (b :: rest) pos) (tB X c (tst rb))) : PW X (.BoolOp .And (a :: b :: rest) pos) (tB X c (tst (andR ra rb))) := by
  have h := pw_and ha hb
  refine ⟨fun whole pins s σ H Q I q => h.run whole pins s σ H Q I ?_⟩
  obtain ⟨ρ, μ, W, hF, hW, hA⟩ := q
  refine ⟨ρ, μ, W, hF, hW, ?_⟩
  have e : tst (andR ra rb) ρ W = (dat (ra ρ W)).bind fun x w => if truth x then tst rb ρ w else .ok false w := by
    unfold tst andR
    cases e0 : dat (ra ρ W) with
    | ok x w =>
      rw [R.bind_ok, R.bind_ok]
      cases hx : truth x with
      | true => rfl
      | false =>
        show R.ok (truth x) w = _
        rw [hx]; rfl
    | _ => rfl
  rw [e] at hA
  refine tB_split (f := fun t w => if t then tst rb ρ w else .ok false w) (fun _ _ => rfl) hA fun t W1 H1 μ1 s1 w1 hA1 => ?_
  cases t with
  | true => exact ⟨ρ, μ1, W1, hF.step s1 hW, w1, hA1⟩
  | false => exact hA1.here w1 rfl
theorem jt_or {rest : List Expr} (ha : JT X c a (tst ra)) (hb : PW X (.BoolOp .Or (b :: rest) pos) (tB X c (tst rb))) : PW X (.BoolOp .Or (a :: b :: rest) pos) (tB X c (tst (orR ra rb))) := by
  have h := pw_or ha hb
  refine ⟨fun whole pins s σ H Q I q => h.run whole pins s σ H Q I ?_⟩
  obtain ⟨ρ, μ, W, hF, hW, hA⟩ := q
  refine ⟨ρ, μ, W, hF, hW, ?_⟩
  have e : tst (orR ra rb) ρ W = (dat (ra ρ W)).bind fun x w => if truth x then .ok true w else tst rb ρ w := by
    unfold tst orR
    cases e0 : dat (ra ρ W) with
    | ok x w =>
      rw [R.bind_ok, R.bind_ok]
      cases hx : truth x with
      | true =>
        show R.ok (truth x) w = _
        rw [hx]; rfl
      | false => rfl
    | _ => rfl
  rw [e] at hA
  refine tB_split (f := fun t w => if t then .ok true w else tst rb ρ w) (fun _ _ => rfl) hA fun t W1 H1 μ1 s1 w1 hA1 => ?_
  cases t with
  | true => exact hA1.here w1 rfl
  | false => exact ⟨ρ, μ1, W1, hF.step s1 hW, w1, hA1⟩
theorem je_ite {fl : Fl} (ha : JT X c a (tst ra)) (hb : JE X c fl b rb) (hd : JE X c fl d rd) : JE X c fl (.IfExp a b d pos) (iteR ra rb rd) := by
  refine pe_mono (pe_ifExp ha hb hd) fun σ H Q ⟨ρ, μ, W, hF, hW, hA⟩ => ⟨ρ, μ, W, hF, hW, ?_⟩
  refine tB_split (f := fun t w => if t then rb ρ w else rd ρ w) (fun _ _ => rfl) (show Ans _ _ _ _ _ _ _ ((dat (ra ρ W)).bind fun x w => if truth x then rb ρ w else rd ρ w) Q from hA) fun t W1 H1 μ1 s1 w1 hA1 => ?_
  cases t with
  | true => exact ⟨ρ, μ1, W1, hF.step s1 hW, w1, hA1.late fun p h => s1.fresh h⟩
  | false => exact ⟨ρ, μ1, W1, hF.step s1 hW, w1, hA1.late fun p h => s1.fresh h⟩
/-! ### minus -/
def negR (ra : Env → Wd → R Val) : Env → Wd → R Val := fun ρ W => (dat (ra ρ W)).bind fun x w => match x with | .int i => .ok (.d (.int (-i))) w | _ => .st
theorem je_neg (ha : JE X c .z a ra) : JE X c .z (.UnaryOp .USub a pos) (negR ra) := by
  refine pe_mono (pe_un un_neg ha) fun σ H Q ⟨ρ, μ, W, hF, hW, hA⟩ => ⟨ρ, μ, W, hF, hW, hA.bindD fun p W1 x H1 μ1 _ s1 w1 r1 hA1 => ?_⟩
  cases p with
  | int i => exact ⟨i, r1, hA1.here w1 rfl⟩
  | _ => exact (show False from hA1).elim
end
end Rx
end
section
set_option Elab.async false
set_option linter.all false
set_option maxRecDepth 100000
set_option maxHeartbeats 1000000
/-! Rx E2: subscripts, displays. -/
namespace Rx
open PySem PySem.Spec PyProof.Rows L2
section
variable {X : L2.Cx} {c : Ec} {a b d e : Expr} {ra rb rd : Env → Wd → R Val} {pos : Pos}
/-! ### subscripts -/
def ixR (ra rb : Env → Wd → R Val) : Env → Wd → R Val := fun ρ W => (ra ρ W).bind fun x w => (dat (rb ρ w)).bind fun y w => ixV x y w
theorem RepVL.get {K : PySem.W.Frag} {N : Nm} {H : Hp} {μ : List Addr} {pn : List (Addr × Obj)} : ∀ {xs : List Val} {vs : List V} {n : Nat} {x : Val}, RepVL K N H μ pn xs vs → xs[n]? = some x → ∃ v, vs[n]? = some v ∧ RepV K N H μ pn x v
  | _ :: _, v :: _, 0, _, h, e => by
    rw [List.getElem?_cons_zero] at e
    cases e
    exact ⟨v, rfl, h.1⟩
  | _ :: _, _ :: _, n + 1, x, h, e => by
    rw [List.getElem?_cons_succ] at e ⊢
    exact RepVL.get h.2 e
  | [], [], n, x, _, e => by cases e
theorem RepVL.length {K : PySem.W.Frag} {N : Nm} {H : Hp} {μ : List Addr} {pn : List (Addr × Obj)} : ∀ {xs : List Val} {vs : List V}, RepVL K N H μ pn xs vs → xs.length = vs.length
  | [], [], _ => rfl
  | _ :: _, _ :: _, h => congrArg (· + 1) (RepVL.length h.2)
theorem RepV.pn0 {K : PySem.W.Frag} {N : Nm} {H : Hp} {μ : List Addr} {pn : List (Addr × Obj)} : ∀ {x : Val} {v : V}, RepV K N H μ [] x v → RepV K N H μ pn x v
  | .d _, _, h => h
  | .o _, _, h => h
  | .x _ _, _, ⟨_, _, _, _, _, h, _⟩ => by simp at h
  | .f _ _, _, h => h
/-- a value a step on -/
theorem repV_step {fl : Fl} {Hs Ht H H' : Hp} {μ μ' : List Addr} {W : Wd} {x : Val} {v : V} (s : Stp μ μ' H H') (w : WR X.K c.N H μ W) (h : repV X c fl Hs H μ x v) : repV X c .b Ht H' μ' x v := by
  cases x with
  | d p => exact RepF.step (Hs := Hs) (Ht := Ht) (fl := fl) s (show RepF X.K Hs fl H μ p v from h)
  | o n => exact RepV.step s w (show RepV X.K c.N H μ c.pn (.o n) v from h)
  | x a b => exact RepV.step s w (show RepV X.K c.N H μ c.pn (.x a b) v from h)
  | f a b => exact (show False from h).elim
theorem je_ix (G : Gd X c) (ha : JE X c .b a ra) (hb : JE X c .b b rb) (hs : PlainIx b) : JE X c .z (.Subscript a b pos) (ixR ra rb) := by
  have hu := G.hu
  refine pe_mono (pe_ix ((ix_all (by omega)).or (ix_list)) ha hb hs) fun σ H Q ⟨ρ, μ, W, hF, hW, hA⟩ => ⟨ρ, μ, W, hF, hW, ?_⟩
  refine Ans.bind (rep1 := repV X c .b H) hA fun px W1 e x H1 μ1 s1 w1 r1 hA1 => ⟨ρ, μ1, W1, hF.step s1 hW, w1, hA1.bindD fun py W2 y H2 μ2 _ s2 w2 r2 hA2 => ?_⟩
  have r1' : repV X c .b H H2 μ2 px x := repV_step s2 w1 r1
  cases px with
  | d p =>
    obtain ⟨v, e, hA2⟩ := hA2.ofo
    obtain ⟨pz, e1, rfl⟩ := Option.map_eq_some_iff.mp e
    exact .inl ⟨p, py, pz, RepF.toB (fl := .b) (Hs := H) (μ := μ2) r1', RepF.toB r2, e1, fun z hz => hA2.here w2 hz⟩
  | o n =>
    simp only [ixV] at hA2
    cases e0 : nthO W2 n with
    | none => rw [e0] at hA2; exact hA2.elim
    | some o =>
      rw [e0] at hA2
      cases o with
      | ls xs =>
        cases py with
        | int i =>
          obtain ⟨v, e, hA2⟩ := Ans.ofo (show Ans X.K c.N c.Wx (repV X c .z H) H2 μ2 σ (R.of ((place i xs.length).bind (nthO xs)) W2) Q from hA2)
          obtain ⟨adr, g1, rfl⟩ := (show ∃ a, μ2[n]? = some a ∧ x = .ref a from r1')
          rw [nthO_get] at e0
          obtain ⟨vs, h1, h2, h3⟩ := w2.at_ n adr _ g1 e0
          obtain ⟨j, e1, e2⟩ := Option.bind_eq_some_iff.mp e
          rw [nthO_get] at e2
          obtain ⟨u, k1, k2⟩ := h2.get e2
          have hy : y = .int i := by
            have := RepF.toB r2
            exact this
          refine .inr ⟨adr, vs, i, u, rfl, hy, .inl (.inl h1), ?_, hA2.here w2 ?_⟩
          · unfold atI
            rw [← h2.length, ← place_ix, e1]
            exact k1
          · cases v with
            | d p => exact (show Rep X.K H2 p u from k2)
            | _ => exact RepV.pn0 (pn := c.pn) k2
        | _ => exact hA2.elim
      | _ => exact hA2.elim
  | x _ _ => exact (show False from hA2).elim
  | f _ _ => exact (show False from hA2).elim
/-! ### slices -/
def tO (X : L2.Cx) (c : Ec) (r : Env → Wd → R (Option Int)) : TO := fun σ H Q => ∃ ρ μ W, FR X.K c.N c.H0 H μ c.pn c.O σ ρ ∧ WR X.K c.N H μ W ∧ Ans X.K c.N c.Wx (fun _ _ a b => b = a) H μ σ (r ρ W) Q
def JO (X : L2.Cx) (c : Ec) (e : Option Expr) (r : Env → Wd → R (Option Int)) : Prop := PO X e (tO X c r)
theorem jo_none : JO X c none (fun _ W => .ok none W) :=
  ⟨fun pins s σ H Q I ⟨ρ, μ, W, hF, hW, hA⟩ => po_none.run pins s σ H Q I (hA.here hW rfl)⟩
theorem jo_some (ha : JE X c .z a ra) : JO X c (some a) (fun ρ W => partR (ra ρ W)) := by
  refine ⟨fun pins s σ H Q I ⟨ρ, μ, W, hF, hW, hA⟩ => (po_some ha).run pins s σ H Q I ⟨ρ, μ, W, hF, hW, ?_⟩⟩
  refine Ans.bindD (show Ans X.K c.N c.Wx _ H μ σ ((dat (ra ρ W)).bind fun x w => match x with | .int i => .ok (some i) w | _ => .st) Q from hA) fun p W1 x H1 μ1 _ s1 w1 r1 hA1 => ?_
  cases p with
  | int i => exact ⟨i, r1, hA1.here w1 rfl⟩
  | _ => exact (show False from hA1).elim
def slR (ra : Env → Wd → R Val) (ri rj : Env → Wd → R (Option Int)) : Env → Wd → R Val := fun ρ W => (dat (ra ρ W)).bind fun x w => (ri ρ w).bind fun i w => (rj ρ w).bind fun j w => R.of ((slice x i j).map .d) w
/-- the rule of a slice, its heap's world in sight -/
theorem pe_slW {lo hi : Option Expr} {te : TE} {tl th : TO} {p2 : Pos} (he : PE X a te) (hl : PO X lo tl) (hu : PO X hi th) :
    PE X (.Subscript a (.Slice lo hi none p2) pos) (fun σ H Q => te σ H fun x H1 => tl σ H1 fun l H2 => th σ H2 fun u H3 => ∃ px pz μ, RepB X.K H3 px x ∧ slice px l u = some pz ∧ (∀ a ∈ μ, H3 a ≠ none) ∧ New X.K H3 μ pz Q) :=
  pe_slice (r := fun x l u H Q => ∃ px pz μ, RepB X.K H px x ∧ slice px l u = some pz ∧ (∀ a ∈ μ, H a ≠ none) ∧ New X.K H μ pz Q)
    (fun pins s σ H x v vl vu l u sl Q I rx hs pl pu ⟨px, pz, μ, hx, e, hm, q⟩ => sl_all hm pins s σ x v vl vu l u sl Q px pz I rx hs pl pu hx e q) he hl hu
theorem je_sl {lo hi : Option Expr} {ri rj : Env → Wd → R (Option Int)} {p2 : Pos} (ha : JE X c .b a ra) (hi' : JO X c lo ri) (hj : JO X c hi rj) : JE X c .f (.Subscript a (.Slice lo hi none p2) pos) (slR ra ri rj) := by
  refine pe_mono (pe_slW ha hi' hj) fun σ H Q ⟨ρ, μ, W, hF, hW, hA⟩ => ⟨ρ, μ, W, hF, hW, ?_⟩
  refine Ans.bindD hA fun px W1 x H1 μ1 _ s1 w1 r1 hA1 => ⟨ρ, μ1, W1, hF.step s1 hW, w1, ?_⟩
  refine Ans.bind (rep1 := fun _ _ a b => b = a) hA1 fun l W2 _ l' H2 μ2 s2 w2 el hA2 => ⟨ρ, μ2, W2, (hF.step s1 hW).step s2 w1, w2, ?_⟩
  subst el
  refine Ans.bind (rep1 := fun _ _ a b => b = a) hA2 fun u W3 _ u' H3 μ3 s3 w3 eu hA3 => ?_
  subst eu
  obtain ⟨v, e, hA3⟩ := hA3.ofo
  obtain ⟨pz, e1, rfl⟩ := Option.map_eq_some_iff.mp e
  exact ⟨px, pz, μ3, RepF.toB (RepF.step (Ht := H) (s2.trans s3) r1), e1, w3.there, hA3.new w3 fun p h => s1.fresh (s2.fresh (s3.fresh h))⟩
/-! ### displays -/
theorem ja_nil : JA X c [] (fun _ W => .ok [] W) := pa_mono pa_nil fun σ H Q ⟨ρ, μ, W, hF, hW, hA⟩ => hA.here hW trivial
def consR (ra : Env → Wd → R Val) (r : Env → Wd → R (List Val)) : Env → Wd → R (List Val) := fun ρ W => (ra ρ W).bind fun v w => (r ρ w).bind fun vs w => .ok (v :: vs) w
theorem RepVL.cons {K : PySem.W.Frag} {N : Nm} {H : Hp} {μ : List Addr} {pn : List (Addr × Obj)} {x : Val} {v : V} {xs : List Val} {vs : List V} (h : RepV K N H μ pn x v) (g : RepVL K N H μ pn xs vs) : RepVL K N H μ pn (x :: xs) (v :: vs) := ⟨h, g⟩
theorem repV_z {Hs H : Hp} {μ : List Addr} {x : Val} {v : V} (h : repV X c .z Hs H μ x v) : RepV X.K c.N H μ c.pn x v := by cases x <;> exact h
theorem repV_zz {fl : Fl} {Hs H : Hp} {μ : List Addr} {x : Val} {v : V} (h : RepV X.K c.N H μ c.pn x v) : repV X c .z Hs H μ x v := by cases x <;> exact h
theorem ja_cons {es : List Expr} {r : Env → Wd → R (List Val)} (ha : JE X c .z a ra) (hr : JA X c es r) (hs : starEach (a :: es) X.env = (false, eval a X.env) :: starEach es X.env) : JA X c (a :: es) (consR ra r) := by
  refine pa_mono (pa_cons ha hr hs) fun σ H Q ⟨ρ, μ, W, hF, hW, hA⟩ => ⟨ρ, μ, W, hF, hW, ?_⟩
  refine Ans.bind (rep1 := repV X c .z H) hA fun x W1 _ v H1 μ1 s1 w1 r1 hA1 => ⟨ρ, μ1, W1, hF.step s1 hW, w1, ?_⟩
  refine Ans.bind (rep1 := fun H μ vs us => RepVL X.K c.N H μ c.pn vs us) hA1 fun xs W2 _ vs H2 μ2 s2 w2 r2 hA2 => ?_
  exact hA2.here w2 ⟨RepV.step s2 w1 (repV_z r1), r2⟩
theorem RepVL.data {K : PySem.W.Frag} {N : Nm} {H : Hp} {μ : List Addr} {pn : List (Addr × Obj)} : ∀ {xs : List Val} {vs : List V} {ps : List PV}, RepVL K N H μ pn xs vs → valsD xs = some ps → RepL K H ps vs
  | [], [], ps, _, e => by cases e; trivial
  | .d p :: xs, v :: vs, ps, h, e => by
    rw [valsD] at e
    obtain ⟨qs, e1, rfl⟩ := Option.map_eq_some_iff.mp e
    exact ⟨h.1, RepVL.data h.2 e1⟩
  | .o _ :: _, _ :: _, ps, h, e => by cases e
  | .x _ _ :: _, _ :: _, ps, h, e => by cases e
  | .f _ _ :: _, _ :: _, ps, h, e => by cases e
def tupR (r : Env → Wd → R (List Val)) : Env → Wd → R Val := fun ρ W => (r ρ W).bind fun vs w => R.of (valsD vs) w |>.bind fun ds w => if fits ds.length then .ok (.d (.tup ds)) w else .st
def lstR (r : Env → Wd → R (List Val)) : Env → Wd → R Val := fun ρ W => (r ρ W).bind fun vs w => R.of (valsD vs) w |>.bind fun ds w => if fits ds.length then .ok (.d (.lst ds)) w else .st
theorem je_tup {es : List Expr} {r : Env → Wd → R (List Val)} {k : Nat} (hr : JA X c es r) : JE X c .z (.Tuple es k pos) (tupR r) := by
  refine pe_mono (pe_tup hr) fun σ H Q ⟨ρ, μ, W, hF, hW, hA⟩ => ⟨ρ, μ, W, hF, hW, ?_⟩
  refine Ans.bind (rep1 := fun H μ vs us => RepVL X.K c.N H μ c.pn vs us) hA fun xs W1 _ vs H1 μ1 s1 w1 r1 hA1 => ?_
  cases e : valsD xs with
  | none => rw [e] at hA1; exact hA1.elim
  | some ds =>
    rw [e, R.of_some, R.bind_ok] at hA1
    split at hA1
    · rename_i hf
      have hf := fits_le hf
      have rl := r1.data e
      refine ⟨by rw [← rl.length]; exact hf, fun p hp => ?_⟩
      obtain ⟨st, _⟩ := Stp.new' (o := .tup vs) hp w1.there
      exact hA1 _ _ μ1 st (w1.new hp) (show Rep X.K _ (.tup ds) _ from ⟨p, vs, rfl, .inl (.inl upd_same), RepL.mono st.ext ds vs rl, hf⟩)
    · exact hA1.elim
theorem je_lst {es : List Expr} {r : Env → Wd → R (List Val)} (hr : JA X c es r) : JE X c .f (.List es pos) (lstR r) := by
  refine pe_mono (pe_lst hr) fun σ H Q ⟨ρ, μ, W, hF, hW, hA⟩ => ⟨ρ, μ, W, hF, hW, ?_⟩
  refine Ans.bind (rep1 := fun H μ vs us => RepVL X.K c.N H μ c.pn vs us) hA fun xs W1 _ vs H1 μ1 s1 w1 r1 hA1 => ?_
  cases e : valsD xs with
  | none => rw [e] at hA1; exact hA1.elim
  | some ds =>
    rw [e, R.of_some, R.bind_ok] at hA1
    split at hA1
    · rename_i hf
      have hf := fits_le hf
      have rl := r1.data e
      refine ⟨by rw [← rl.length]; exact hf, fun p hp => ?_⟩
      obtain ⟨st, _⟩ := Stp.new' (o := .lst vs) hp w1.there
      exact hA1 _ _ μ1 st (w1.new hp) (show RepF X.K H .f _ μ1 (.lst ds) _ from ⟨p, rfl, s1.fresh hp, fun z => w1.there p z hp, vs, upd_same, RepL.mono st.ext ds vs rl, hf⟩)
    · exact hA1.elim
end
end Rx
end
section
set_option Elab.async false
set_option linter.all false
set_option maxRecDepth 100000
set_option maxHeartbeats 1000000
/-! Rx D: dicts' data. -/
namespace Rx
open PySem PySem.Spec PyProof.Rows L2
section
variable {K : PySem.W.Frag} {H : Hp}
abbrev NdK (ks : List (Key × V)) : Prop := (ks.map (·.1)).Nodup
theorem putK_cons_pos {i j : Key} {u v : V} {r : List (Key × V)} (e : i = j) (hn : NdK ((i, u) :: r)) : putK ((i, u) :: r) j v = (i, v) :: r := by
  subst e
  unfold putK
  rw [if_pos (by simp), List.map_cons, if_pos rfl]
  congr 1
  have hn : i ∉ r.map (·.1) := (List.nodup_cons.mp (by simpa [NdK] using hn)).1
  have : ∀ l : List (Key × V), i ∉ l.map (·.1) → l.map (fun kv => if kv.1 = i then (kv.1, v) else kv) = l := by
    intro l
    induction l with
    | nil => intro _; rfl
    | cons p r ih =>
      intro h
      rw [List.map_cons, List.mem_cons, not_or] at h
      rw [List.map_cons, ih h.2, if_neg (fun e => h.1 e.symm)]
  exact this r hn
theorem putK_cons_neg {i j : Key} {u v : V} {r : List (Key × V)} (e : ¬ i = j) : putK ((i, u) :: r) j v = (i, u) :: putK r j v := by
  unfold putK
  rw [List.any_cons, decide_eq_false e, Bool.false_or]
  split
  · rw [List.map_cons, if_neg e]
  · rfl
theorem RepK.put : ∀ {kvs : List (PV × PV)} {ks : List (Key × V)} {k x : PV} {j : Key} {v : V}, RepK K H kvs ks → NdK ks → keyR k j → Rep K H x v → RepK K H (dput k x kvs) (putK ks j v)
  | [], [], k, x, j, v, _, _, hk, hx => by
    have : putK ([] : List (Key × V)) j v = [(j, v)] := rfl
    rw [this, dput]
    exact ⟨hk, hx, trivial⟩
  | (a, y) :: r, (i, u) :: t, k, x, j, v, h, hn, hk, hx => by
    obtain ⟨h1, h2, h3⟩ := h
    have e := key_eqv h1.1 hk.1
    by_cases hij : i = j
    · rw [decide_eq_true hij] at e
      rw [dput, if_pos e, putK_cons_pos hij hn]
      exact ⟨h1, hx, h3⟩
    · rw [decide_eq_false hij] at e
      rw [dput, if_neg (by rw [e]; decide), putK_cons_neg hij]
      exact ⟨h1, h2, RepK.put h3 (List.nodup_cons.mp (by simpa [NdK] using hn)).2 hk hx⟩
theorem putK_keys {j : Key} {v : V} : ∀ {ks : List (Key × V)} {i : Key}, i ∈ (putK ks j v).map (·.1) → i ∈ ks.map (·.1) ∨ i = j
  | ks, i, h => by
    unfold putK at h
    split at h
    · left
      rw [List.map_map] at h
      have : (List.map ((fun x : Key × V => x.1) ∘ fun kv => if kv.1 = j then (kv.1, v) else kv) ks) = ks.map (·.1) := by
        apply List.map_congr_left
        intro p _
        show (if p.1 = j then (p.1, v) else p).1 = p.1
        split <;> rfl
      rw [this] at h
      exact h
    · rw [List.map_append] at h
      rcases List.mem_append.mp h with h | h
      · exact .inl h
      · right; simpa using h
theorem putK_nd {ks : List (Key × V)} (hn : NdK ks) (j : Key) (v : V) : NdK (putK ks j v) := by
  unfold NdK putK
  split
  · rw [List.map_map]
    have : (List.map ((fun x : Key × V => x.1) ∘ fun kv => if kv.1 = j then (kv.1, v) else kv) ks) = ks.map (·.1) := by
      apply List.map_congr_left
      intro p _
      show (if p.1 = j then (p.1, v) else p).1 = p.1
      split <;> rfl
    rw [this]
    exact hn
  · rename_i h
    rw [List.map_append, List.nodup_append]
    refine ⟨hn, by simp, fun a ha b hb => ?_⟩
    simp at hb
    subst hb
    intro e
    subst e
    obtain ⟨p, hp, e⟩ := List.mem_map.mp ha
    exact h (List.any_eq_true.mpr ⟨p, hp, decide_eq_true e⟩)
theorem mergeK_nd : ∀ {ms ks : List (Key × V)}, NdK ks → NdK (mergeK ks ms)
  | [], _, h => h
  | (j, v) :: r, ks, h => by
    show NdK (mergeK (putK ks j v) r)
    exact mergeK_nd (putK_nd h j v)
theorem RepK.merge : ∀ {ms : List (PV × PV)} {ls : List (Key × V)} {kvs : List (PV × PV)} {ks : List (Key × V)}, RepK K H kvs ks → NdK ks → RepK K H ms ls → RepK K H (dmerge kvs ms) (mergeK ks ls)
  | [], [], _, _, h, _, _ => h
  | (k, x) :: ms, (j, v) :: ls, kvs, ks, h, hn, g => by
    obtain ⟨g1, g2, g3⟩ := g
    show RepK K H (dmerge (dput k x kvs) ms) (mergeK (putK ks j v) ls)
    exact RepK.merge (h.put hn g1 g2) (putK_nd hn j v) g3
theorem dropK_pos {i j : Key} {u : V} {r : List (Key × V)} (e : i = j) (hn : NdK ((i, u) :: r)) : dropK ((i, u) :: r) j = r := by
  subst e
  unfold dropK
  rw [List.filter_cons_of_neg (by simp)]
  have hn : i ∉ r.map (·.1) := (List.nodup_cons.mp (by simpa [NdK] using hn)).1
  apply List.filter_eq_self.mpr
  intro p hp
  rw [decide_eq_true_iff]
  exact fun e => hn (e ▸ List.mem_map_of_mem (f := (·.1)) hp)
theorem dropK_neg {i j : Key} {u : V} {r : List (Key × V)} (e : ¬ i = j) : dropK ((i, u) :: r) j = (i, u) :: dropK r j := by
  unfold dropK
  rw [List.filter_cons_of_pos (by simpa using e)]
theorem RepK.del : ∀ {kvs : List (PV × PV)} {ks : List (Key × V)} {k : PV} {j : Key}, RepK K H kvs ks → NdK ks → keyOf k = some j → RepK K H (ddel k kvs) (dropK ks j)
  | [], [], k, j, _, _, _ => trivial
  | (a, y) :: r, (i, u) :: t, k, j, h, hn, hk => by
    obtain ⟨h1, h2, h3⟩ := h
    have e := key_eqv h1.1 hk
    by_cases hij : i = j
    · rw [decide_eq_true hij] at e
      rw [ddel, if_pos e, dropK_pos hij hn]
      exact h3
    · rw [decide_eq_false hij] at e
      rw [ddel, if_neg (by rw [e]; decide), dropK_neg hij]
      exact ⟨h1, h2, RepK.del h3 (List.nodup_cons.mp (by simpa [NdK] using hn)).2 hk⟩
theorem RepK.keys : ∀ {kvs : List (PV × PV)} {ks : List (Key × V)}, RepK K H kvs ks → RepL K H (kvs.map (·.1)) (ks.map fun p => kV p.1)
  | [], [], _ => trivial
  | (a, y) :: r, (i, u) :: t, h => by
    obtain ⟨⟨h0, h1⟩, h2, h3⟩ := h
    refine ⟨?_, RepK.keys h3⟩
    cases a <;> cases h0
    · rfl
    · exact ⟨rfl, h1⟩
theorem length_dput (k x : PV) : ∀ kvs : List (PV × PV), (dput k x kvs).length ≤ kvs.length + 1
  | [] => Nat.le_refl _
  | (a, y) :: r => by
    rw [dput]
    split
    · simp
    · have := length_dput k x r
      simp
      omega
theorem length_ddel (k : PV) : ∀ kvs : List (PV × PV), (ddel k kvs).length ≤ kvs.length
  | [] => Nat.le_refl _
  | (a, y) :: r => by
    rw [ddel]
    split
    · simp
    · have := length_ddel k r
      simp
      omega
theorem length_dmerge : ∀ (ms kvs : List (PV × PV)), (dmerge kvs ms).length ≤ kvs.length + ms.length
  | [], kvs => Nat.le_refl _
  | (k, x) :: ms, kvs => by
    have h1 := length_dmerge ms (dput k x kvs)
    have h2 := length_dput k x kvs
    rw [dmerge, List.length_cons]
    omega
end
end Rx
end
section
set_option Elab.async false
set_option linter.all false
set_option maxRecDepth 100000
set_option maxHeartbeats 1000000
/-! Rx E3: builtins. -/
namespace Rx
open PySem PySem.Spec PyProof.Rows L2
/-- the builtin's name, its value -/
def biN : Bi → Option Str
  | .len => some "len" | .tuple => some "tuple" | .list => some "list" | .dict => some "dict" | .all => some "all" | .any => some "any" | .sum => some "sum" | .int => some "int"
  | _ => none
def biV : Bi → Value
  | .len => .builtin "len" | .tuple => .type "tuple" | .list => .type "list" | .dict => .type "dict" | .all => .builtin "all" | .any => .builtin "any" | .sum => .builtin "sum" | .int => .type "int"
  | _ => .none
def isN : Bi → Option (Str × String)
  | .isStr => some ("str", "str") | .isInt => some ("int", "int") | .isBool => some ("bool", "bool") | .isTuple => some ("tuple", "tuple") | .isList => some ("list", "list") | .isDict => some ("dict", "dict")
  | _ => none
section
variable {X : L2.Cx} {c : Ec} {a b d e : Expr} {ra rb rd : Env → Wd → R Val} {pos : Pos}
def biR (X : L2.Cx) (b : Bi) : List V → Hp → VK → Prop := fun xs H Q => ∃ px x pz μ, xs = [x] ∧ RepB X.K H px x ∧ builtin b px = some pz ∧ (∀ a ∈ μ, H a ≠ none) ∧ New X.K H μ pz Q
theorem boolsO_rep {K : PySem.W.Frag} {H : Hp} : ∀ {xs : List PV} {vs : List V} {bs : List Bool}, RepL K H xs vs → boolsO xs = some bs → vs = bs.map V.bl
  | [], [], bs, _, e => by cases e; rfl
  | .bl b :: xs, v :: vs, bs, h, e => by
    obtain ⟨cs, e1, rfl⟩ := Option.map_eq_some_iff.mp (show (boolsO xs).map (b :: ·) = some bs from e)
    obtain ⟨h1, h2⟩ := h
    cases (show v = .bl b from h1)
    rw [boolsO_rep h2 e1]
    rfl
  | .non :: _, _ :: _, _, _, e => by cases e
  | .int _ :: _, _ :: _, _, _, e => by cases e
  | .str _ :: _, _ :: _, _, _, e => by cases e
  | .tup _ :: _, _ :: _, _, _, e => by cases e
  | .lst _ :: _, _ :: _, _, _, e => by cases e
  | .dct _ :: _, _ :: _, _, _, e => by cases e
  | .set _ :: _, _ :: _, _, _, e => by cases e
theorem intsO_rep {K : PySem.W.Frag} {H : Hp} : ∀ {xs : List PV} {vs : List V} {bs : List Int}, RepL K H xs vs → intsO xs = some bs → vs = bs.map V.int
  | [], [], bs, _, e => by cases e; rfl
  | .int b :: xs, v :: vs, bs, h, e => by
    obtain ⟨cs, e1, rfl⟩ := Option.map_eq_some_iff.mp (show (intsO xs).map (b :: ·) = some bs from e)
    obtain ⟨h1, h2⟩ := h
    cases (show v = .int b from h1)
    rw [intsO_rep h2 e1]
    rfl
  | .non :: _, _ :: _, _, _, e => by cases e
  | .bl _ :: _, _ :: _, _, _, e => by cases e
  | .str _ :: _, _ :: _, _, _, e => by cases e
  | .tup _ :: _, _ :: _, _, _, e => by cases e
  | .lst _ :: _, _ :: _, _, _, e => by cases e
  | .dct _ :: _, _ :: _, _, _, e => by cases e
  | .set _ :: _, _ :: _, _, _, e => by cases e
theorem sumI_eq : ∀ is : List Int, sumI is = is.sum
  | [] => rfl
  | a :: r => by rw [sumI, sumI_eq r, List.sum_cons]
/-- pairs as dict() takes them -/
theorem pairsO_rep {K : PySem.W.Frag} {H : Hp} : ∀ {xs : List PV} {vs : List V} {ps : List (PV × PV)}, RepL K H xs vs → pairsO xs = some ps →
    ∃ (as : List Addr) (ks : List (Key × V)), vs = as.map V.ref ∧ Paired (fun p (kv : Key × V) => SqT K H p [kV kv.1, kv.2]) as ks ∧ RepK K H ps ks ∧ ps.length = xs.length
  | [], [], ps, _, e => by cases e; exact ⟨[], [], rfl, .nil, trivial, rfl⟩
  | .tup [k, x] :: xs, v :: vs, ps, h, e => by
    simp only [pairsO] at e
    split at e
    · rename_i hk
      obtain ⟨qs, e1, rfl⟩ := Option.map_eq_some_iff.mp e
      obtain ⟨⟨a, us, rfl, h1, h2, _⟩, h3⟩ := h
      obtain ⟨as, ks, rfl, g1, g2, g3⟩ := pairsO_rep h3 e1
      match us, h1, h2 with
      | [u, w], h1, ⟨k1, k2, _⟩ =>
        obtain ⟨j, j1, rfl⟩ := keyable_key k1.b hk
        exact ⟨a :: as, (j, w) :: ks, rfl, .cons h1 g1, ⟨j1, k2, g2⟩, by rw [List.length_cons, List.length_cons, g3]⟩
      | [], _, h2 => exact h2.elim
      | [_], _, h2 => exact h2.2.elim
      | _ :: _ :: _ :: _, _, h2 => exact h2.2.2.elim
    · cases e
  | .tup [] :: _, _ :: _, _, _, e => by cases e
  | .tup [_] :: _, _ :: _, _, _, e => by cases e
  | .tup (_ :: _ :: _ :: _) :: _, _ :: _, _, _, e => by cases e
  | .non :: _, _ :: _, _, _, e => by cases e
  | .bl _ :: _, _ :: _, _, _, e => by cases e
  | .int _ :: _, _ :: _, _, _, e => by cases e
  | .str _ :: _, _ :: _, _, _, e => by cases e
  | .lst _ :: _, _ :: _, _, _, e => by cases e
  | .dct _ :: _, _ :: _, _, _, e => by cases e
  | .set _ :: _, _ :: _, _, _, e => by cases e
theorem call_run {f : Value} {r : List V → Hp → VK → Prop} (h : CallR X f r) {pins : List (Addr × Obj)} {s : Shared} {σ : L2.St} {H : Hp} {xs : List V} {us : List Value} {Q : VK} (I : Inv X pins σ H s) (v : Vals xs us) (q : r xs H Q) :
    wpAny (model X.prog X.w) X.A (call f us) (EP X pins σ Q) X.xe s := h pins s σ H xs us Q I v q
theorem items_lst {p : PV} {xs : List PV} (e : items p = some xs) : (∃ ys, p = .tup ys ∧ xs = ys) ∨ (∃ ys, p = .lst ys ∧ xs = ys) ∨ (∃ z, p = .str z ∧ xs = z.map fun c => .str [c]) ∨ ∃ kvs, p = .dct kvs ∧ xs = kvs.map (·.1) := by
  cases p <;> cases e
  · exact .inr (.inr (.inl ⟨_, rfl, rfl⟩))
  · exact .inl ⟨_, rfl, rfl⟩
  · exact .inr (.inl ⟨_, rfl, rfl⟩)
  · exact .inr (.inr (.inr ⟨_, rfl, rfl⟩))
/-- what runs in an except suite, too -/
def coolB : Bi → Bool
  | .len => true
  | .tuple => true
  | .int => true
  | _ => false
theorem bi_run (G : Gd X c) {b : Bi} (hh : coolB b = true ∨ c.hot = false) (hb : (biN b).isSome = true) : CallR X (biV b) (biR X b) := by
  rintro pins s σ H xs us Q I r ⟨px, x, pz, μ, rfl, hx, e, hm, q⟩
  have hs : sizeLine = 16777216 := sizeLine_eq
  cases b with
  | len =>
    cases px with
    | str z =>
      obtain ⟨rfl, hz⟩ := (show x = .str (tx z) ∧ z.length ≤ sizeLine from hx)
      cases e
      exact call_run call_len I r ⟨_, z.length, rfl, ⟨by rw [tx_len]; exact hz, by rw [tx_len]⟩, q.flat rfl⟩
    | tup ys =>
      obtain ⟨a, vs, rfl, h1, h2, hz⟩ := (show ∃ a vs, x = .ref a ∧ SqT X.K H a vs ∧ RepL X.K H ys vs ∧ _ from hx)
      cases e
      exact call_run call_len I r ⟨_, ys.length, rfl, .inr ⟨vs, h1, h2.length⟩, q.flat rfl⟩
    | lst ys =>
      obtain ⟨a, vs, rfl, h1, h2, hz⟩ := (show ∃ a vs, x = .ref a ∧ Rd H a (.lst vs) ∧ RepL X.K H ys vs ∧ _ from hx)
      cases e
      exact call_run call_len I r ⟨_, ys.length, rfl, .inl ⟨vs, .inl h1, h2.length⟩, q.flat rfl⟩
    | dct ys =>
      obtain ⟨a, ks, rfl, h1, h2, hz⟩ := (show ∃ a ks, x = .ref a ∧ Rd H a (.dK ks) ∧ RepK X.K H ys ks ∧ _ from hx)
      cases e
      obtain ⟨u, rfl, rx⟩ := vals1 r
      cases (show u = Value.ref a from rx)
      rw [show (ys.length : Int) = (ks.length : Int) by rw [h2.length]] at q
      exact d_len I h1 fun t s' I' => ⟨.int ks.length, H, I', ⟨t, rfl⟩, q.flat rfl⟩
    | set _ => exact (show False from hx).elim
    | _ => cases e
  | tuple =>
    cases px with
    | tup ys =>
      obtain ⟨a, vs, rfl, h1, h2, hz⟩ := (show ∃ a vs, x = .ref a ∧ SqT X.K H a vs ∧ RepL X.K H ys vs ∧ ys.length ≤ sizeLine from hx)
      cases e
      exact call_run call_tuple_of I r ⟨a, vs, rfl, .inr ⟨h1, q.flat ⟨a, vs, rfl, h1, h2, hz⟩⟩⟩
    | lst ys =>
      obtain ⟨a, vs, rfl, h1, h2, hz⟩ := (show ∃ a vs, x = .ref a ∧ Rd H a (.lst vs) ∧ RepL X.K H ys vs ∧ ys.length ≤ sizeLine from hx)
      cases e
      exact call_run call_tuple_of I r ⟨a, vs, rfl, .inl ⟨.inl h1, q.tup h2 hz hm⟩⟩
    | _ => cases e
  | list =>
    cases px with
    | tup ys =>
      obtain ⟨a, vs, rfl, h1, h2, hz⟩ := (show ∃ a vs, x = .ref a ∧ SqT X.K H a vs ∧ RepL X.K H ys vs ∧ ys.length ≤ sizeLine from hx)
      cases e
      exact call_run call_list_of I r ⟨a, vs, rfl, .inr h1, q.list h2 hz hm⟩
    | lst ys =>
      obtain ⟨a, vs, rfl, h1, h2, hz⟩ := (show ∃ a vs, x = .ref a ∧ Rd H a (.lst vs) ∧ RepL X.K H ys vs ∧ ys.length ≤ sizeLine from hx)
      cases e
      exact call_run call_list_of I r ⟨a, vs, rfl, .inl (.inl h1), q.list h2 hz hm⟩
    | dct ys =>
      obtain ⟨a, ks, rfl, h1, h2, hz⟩ := (show ∃ a ks, x = .ref a ∧ Rd H a (.dK ks) ∧ RepK X.K H ys ks ∧ ys.length ≤ sizeLine from hx)
      cases e
      exact call_run (call_listD (G.calm (hh.resolve_left (by decide)))) I r ⟨a, ks, rfl, h1, q.list h2.keys (by rw [List.length_map]; exact hz) hm⟩
    | _ => cases e
  | dict =>
    cases px with
    | dct ys =>
      obtain ⟨a, ks, rfl, h1, h2, hz⟩ := (show ∃ a ks, x = .ref a ∧ Rd H a (.dK ks) ∧ RepK X.K H ys ks ∧ ys.length ≤ sizeLine from hx)
      cases e
      exact call_run call_dictD I r ⟨a, ks, rfl, h1, q.dict h2 hz hm⟩
    | lst ys =>
      obtain ⟨a, vs, rfl, h1, h2, hz⟩ := (show ∃ a vs, x = .ref a ∧ Rd H a (.lst vs) ∧ RepL X.K H ys vs ∧ ys.length ≤ sizeLine from hx)
      obtain ⟨ps, e1, rfl⟩ := Option.map_eq_some_iff.mp (show (pairsO ys).map (fun ps => PV.dct (dmerge [] ps)) = some pz from e)
      obtain ⟨as, ks, rfl, g1, g2, g3⟩ := pairsO_rep h2 e1
      refine call_run (call_dictP (G.calm (hh.resolve_left (by decide)))) I r ⟨a, as, ks, rfl, .inl h1, g1, q.dict (RepK.merge trivial List.nodup_nil g2) ?_ hm⟩
      have := length_dmerge ps []
      rw [List.length_nil] at this
      omega
    | _ => cases e
  | all =>
    cases px with
    | lst ys =>
      obtain ⟨a, vs, rfl, h1, h2, hz⟩ := (show ∃ a vs, x = .ref a ∧ Rd H a (.lst vs) ∧ RepL X.K H ys vs ∧ _ from hx)
      obtain ⟨bs, e1, rfl⟩ := Option.map_eq_some_iff.mp (show (boolsO ys).map (fun bs => PV.bl (bs.all id)) = some pz from e)
      rw [boolsO_rep h2 e1] at h1
      exact call_run (cr_all (G.calm (hh.resolve_left (by decide)))) I r ⟨a, bs, rfl, .inl h1, q.flat rfl⟩
    | _ => cases e
  | any =>
    cases px with
    | lst ys =>
      obtain ⟨a, vs, rfl, h1, h2, hz⟩ := (show ∃ a vs, x = .ref a ∧ Rd H a (.lst vs) ∧ RepL X.K H ys vs ∧ _ from hx)
      obtain ⟨bs, e1, rfl⟩ := Option.map_eq_some_iff.mp (show (boolsO ys).map (fun bs => PV.bl (bs.any id)) = some pz from e)
      rw [boolsO_rep h2 e1] at h1
      exact call_run (cr_any (G.calm (hh.resolve_left (by decide)))) I r ⟨a, bs, rfl, .inl h1, q.flat rfl⟩
    | _ => cases e
  | sum =>
    cases px with
    | lst ys =>
      obtain ⟨a, vs, rfl, h1, h2, hz⟩ := (show ∃ a vs, x = .ref a ∧ Rd H a (.lst vs) ∧ RepL X.K H ys vs ∧ _ from hx)
      obtain ⟨bs, e1, rfl⟩ := Option.map_eq_some_iff.mp (show (intsO ys).map (fun is => PV.int (sumI is)) = some pz from e)
      rw [intsO_rep h2 e1] at h1
      exact call_run (cr_sum (G.calm (hh.resolve_left (by decide)))) I r ⟨a, bs, rfl, .inl h1, q.flat (by rw [sumI_eq]; rfl)⟩
    | _ => cases e
  | int =>
    cases px with
    | int i =>
      cases (show x = .int i from hx)
      cases e
      exact call_run call_int1 I r (.inl ⟨i, rfl, q.flat rfl⟩)
    | bl i =>
      cases (show x = .bl i from hx)
      cases e
      exact call_run call_int1 I r (.inr ⟨i, rfl, q.flat rfl⟩)
    | _ => cases e
  | _ => cases hb

def ap1R (f : PV → Option PV) (ra : Env → Wd → R Val) : Env → Wd → R Val := fun ρ W => (dat (ra ρ W)).bind fun x w => R.of ((f x).map .d) w
/-- a function of one thing, by its rule -/
theorem je_ap1 {f : PV → Option PV} {e : Expr} {te : TE} (he : PE X a te) (hf : PE X e (fun σ H Q => te σ H fun x H1 => ∃ px pz μ, RepB X.K H1 px x ∧ f px = some pz ∧ (∀ a ∈ μ, H1 a ≠ none) ∧ New X.K H1 μ pz Q)) (ha : te = tE X c .b ra) : JE X c .f e (ap1R f ra) := by
  subst ha
  refine pe_mono hf fun σ H Q ⟨ρ, μ, W, hF, hW, hA⟩ => ⟨ρ, μ, W, hF, hW, hA.bindD fun px W1 x H1 μ1 _ s1 w1 r1 hA1 => ?_⟩
  obtain ⟨v, e, hA1⟩ := hA1.ofo
  obtain ⟨pz, e1, rfl⟩ := Option.map_eq_some_iff.mp e
  exact ⟨px, pz, μ1, RepF.toB r1, e1, w1.there, hA1.new w1 fun p h => s1.fresh h⟩
theorem je_bi (G : Gd X c) {b : Bi} (hh : coolB b = true ∨ c.hot = false) {n : Str} {p : Pos} (hb : biN b = some n) (hg : Gl X n) (hm : X.mg n = none) (ha : JE X c .b a ra) (hst : starEach [a] X.env = (false, eval a X.env) :: starEach [] X.env) :
    JE X c .f (.Call (.Name n p) [a] [] pos) (ap1R (builtin b) ra) := by
  refine je_ap1 (te := tE X c .b ra) ha ?_ rfl
  have hc := bi_run G hh (b := b) (by rw [hb]; rfl)
  have hT : PE X (.Call (.Name n p) [a] [] pos) (tCB (biR X b) (tCons (tE X c .b ra) tNil)) := by
    have hA : PA X [a] (tCons (tE X c .b ra) tNil) := pa_cons ha pa_nil hst
    have hz : ((backTo pos (starEach [] X.env)).any fun x => x.fst) = false := rfl
    cases b <;> cases hb
    · exact pe_callB hc hg hm (by decide +kernel) hA (by decide) (by decide) hst hz
    · exact pe_callTy hc hg hm (by decide +kernel) hA (by decide) (by decide) hst hz
    · exact pe_callTy hc hg hm (by decide +kernel) hA (by decide) (by decide) hst hz
    · exact pe_callTy hc hg hm (by decide +kernel) hA (by decide) (by decide) hst hz
    · exact pe_callB hc hg hm (by decide +kernel) hA (by decide) (by decide) hst hz
    · exact pe_callB hc hg hm (by decide +kernel) hA (by decide) (by decide) hst hz
    · exact pe_callB hc hg hm (by decide +kernel) hA (by decide) (by decide) hst hz
    · exact pe_callTy hc hg hm (by decide +kernel) hA (by decide) (by decide) hst hz
  refine pe_mono hT fun σ H Q ⟨ρ, μ, W, hF, hW, hA⟩ => ⟨ρ, μ, W, hF, hW, ?_⟩
  cases e : ra ρ W with
  | st => rw [e] at hA; exact hA
  | ex _ _ _ => rw [e] at hA; exact hA
  | ok v W1 =>
    rw [e] at hA
    intro b' H' μ' s w q
    obtain ⟨px, pz, μ2, h1, h2, h3, h4⟩ := hA b' H' μ' s w q
    exact ⟨px, b', pz, μ2, rfl, h1, h2, h3, h4⟩
/-! ### isinstance -/
def tyN : PV → String
  | .non => "NoneType" | .bl _ => "bool" | .int _ => "int" | .str _ => "str" | .tup _ => "tuple" | .lst _ => "list" | .dct _ => "dict" | .set _ => "set"
theorem tyx_of {H : Hp} {px : PV} {x : V} (h : RepB X.K H px x) : TyX X.K H x (.type (tyN px)) := by
  cases px with
  | non => cases (show x = .non from h); exact .base .non
  | bl b => cases (show x = .bl b from h); exact .base (.bl b)
  | int b => cases (show x = .int b from h); exact .base (.int b)
  | str z => obtain ⟨e, _⟩ := (show x = .str (tx z) ∧ _ from h); subst e; exact .base (.str _)
  | tup xs =>
    obtain ⟨a, vs, rfl, h1, _⟩ := (show ∃ a vs, x = .ref a ∧ SqT X.K H a vs ∧ _ from h)
    rcases h1 with (h1 | ⟨o, h1⟩) | ⟨o, its, n, h1, h2, _⟩
    · exact .base (.tup h1)
    · exact .fTuple h1
    · exact .kTuple h1 h2
  | lst xs =>
    obtain ⟨a, vs, rfl, h1, _⟩ := (show ∃ a vs, x = .ref a ∧ Rd H a (.lst vs) ∧ _ from h)
    rcases h1 with h1 | ⟨o, h1⟩
    · exact .base (.lst h1)
    · exact .base (.frz h1)
  | dct xs =>
    obtain ⟨a, vs, rfl, h1, _⟩ := (show ∃ a vs, x = .ref a ∧ Rd H a (.dK vs) ∧ _ from h)
    rcases h1 with h1 | ⟨o, h1⟩
    · exact .base (.dK h1)
    · exact .fDict h1
  | set _ => exact (show False from h).elim
def isB (T : String) (p : PV) : Bool := match T, p with
  | "str", .str _ => true | "int", .int _ => true | "int", .bl _ => true | "bool", .bl _ => true | "tuple", .tup _ => true | "list", .lst _ => true | "dict", .dct _ => true
  | _, _ => false
theorem kit_is {b : Bi} {n : Str} {T : String} (h : isN b = some (n, T)) {px : PV} {K : PySem.W.Frag} (hx : ∀ z, px ≠ .set z) : ∃ t, builtin b px = some (.bl t) ∧ PySem.W.kitOne K (.type (tyN px)) (.type T) = some t := by
  cases b <;> cases h <;> cases px <;> first
    | exact absurd rfl (hx _)
    | exact ⟨true, rfl, kit_ty (by simp only [tyN]; decide +kernel)⟩
    | exact ⟨false, rfl, kit_ty (by simp only [tyN]; decide +kernel)⟩
theorem je_is (G : Gd X c) {b : Bi} {n : Str} {T : String} {p p2 : Pos} (hb : isN b = some (n, T)) (hg : Gl X "isinstance") (hm : X.mg "isinstance" = none) (hg2 : Gl X n) (hm2 : X.mg n = none) (ha : JE X c .b a ra)
    (hst : starEach [a, .Name n p2] X.env = (false, eval a X.env) :: starEach [.Name n p2] X.env) :
    JE X c .z (.Call (.Name "isinstance" p) [a, .Name n p2] [] pos) (ap1R (builtin b) ra) := by
  have hT : PE X (.Name n p2) (tC (.ty T)) := by
    cases b <;> cases hb
    all_goals exact pe_bltn hg2 hm2 (by decide +kernel) rfl (by decide) (by decide)
  refine pe_mono (pe_callB (call_isi (X := X)) hg hm (by decide +kernel) (pa_cons ha (pa_cons hT pa_nil rfl) hst) (by decide) (by decide) hst rfl) fun σ H Q ⟨ρ, μ, W, hF, hW, hA⟩ => ⟨ρ, μ, W, hF, hW, hA.bindD fun px W1 x H1 μ1 _ s1 w1 r1 hA1 => ?_⟩
  have hb' := RepF.toB r1
  obtain ⟨t, e1, e2⟩ := kit_is (K := X.K) hb (px := px) (fun z e => by subst e; exact (show False from hb'))
  rw [e1] at hA1
  exact ⟨x, .ty T, _, _, t, rfl, .ty T, tyx_of hb', e2, hA1.here w1 rfl⟩
end
end Rx
end
section
set_option Elab.async false
set_option linter.all false
set_option maxRecDepth 100000
set_option maxHeartbeats 1000000
/-! Rx call: calls of defs. -/
namespace Rx
open PySem PySem.Spec PyProof.Rows L2
/-- what a def does, told by the evaluator: cf -/
def spR (K : PySem.W.Frag) (N : Nm) (cf : List Val → Wd → R Val) : Sp := fun vs H Q E => ∃ μ W pvs, WR K N H μ W ∧ RepVL K N H μ [] pvs vs ∧
  Ans K N (fun cls d _ H' => E cls d H') (fun H' μ' x v => RepV K N H' μ' [] x v) H μ [] (cf pvs W) Q
theorem noX_rep {K : PySem.W.Frag} {N : Nm} {H : Hp} {μ : List Addr} {pn : List (Addr × Obj)} : ∀ {xs : List Val} {vs : List V}, noX xs = true → RepVL K N H μ pn xs vs → RepVL K N H μ [] xs vs
  | [], [], _, h => h
  | .d p :: xs, v :: vs, e, h => ⟨h.1, noX_rep (xs := xs) e h.2⟩
  | .o p :: xs, v :: vs, e, h => ⟨h.1, noX_rep (xs := xs) e h.2⟩
  | .x _ _ :: _, _ :: _, e, _ => by cases e
  | .f _ _ :: _, _ :: _, e, _ => by cases e
section
variable {X : L2.Cx} {c : Ec} {pos : Pos}
theorem run_spR {CX : CXT} {k : Nat} {f : Addr} {sp : Sp} {E : XK} {Q : VK} {us : List Value} {vs : List V} {pins : List (Addr × Obj)} {σ : L2.St} {H : Hp} {s : Shared} (F : FnR X.prog X.w X.K X.mg X.base CX k f sp) (hr : Room k X.A) (hx : PassesAt CX X σ E) (I : Inv X pins σ H s) (r : Vals vs us) (h : sp vs H Q E) :
    wpAny (model X.prog X.w) X.A (call (.ref f) us) (EP X pins σ Q) X.xe s := by
  refine wpAny_call (codeAny_mono (F X.A X.stack s H us vs Q E hr I.env0 r h) fun r s' hq => ?_)
  cases r with
  | error e => exact hx pins H s e s' I hq
  | ok fl =>
    cases fl with
    | ret u => exact I.after hq
    | next => exact False.elim hq
    | brk => exact False.elim hq
    | cont => exact False.elim hq
/-- a def, called by its name -/
structure FnAt (X : L2.Cx) (c : Ec) (x : Str) (cf : List Val → Wd → R Val) : Prop where
  ex : ∃ a k, X.mg x = some (.ref a) ∧ PySem.W.keepIn X.K (.ref a) = true ∧ FnR X.prog X.w X.K X.mg X.base (L2.CX X.prog X.w) k a (spR X.K c.N cf) ∧ Room k X.A
def callR (cf : List Val → Wd → R Val) (r : Env → Wd → R (List Val)) : Env → Wd → R Val := fun ρ W => (r ρ W).bind fun vs w => if noX vs then cf vs w else .st
/-- what a call owes, from what its answer owes -/
theorem call_sp {cf : List Val → Wd → R Val} {r : Env → Wd → R (List Val)} {σ : L2.St} {H : Hp} {Q : VK} (h : tE X c .z (callR cf r) σ H Q) : tAs X c r σ H fun vs H1 => spR X.K c.N cf vs H1 Q (WE c.Wx σ) := by
  obtain ⟨ρ, μ, W, hF, hW, hA⟩ := h
  refine ⟨ρ, μ, W, hF, hW, Ans.bind (rep1 := fun H μ vs us => RepVL X.K c.N H μ c.pn vs us) hA fun xs W1 _ vs H1 μ1 s1 w1 r1 hA1 => ?_⟩
  split at hA1
  · rename_i hn
    refine ⟨μ1, W1, xs, w1, noX_rep hn r1, ?_⟩
    cases e : cf xs W1 with
    | st => rw [e] at hA1; exact hA1
    | ex k fs W2 => rw [e] at hA1; exact hA1
    | ok v W2 =>
      rw [e] at hA1
      intro b H' μ' s w q
      refine hA1 b H' μ' s w ?_
      cases v with
      | d p => exact q
      | o n => exact q
      | x a b => obtain ⟨_, _, _, _, _, h, _⟩ := q; simp at h
      | f a b => exact q
  · exact hA1.elim
def isStar : Expr → Bool
  | .Starred _ _ => true
  | _ => false
def anyStar : List Expr → Bool
  | [] => false
  | e :: r => isStar e || anyStar r
theorem starEach_no {e : Expr} {es : List Expr} {env : PySem.Env} (h : isStar e = false) : starEach (e :: es) env = (false, eval e env) :: starEach es env := by
  cases e <;> first | rfl | cases h
theorem starEach_any {env : PySem.Env} : ∀ es : List Expr, (backTo pos (starEach es env)).any (·.1) = anyStar es
  | [] => rfl
  | e :: es => by
    cases h : isStar e with
    | false =>
      rw [starEach_no h, anyStar, h, Bool.false_or, ← starEach_any es]
      rfl
    | true =>
      obtain ⟨a, p, rfl⟩ : ∃ a p, e = .Starred a p := by cases e <;> simp_all [isStar]
      rfl
theorem je_call (G : Gd X c) {x : Str} {cf : List Val → Wd → R Val} {r : Env → Wd → R (List Val)} {e : Expr} {es : List Expr} {p : Pos} (F : FnAt X c x cf) (hg : Gl X x) (hd : (x == ("__debug__" : Str)) = false) (ha : JA X c (e :: es) r) (hst : isStar e = false) :
    JE X c .z (.Call (.Name x p) (e :: es) [] pos) (callR cf r) := by
  obtain ⟨a, k, hm, hk, F, hr⟩ := F.ex
  refine ⟨fun pins s σ H Q I h => ?_⟩
  have h := call_sp h
  refine wpAny_Call_Name_kw (ld_glob I hg hm ?_ hd)
  cases hs : anyStar es with
  | false =>
    exact PySem.W.callWith_K (h₀ := X.base) I.ok.mod.kin hk (thn (ha.run pos pins s σ H _ I h) fun us s1 ⟨vs, H1, I1, r, q⟩ => ⟨I1.kIn, run_spR F hr (passAt G.tk σ) I1 r q⟩) (starEach_no hst) (by rw [starEach_any, hs])
  | true =>
    exact PySem.W.callWith_S2 (h₀ := X.base) I.ok.mod.kin hk (thn (ha.run pos pins s σ H _ I h) fun us s1 ⟨vs, H1, I1, r, q⟩ => ⟨I1.kIn, run_spR F hr (passAt G.tk σ) I1 r q⟩) (starEach_no hst) (by rw [starEach_any, hs])
theorem je_call0 (G : Gd X c) {x : Str} {cf : List Val → Wd → R Val} {p : Pos} (F : FnAt X c x cf) (hg : Gl X x) (hd : (x == ("__debug__" : Str)) = false) :
    JE X c .z (.Call (.Name x p) [] [] pos) (callR cf fun _ W => .ok [] W) := by
  obtain ⟨a, k, hm, hk, F, hr⟩ := F.ex
  refine ⟨fun pins s σ H Q I h => ?_⟩
  obtain ⟨ρ, μ, W, hF, hW, hA⟩ := call_sp h
  refine wpAny_Call_Name_kw (ld_glob I hg hm ?_ hd)
  exact PySem.W.callWith_K0 I.kIn hk (run_spR F hr (passAt G.tk σ) I .nil (hA.here hW trivial))
end
end Rx
end
section
set_option Elab.async false
set_option linter.all false
set_option maxRecDepth 100000
set_option maxHeartbeats 1000000
/-! Rx It: what a for walks. -/
namespace Rx
open PySem PySem.Spec PyProof.Rows L2
/-- the turns give the data xs, while what never changes stands -/
structure WalkR (K : PySem.W.Frag) (J : It) (xs : List PV) (H1 : Hp) : Prop where
  goes : ∀ i H, i < xs.length → Ext H1 H → J.go i H
  stops : ∀ H, Ext H1 H → J.stop xs.length H
  yields : ∀ i H v H', i < xs.length → Ext H1 H → J.yld i H v H' → ∃ x, xs[i]? = some x ∧ Rep K H' x v ∧ (H' = H ∨ ∃ T us, H T = none ∧ H' = upd H T (.tup us))
section
variable {X : L2.Cx} {c : Ec} {a b d e tg : Expr} {ra rb rd : Env → Wd → R Val} {pos : Pos}
def tI (X : L2.Cx) (c : Ec) (r : Env → Wd → R (List PV)) : TI := fun σ H R =>
  ∃ ρ μ W, FR X.K c.N c.H0 H μ c.pn c.O σ ρ ∧ WR X.K c.N H μ W ∧ Ans X.K c.N c.Wx (fun H1 μ1 xs J => WalkR X.K J xs H1) H μ σ (r ρ W) R
def JI (X : L2.Cx) (c : Ec) (tg e : Expr) (r : Env → Wd → R (List PV)) : Prop := PI X tg e (tI X c r)
def itemsR (ra : Env → Wd → R Val) : Env → Wd → R (List PV) := fun ρ W => (dat (ra ρ W)).bind fun v w => R.of (items v) w
theorem rep_get {K : PySem.W.Frag} {H H' : Hp} {xs : List PV} {vs : List V} {i : Nat} {v : V} (e : Ext H H') (h : RepL K H xs vs) (hi : vs[i]? = some v) : ∃ x, xs[i]? = some x ∧ Rep K H' x v := by
  have hl : i < xs.length := by rw [h.length]; exact (List.getElem?_eq_some_iff.mp hi).1
  obtain ⟨u, h1, h2⟩ := h.get (List.getElem?_eq_getElem hl)
  rw [hi] at h1
  cases h1
  exact ⟨xs[i], List.getElem?_eq_getElem hl, Rep.mono e _ _ h2⟩
theorem walk_lst {K : PySem.W.Frag} {H1 : Hp} {p : Addr} {vs : List V} {xs : List PV} (h : LstZ H1 p vs) (r : RepL K H1 xs vs) : WalkR K (Itl K p) xs H1 := by
  have w := walk_list (K := K) (a := p) (xs := vs)
  refine ⟨fun i H hi e => w.goes i H (by rw [← r.length]; exact hi) (.inl (e.lstz h).rd), fun H e => by rw [r.length]; exact w.stops H (.inl (e.lstz h).rd), fun i H v H' hi e y => ?_⟩
  obtain ⟨e1, e2⟩ := w.yields i H v H' (by rw [← r.length]; exact hi) (.inl (e.lstz h).rd) y
  subst e1
  obtain ⟨x, h1, h2⟩ := rep_get e r e2
  exact ⟨x, h1, h2, .inl rfl⟩
theorem walk_tupR {K : PySem.W.Frag} {H1 : Hp} {p : Addr} {vs : List V} {xs : List PV} (h : SqT K H1 p vs) (r : RepL K H1 xs vs) : WalkR K (Itt K p) xs H1 := by
  have w := walk_tup (K := K) (a := p) (xs := vs)
  refine ⟨fun i H hi e => w.goes i H (by rw [← r.length]; exact hi) (e.sqt h), fun H e => by rw [r.length]; exact w.stops H (e.sqt h), fun i H v H' hi e y => ?_⟩
  obtain ⟨e1, e2⟩ := w.yields i H v H' (by rw [← r.length]; exact hi) (e.sqt h) y
  subst e1
  obtain ⟨x, h1, h2⟩ := rep_get e r e2
  exact ⟨x, h1, h2, .inl rfl⟩
theorem walk_strR {K : PySem.W.Frag} {H1 : Hp} (z : List Nat) : WalkR K (Its (tx z)) (z.map fun c => .str [c]) H1 := by
  have w := walk_str (z := tx z)
  have hl : (z.map fun c => PV.str [c]).length = (tx z).cps.size := by simp
  refine ⟨fun i H hi e => w.goes i H (by rw [← hl]; exact hi) trivial, fun H e => by rw [hl]; exact w.stops H trivial, fun i H v H' hi e y => ?_⟩
  obtain ⟨e1, k, e2, e3⟩ := w.yields i H v H' (by rw [← hl]; exact hi) trivial y
  subst e1 e3
  refine ⟨.str [k], ?_, ⟨rfl, by show 1 ≤ sizeLine; rw [sizeLine_eq]; decide⟩, .inl rfl⟩
  rw [List.getElem?_map]
  have : z[i]? = some k := by simpa using e2
  rw [this]
  rfl
theorem walk_keysR {K : PySem.W.Frag} {H1 : Hp} {d : Addr} {o : Obj} {kvs : List (PV × PV)} {ks : List (Key × V)} (h : H1 d = some (.frz o (.dK ks))) (r : RepK K H1 kvs ks) : WalkR K (Itk d o ks) (kvs.map (·.1)) H1 := by
  have w := walk_keys (d := d) (o := o) (kvs := ks)
  have hl : (kvs.map (·.1)).length = ks.length := by rw [List.length_map, r.length]
  refine ⟨fun i H hi e => w.goes i H (by rw [← hl]; exact hi) (e.frz _ _ _ h), fun H e => by rw [hl]; exact w.stops H (e.frz _ _ _ h), fun i H v H' hi e y => ?_⟩
  obtain ⟨e1, k, u, e2, e3⟩ := w.yields i H v H' (by rw [← hl]; exact hi) (e.frz _ _ _ h) y
  subst e1 e3
  obtain ⟨x, h1, h2⟩ := rep_get (i := i) (v := kV k) e r.keys (by rw [List.getElem?_map, e2]; rfl)
  exact ⟨x, h1, h2, .inl rfl⟩
theorem ji_val (he : JE X c .z e ra) : JI X c tg e (itemsR ra) := by
  refine ⟨fun pins s σ H Rk I ⟨ρ, μ, W, hF, hW, hA⟩ => ?_⟩
  have hA : Ans X.K c.N c.Wx _ H μ σ ((dat (ra ρ W)).bind fun v w => R.of (items v) w) Rk := hA
  cases e0 : ra ρ W with
  | st => rw [e0] at hA; exact hA.elim
  | ex k fs W1 =>
    rw [e0] at hA
    refine thn (he.run pins s σ H (fun _ _ => False) I ⟨ρ, μ, W, hF, hW, by rw [e0]; exact hA⟩) fun v s1 ⟨x, H1, I1, r1, q1⟩ => q1.elim
  | ok v W1 =>
    rw [e0] at hA
    cases v with
    | d p =>
      have hA : Ans X.K c.N c.Wx (fun H1 μ1 xs J => WalkR X.K J xs H1) H μ σ (R.of (items p) W1) Rk := hA
      obtain ⟨xs, e1, hA⟩ := hA.ofo
      have run : ∀ G : V → Hp → Prop, (∀ v H1 μ1, Stp μ μ1 H H1 → WR X.K c.N H1 μ1 W1 → Rep X.K H1 p v → G v H1) → tE X c .z ra σ H G := fun G g => ⟨ρ, μ, W, hF, hW, by rw [e0]; exact fun b H' μ' s w q => g b H' μ' s w q⟩
      rcases items_lst e1 with ⟨ys, rfl, rfl⟩ | ⟨ys, rfl, rfl⟩ | ⟨z, rfl, rfl⟩ | ⟨kvs, rfl, rfl⟩
      · refine (pi_tup he).run pins s σ H Rk I (run _ fun v H1 μ1 s1 w1 q => ?_)
        obtain ⟨p, vs, rfl, h1, h2, _⟩ := (show ∃ a vs, v = .ref a ∧ SqT X.K H1 a vs ∧ RepL X.K H1 xs vs ∧ _ from q)
        exact ⟨p, rfl, ⟨vs, h1⟩, hA _ H1 μ1 s1 w1 (walk_tupR h1 h2)⟩
      · refine (pi_list he).run pins s σ H Rk I (run _ fun v H1 μ1 s1 w1 q => ?_)
        obtain ⟨p, vs, rfl, h1, h2, _⟩ := (show ∃ a vs, v = .ref a ∧ LstZ H1 a vs ∧ RepL X.K H1 xs vs ∧ _ from q)
        exact ⟨p, rfl, ⟨vs, .inl h1.rd⟩, hA _ H1 μ1 s1 w1 (walk_lst h1 h2)⟩
      · refine (pi_str he).run pins s σ H Rk I (run _ fun v H1 μ1 s1 w1 q => ?_)
        obtain ⟨e2, _⟩ := (show v = .str (tx z) ∧ _ from q)
        exact ⟨tx z, e2, hA _ H1 μ1 s1 w1 (walk_strR z)⟩
      · refine (pi_keys he).run pins s σ H Rk I (run _ fun v H1 μ1 s1 w1 q => ?_)
        obtain ⟨p, o, ks, rfl, h1, h2, _⟩ := (show ∃ a o ks, v = .ref a ∧ H1 a = some (.frz o (.dK ks)) ∧ RepK X.K H1 kvs ks ∧ _ from q)
        exact ⟨p, o, rfl, .inl ⟨ks, h1, hA _ H1 μ1 s1 w1 (walk_keysR h1 h2)⟩⟩
    | o n => exact (show False from hA).elim
    | x _ _ => exact (show False from hA).elim
    | f _ _ => exact (show False from hA).elim
/-! ### range -/
theorem rangeL_len : ∀ (n : Nat) (i : Int), (rangeL i n).length = n
  | 0, _ => rfl
  | n + 1, i => by rw [rangeL, List.length_cons, rangeL_len n]
theorem rangeL_get : ∀ (n : Nat) (i : Int) (k : Nat), k < n → (rangeL i n)[k]? = some (.int (i + k))
  | n + 1, i, 0, _ => by simp [rangeL]
  | n + 1, i, k + 1, h => by
    rw [rangeL, List.getElem?_cons_succ, rangeL_get n (i + 1) k (by omega)]
    congr 2
    push_cast
    omega
theorem walk_rngR {K : PySem.W.Frag} {H1 : Hp} (lo : Int) (n : Nat) : WalkR K (Itr lo n) (rangeL lo n) H1 := by
  have w := walk_range (lo := lo) (n := n)
  refine ⟨fun i H hi e => w.goes i H (by rw [rangeL_len] at hi; exact hi) trivial, fun H e => by rw [rangeL_len]; exact w.stops H trivial, fun i H v H' hi e y => ?_⟩
  rw [rangeL_len] at hi
  obtain ⟨e1, e2⟩ := w.yields i H v H' hi trivial y
  subst e1 e2
  exact ⟨_, rangeL_get n lo i hi, rfl, .inl rfl⟩
def rngR (ra rb : Env → Wd → R Val) : Env → Wd → R (List PV) := fun ρ W => (dat (ra ρ W)).bind fun x w => (dat (rb ρ w)).bind fun y w => match x, y with
  | .int i, .int j => if -1000000000 < i ∧ i < 1000000000 ∧ -1000000000 < j ∧ j < 1000000000 then .ok (rangeL i (j - i).toNat) w else .st
  | _, _ => .st
theorem ji_rng2 (hg : Gl X "range") (hm : X.mg "range" = none) {p : Pos} (ha : JE X c .z a ra) (hb : JE X c .z b rb) (h1 : isStar a = false) (h2 : isStar b = false) : JI X c tg (.Call (.Name "range" p) [a, b] [] pos) (rngR ra rb) := by
  have hpa : PA X [a, b] (tCons (tE X c .z ra) (tCons (tE X c .z rb) tNil)) := pa_cons ha (pa_cons hb pa_nil (starEach_no h2)) (starEach_no h1)
  have hp := pi_range2 (tg := tg) (p := p) (pos := pos) hg hm hpa (by rw [starEach_no h1, starEach_no h2]; rfl) (by rw [starEach_no h2]; rfl)
  refine ⟨fun pins s σ H Rk I ⟨ρ, μ, W, hF, hW, hA⟩ => hp.run pins s σ H Rk I ⟨ρ, μ, W, hF, hW, ?_⟩⟩
  refine Ans.bindD (show Ans _ _ _ _ H μ σ ((dat (ra ρ W)).bind _) Rk from hA) fun px W1 x H1 μ1 _ s1 w1 r1 hA1 => ⟨ρ, μ1, W1, hF.step s1 hW, w1, Ans.bindD hA1 fun py W2 y H2 μ2 _ s2 w2 r2 hA2 => ?_⟩
  cases px with
  | int i =>
    cases py with
    | int j =>
      cases (show x = .int i from r1)
      cases (show y = .int j from r2)
      simp only at hA2
      split at hA2
      · rename_i hc
        exact ⟨i, j, rfl, ⟨by omega, by omega, by omega, by omega⟩, hA2.here w2 (walk_rngR i _)⟩
      · exact hA2.elim
    | _ => exact (show False from hA2).elim
  | _ => cases py <;> exact (show False from hA2).elim
theorem ji_rng1 (hg : Gl X "range") (hm : X.mg "range" = none) {p : Pos} (ha : JE X c .z a ra) (h1 : isStar a = false) : JI X c tg (.Call (.Name "range" p) [a] [] pos) (rngR (fun _ W => .ok (.d (.int 0)) W) ra) := by
  have hpa : PA X [a] (tCons (tE X c .z ra) tNil) := pa_cons ha pa_nil (starEach_no h1)
  have hp := pi_range1 (tg := tg) (p := p) (pos := pos) hg hm hpa (by rw [starEach_no h1]; rfl)
  refine ⟨fun pins s σ H Rk I ⟨ρ, μ, W, hF, hW, hA⟩ => hp.run pins s σ H Rk I ⟨ρ, μ, W, hF, hW, ?_⟩⟩
  refine Ans.bindD (show Ans _ _ _ _ H μ σ ((dat (ra ρ W)).bind fun y w => match (PV.int 0), y with
    | .int i, .int j => if -1000000000 < i ∧ i < 1000000000 ∧ -1000000000 < j ∧ j < 1000000000 then .ok (rangeL i (j - i).toNat) w else .st
    | _, _ => .st) Rk from hA) fun py W2 y H2 μ2 _ s2 w2 r2 hA2 => ?_
  cases py with
  | int j =>
    cases (show y = .int j from r2)
    simp only at hA2
    split at hA2
    · rename_i hc
      refine ⟨j, rfl, by omega, by omega, ?_⟩
      rw [show (j - 0).toNat = j.toNat by simp] at hA2
      exact hA2.here w2 (walk_rngR 0 _)
    · exact hA2.elim
  | _ => exact (show False from hA2).elim

/-! ### items, values, enumerate, zip -/
def notSuper : Expr → Bool
  | .Call (.Name id _) [] [] _ => id != "super"
  | _ => true
theorem attrBase_of {o : Expr} {attr : Str} {env : PySem.Env} {w : Sem Value} (h : notSuper o = true) : attributeBase o attr env w = w := by
  unfold attributeBase
  split
  · rename_i id _ _
    have h : (id != "super") = true := h
    rw [h]
    rfl
  · rfl
def itmR (ra : Env → Wd → R Val) : Env → Wd → R (List PV) := fun ρ W => (dat (ra ρ W)).bind fun x w => match x with | .dct kvs => .ok (itemsL kvs) w | _ => .st
def vlsR (ra : Env → Wd → R Val) : Env → Wd → R (List PV) := fun ρ W => (dat (ra ρ W)).bind fun x w => match x with | .dct kvs => .ok (kvs.map (·.2)) w | _ => .st
def enmR (ra : Env → Wd → R Val) : Env → Wd → R (List PV) := fun ρ W => (dat (ra ρ W)).bind fun x w => match x with | .lst xs => .ok (enumL 0 xs) w | _ => .st
def zipR (ra rb : Env → Wd → R Val) : Env → Wd → R (List PV) := fun ρ W => (dat (ra ρ W)).bind fun x w => (dat (rb ρ w)).bind fun y w => match x, y with
  | .lst xs, .lst ys => .ok (zipL xs ys) w
  | .tup xs, .tup ys => .ok (zipL xs ys) w
  | _, _ => .st
theorem itemsL_len : ∀ kvs : List (PV × PV), (itemsL kvs).length = kvs.length
  | [] => rfl
  | (k, v) :: r => by rw [itemsL, List.length_cons, itemsL_len r, List.length_cons]
theorem itemsL_get : ∀ (kvs : List (PV × PV)) (i : Nat), (itemsL kvs)[i]? = kvs[i]?.map fun p => .tup [p.1, p.2]
  | [], i => by simp [itemsL]
  | (k, v) :: r, 0 => by simp [itemsL]
  | (k, v) :: r, i + 1 => by rw [itemsL, List.getElem?_cons_succ, itemsL_get r i, List.getElem?_cons_succ]
theorem RepK.get' {K : PySem.W.Frag} {H : Hp} : ∀ {kvs : List (PV × PV)} {ks : List (Key × V)} {i : Nat} {j : Key} {v : V}, RepK K H kvs ks → ks[i]? = some (j, v) → ∃ k x, kvs[i]? = some (k, x) ∧ Rep K H k (kV j) ∧ Rep K H x v
  | (k, x) :: r, (j', v') :: t, 0, j, v, h, e => by
    rw [List.getElem?_cons_zero] at e
    cases e
    obtain ⟨⟨h0, h1⟩, h2, _⟩ := h
    refine ⟨k, x, rfl, ?_, h2⟩
    cases k <;> cases h0
    · rfl
    · exact ⟨rfl, h1⟩
  | (k, x) :: r, (j', v') :: t, i + 1, j, v, h, e => by
    rw [List.getElem?_cons_succ] at e ⊢
    exact RepK.get' h.2.2 e
  | [], [], i, j, v, _, e => by simp at e
theorem pair_rep {K : PySem.W.Frag} {H : Hp} {T : Addr} {x y : PV} {u v : V} (hT : H T = none) (h1 : Rep K H x u) (h2 : Rep K H y v) : Rep K (upd H T (.tup [u, v])) (.tup [x, y]) (.ref T) := by
  have e := (Stp.new (μ := []) (o := .tup [u, v]) hT).ext
  exact ⟨T, _, rfl, .inl (.inl upd_same), ⟨Rep.mono e _ _ h1, Rep.mono e _ _ h2, trivial⟩, by show 2 ≤ sizeLine; rw [sizeLine_eq]; decide⟩
theorem walk_itemsR {K : PySem.W.Frag} {H1 : Hp} {d : Addr} {o : Obj} {kvs : List (PV × PV)} {ks : List (Key × V)} (h : H1 d = some (.frz o (.dK ks))) (r : RepK K H1 kvs ks) : WalkR K (Iti d o ks) (itemsL kvs) H1 := by
  have w := walk_items (d := d) (o := o) (kvs := ks)
  have hl : (itemsL kvs).length = ks.length := by rw [itemsL_len, r.length]
  refine ⟨fun i H hi e => w.goes i H (by rw [← hl]; exact hi) (e.frz _ _ _ h), fun H e => by rw [hl]; exact w.stops H (e.frz _ _ _ h), fun i H v H' hi e y => ?_⟩
  obtain ⟨T, k, u, rfl, e2, e3, e4, e5⟩ := w.yields i H v H' (by rw [← hl]; exact hi) (e.frz _ _ _ h) y
  obtain ⟨⟨j, v⟩, g1, g2⟩ := Option.map_eq_some_iff.mp e4
  have e5 : (ks[i]?).map Prod.snd = some u := e5
  rw [g1] at e5
  cases g2
  cases e5
  obtain ⟨p, x, k1, k2, k3⟩ := (RepK.mono e _ _ r).get' g1
  subst e3
  exact ⟨.tup [p, x], by rw [itemsL_get, k1]; rfl, pair_rep e2 k2 k3, .inr ⟨T, _, e2, rfl⟩⟩
theorem walk_vlsR {K : PySem.W.Frag} {H1 : Hp} {d : Addr} {o : Obj} {kvs : List (PV × PV)} {ks : List (Key × V)} (h : H1 d = some (.frz o (.dK ks))) (r : RepK K H1 kvs ks) : WalkR K (Itd d o ks) (kvs.map (·.2)) H1 := by
  have w := walk_values (d := d) (o := o) (kvs := ks)
  have hl : (kvs.map (·.2)).length = ks.length := by rw [List.length_map, r.length]
  refine ⟨fun i H hi e => w.goes i H (by rw [← hl]; exact hi) (e.frz _ _ _ h), fun H e => by rw [hl]; exact w.stops H (e.frz _ _ _ h), fun i H v H' hi e y => ?_⟩
  obtain ⟨e1, k, e2⟩ := w.yields i H v H' (by rw [← hl]; exact hi) (e.frz _ _ _ h) y
  subst e1
  obtain ⟨p, x, k1, k2, k3⟩ := (RepK.mono e _ _ r).get' e2
  exact ⟨x, by rw [List.getElem?_map, k1]; rfl, k3, .inl rfl⟩
/-- a dict that is walked -/
theorem dct_walk {W : Wd} {σ : L2.St} {H : Hp} {ρ : Env} {μ : List Addr} {Rk : It → Hp → Prop} {f : List (PV × PV) → List PV} (hF : FR X.K c.N c.H0 H μ c.pn c.O σ ρ) (hW : WR X.K c.N H μ W)
    (hA : Ans X.K c.N c.Wx (fun H1 μ1 xs J => WalkR X.K J xs H1) H μ σ ((dat (ra ρ W)).bind fun x w => match x with | .dct kvs => .ok (f kvs) w | _ => .st) Rk) :
    tE X c .z ra σ H fun x H1 => ∃ d o kvs ks, x = .ref d ∧ H1 d = some (.frz o (.dK ks)) ∧ RepK X.K H1 kvs ks ∧ ∀ J, WalkR X.K J (f kvs) H1 → Rk J H1 := by
  refine ⟨ρ, μ, W, hF, hW, hA.bindD fun p W1 x H1 μ1 _ s1 w1 r1 hA1 => ?_⟩
  cases p with
  | dct kvs =>
    obtain ⟨d, o, ks, rfl, h1, h2, _⟩ := (show ∃ a o ks, x = .ref a ∧ H1 a = some (.frz o (.dK ks)) ∧ RepK X.K H1 kvs ks ∧ _ from r1)
    exact ⟨d, o, kvs, ks, rfl, h1, h2, fun J w => hA1 J H1 μ1 (Stp.refl _ _) w1 w⟩
  | _ => exact (show False from hA1).elim
theorem ji_items {elts : List Expr} {kk : Nat} {tpos apos cpos : Pos} (ha : JE X c .z a ra) (hs : notSuper a = true) (hl : (apos.endLine == cpos.line) = true) : JI X c (.Tuple elts kk tpos) (.Call (.Attribute a "items" apos) [] [] cpos) (itmR ra) := by
  have hp := pi_items (elts := elts) (kk := kk) (tpos := tpos) (apos := apos) (cpos := cpos) (show PE X a _ from ha) (attrBase_of hs) hl
  refine ⟨fun pins s σ H Rk I ⟨ρ, μ, W, hF, hW, hA⟩ => ?_⟩
  have ha' := ha
  refine (pi_items (elts := elts) (kk := kk) (tpos := tpos) (apos := apos) (cpos := cpos) (pe_mono (t' := fun σ H Q => tE X c .z ra σ H Q) ha fun _ _ _ h => h) (attrBase_of hs) hl).run pins s σ H Rk I ?_
  obtain ⟨ρ', μ', W', hF', hW', hA'⟩ := dct_walk hF hW hA
  refine ⟨ρ', μ', W', hF', hW', ?_⟩
  cases e : ra ρ' W' with
  | st => rw [e] at hA'; exact hA'
  | ex _ _ _ => rw [e] at hA'; exact hA'
  | ok v W1 =>
    rw [e] at hA'
    intro b H' μ' s w q
    obtain ⟨d, o, kvs, ks, h1, h2, h3, h4⟩ := hA' b H' μ' s w q
    exact ⟨d, o, ks, h1, h2, h4 _ (walk_itemsR h2 h3)⟩
theorem ji_values {apos cpos : Pos} (ha : JE X c .z a ra) (hs : notSuper a = true) (hl : (apos.endLine == cpos.line) = true) : JI X c tg (.Call (.Attribute a "values" apos) [] [] cpos) (vlsR ra) := by
  refine ⟨fun pins s σ H Rk I ⟨ρ, μ, W, hF, hW, hA⟩ => ?_⟩
  refine (pi_values (tg := tg) (apos := apos) (cpos := cpos) (show PE X a (tE X c .z ra) from ha) (attrBase_of hs) hl).run pins s σ H Rk I ?_
  obtain ⟨ρ', μ', W', hF', hW', hA'⟩ := dct_walk hF hW hA
  refine ⟨ρ', μ', W', hF', hW', ?_⟩
  cases e : ra ρ' W' with
  | st => rw [e] at hA'; exact hA'
  | ex _ _ _ => rw [e] at hA'; exact hA'
  | ok v W1 =>
    rw [e] at hA'
    intro b H' μ' s w q
    obtain ⟨d, o, kvs, ks, h1, h2, h3, h4⟩ := hA' b H' μ' s w q
    exact ⟨d, o, ks, h1, h2, h4 _ (walk_vlsR h2 h3)⟩
theorem enumL_len : ∀ (xs : List PV) (n : Nat), (enumL n xs).length = xs.length
  | [], _ => rfl
  | x :: xs, n => by rw [enumL, List.length_cons, enumL_len xs, List.length_cons]
theorem enumL_get : ∀ (xs : List PV) (n i : Nat), (enumL n xs)[i]? = xs[i]?.map fun x => .tup [.int (n + i : Nat), x]
  | [], n, i => by simp [enumL]
  | x :: xs, n, 0 => by simp [enumL]
  | x :: xs, n, i + 1 => by rw [enumL, List.getElem?_cons_succ, enumL_get xs (n + 1) i, List.getElem?_cons_succ, show n + 1 + i = n + (i + 1) by omega]
theorem walk_enmR {K : PySem.W.Frag} {H1 : Hp} {p : Addr} {vs : List V} {xs : List PV} (h : LstZ H1 p vs) (r : RepL K H1 xs vs) : WalkR K (Ite K p) (enumL 0 xs) H1 := by
  have w := walk_enum (K := K) (a := p) (xs := vs)
  have hl : (enumL 0 xs).length = vs.length := by rw [enumL_len, r.length]
  refine ⟨fun i H hi e => w.goes i H (by rw [← hl]; exact hi) (.inl (e.lstz h).rd), fun H e => by rw [hl]; exact w.stops H (.inl (e.lstz h).rd), fun i H v H' hi e y => ?_⟩
  obtain ⟨T, k, u, rfl, e2, e3, e4, e5⟩ := w.yields i H v H' (by rw [← hl]; exact hi) (.inl (e.lstz h).rd) y
  cases e4
  obtain ⟨x, h1, h2⟩ := rep_get e r e5
  subst e3
  refine ⟨.tup [.int i, x], by rw [enumL_get, h1, Nat.zero_add]; rfl, pair_rep e2 rfl h2, .inr ⟨T, _, e2, rfl⟩⟩
theorem ji_enum {elts : List Expr} {kk : Nat} {tpos p : Pos} (hg : Gl X "enumerate") (hm : X.mg "enumerate" = none) (ha : JE X c .z a ra) (h1 : isStar a = false) : JI X c (.Tuple elts kk tpos) (.Call (.Name "enumerate" p) [a] [] pos) (enmR ra) := by
  have hp := pi_enum (elts := elts) (kk := kk) (tpos := tpos) (p := p) (pos := pos) hg hm (pa_cons (show PE X a (tE X c .z ra) from ha) pa_nil (starEach_no h1)) (by rw [starEach_no h1]; rfl)
  refine ⟨fun pins s σ H Rk I ⟨ρ, μ, W, hF, hW, hA⟩ => hp.run pins s σ H Rk I ⟨ρ, μ, W, hF, hW, ?_⟩⟩
  refine Ans.bindD (show Ans _ _ _ _ H μ σ ((dat (ra ρ W)).bind _) Rk from hA) fun px W1 x H1 μ1 _ s1 w1 r1 hA1 => ?_
  cases px with
  | lst xs =>
    obtain ⟨q, vs, rfl, g1, g2, _⟩ := (show ∃ a vs, x = .ref a ∧ LstZ H1 a vs ∧ RepL X.K H1 xs vs ∧ _ from r1)
    exact ⟨q, vs, rfl, .inl g1.rd, hA1.here w1 (walk_enmR g1 g2)⟩
  | _ => exact (show False from hA1).elim
theorem zipL_len : ∀ xs ys : List PV, (zipL xs ys).length = min xs.length ys.length
  | [], _ => by simp [zipL]
  | _ :: _, [] => by simp [zipL]
  | x :: xs, y :: ys => by rw [zipL, List.length_cons, zipL_len xs ys, List.length_cons, List.length_cons]; omega
theorem zipL_get : ∀ (xs ys : List PV) (i : Nat) (x y : PV), xs[i]? = some x → ys[i]? = some y → (zipL xs ys)[i]? = some (.tup [x, y])
  | x :: xs, y :: ys, 0, _, _, h, g => by cases h; cases g; rfl
  | x :: xs, y :: ys, i + 1, _, _, h, g => by
    rw [List.getElem?_cons_succ] at h g
    rw [zipL, List.getElem?_cons_succ]
    exact zipL_get xs ys i _ _ h g
  | [], _, i, _, _, h, _ => by simp at h
  | _ :: _, [], i, _, _, _, g => by simp at g
theorem walk_zipR {K : PySem.W.Frag} {H1 : Hp} {p q : Addr} {vs us : List V} {xs ys : List PV} (h : LstZ H1 p vs) (g : LstZ H1 q us) (r : RepL K H1 xs vs) (t : RepL K H1 ys us) : WalkR K (Itz K p q) (zipL xs ys) H1 := by
  have hl : (zipL xs ys).length = min vs.length us.length := by rw [zipL_len, r.length, t.length]
  have w := walk_zip (K := K) (a := p) (b := q) (xs := vs) (ys := us) rfl
  have st : ∀ {H}, Ext H1 H → SqL K H p vs ∧ SqL K H q us := fun e => ⟨.inl (e.lstz h).rd, .inl (e.lstz g).rd⟩
  refine ⟨fun i H hi e => w.goes i H (by rw [← hl]; exact hi) (st e), fun H e => by rw [hl]; exact w.stops H (st e), fun i H v H' hi e y => ?_⟩
  obtain ⟨T, k, u, rfl, e2, e3, e4, e5⟩ := w.yields i H v H' (by rw [← hl]; exact hi) (st e) y
  obtain ⟨x, h1, h2⟩ := rep_get e r e4
  obtain ⟨z, h3, h4⟩ := rep_get e t e5
  subst e3
  exact ⟨.tup [x, z], zipL_get _ _ _ _ _ h1 h3, pair_rep e2 h2 h4, .inr ⟨T, _, e2, rfl⟩⟩
theorem walk_zipT {K : PySem.W.Frag} {a b : Addr} {xs ys : List V} {n : Nat} (hn : n = min xs.length ys.length) : Walk (RZ.ItzT K a b) n (fun H => SqT K H a xs ∧ SqT K H b ys) (YPair (fun i => xs[i]?) (fun i => ys[i]?)) := by
  subst hn
  refine ⟨fun i _ hi q => ?_, fun _ q => ⟨xs, ys, q.1, q.2, by omega⟩, fun i H v H' _ q y => ?_⟩
  · exact ⟨xs, ys, xs[i]'(by omega), ys[i]'(by omega), q.1, q.2, by simp [show i < xs.length by omega], by simp [show i < ys.length by omega]⟩
  · obtain ⟨T, x, z, h1, h2, h3, h4, h5⟩ := y
    exact ⟨T, x, z, h1, h2, h3, h4 xs q.1, h5 ys q.2⟩
theorem walk_zipTR {K : PySem.W.Frag} {H1 : Hp} {p q : Addr} {vs us : List V} {xs ys : List PV} (h : SqT K H1 p vs) (g : SqT K H1 q us) (r : RepL K H1 xs vs) (t : RepL K H1 ys us) : WalkR K (RZ.ItzT K p q) (zipL xs ys) H1 := by
  have hl : (zipL xs ys).length = min vs.length us.length := by rw [zipL_len, r.length, t.length]
  have w := walk_zipT (K := K) (a := p) (b := q) (xs := vs) (ys := us) rfl
  have st : ∀ {H}, Ext H1 H → SqT K H p vs ∧ SqT K H q us := fun e => ⟨e.sqt h, e.sqt g⟩
  refine ⟨fun i H hi e => w.goes i H (by rw [← hl]; exact hi) (st e), fun H e => by rw [hl]; exact w.stops H (st e), fun i H v H' hi e y => ?_⟩
  obtain ⟨T, k, u, rfl, e2, e3, e4, e5⟩ := w.yields i H v H' (by rw [← hl]; exact hi) (st e) y
  obtain ⟨x, h1, h2⟩ := rep_get e r e4
  obtain ⟨z, h3, h4⟩ := rep_get e t e5
  subst e3
  exact ⟨.tup [x, z], zipL_get _ _ _ _ _ h1 h3, pair_rep e2 h2 h4, .inr ⟨T, _, e2, rfl⟩⟩
theorem ji_zip {elts : List Expr} {kk : Nat} {tpos p : Pos} (hg : Gl X "zip") (hm : X.mg "zip" = none) (ha : JE X c .z a ra) (hb : JE X c .z b rb) (h1 : isStar a = false) (h2 : isStar b = false) :
    JI X c (.Tuple elts kk tpos) (.Call (.Name "zip" p) [a, b] [] pos) (zipR ra rb) := by
  have hpa : PA X [a, b] (tCons (tE X c .z ra) (tCons (tE X c .z rb) tNil)) := pa_cons ha (pa_cons hb pa_nil (starEach_no h2)) (starEach_no h1)
  have hp := RZ.pi_zipA (elts := elts) (kk := kk) (tpos := tpos) (p := p) (pos := pos) hg hm hpa (by rw [starEach_no h1]) (by rw [starEach_any]; simp [anyStar, h2])
  refine ⟨fun pins s σ H Rk I ⟨ρ, μ, W, hF, hW, hA⟩ => hp.run pins s σ H Rk I ⟨ρ, μ, W, hF, hW, ?_⟩⟩
  refine Ans.bindD (show Ans _ _ _ _ H μ σ ((dat (ra ρ W)).bind _) Rk from hA) fun px W1 x H1 μ1 _ s1 w1 r1 hA1 => ⟨ρ, μ1, W1, hF.step s1 hW, w1, Ans.bindD hA1 fun py W2 y H2 μ2 _ s2 w2 r2 hA2 => ?_⟩
  cases px with
  | lst xs =>
    cases py with
    | lst ys =>
      obtain ⟨p, vs, rfl, g1, g2, _⟩ := (show ∃ a vs, x = .ref a ∧ LstZ H1 a vs ∧ RepL X.K H1 xs vs ∧ _ from r1)
      obtain ⟨q, us, rfl, k1, k2, _⟩ := (show ∃ a vs, y = .ref a ∧ LstZ H2 a vs ∧ RepL X.K H2 ys vs ∧ _ from r2)
      exact ⟨p, q, vs, us, rfl, .inl ⟨.inl (s2.ext.lstz g1).rd, .inl k1.rd, hA2.here w2 (walk_zipR (s2.ext.lstz g1) k1 (RepL.mono s2.ext _ _ g2) k2)⟩⟩
    | _ => exact (show False from hA2).elim
  | tup xs =>
    cases py with
    | tup ys =>
      obtain ⟨p, vs, rfl, g1, g2, _⟩ := (show ∃ a vs, x = .ref a ∧ SqT X.K H1 a vs ∧ RepL X.K H1 xs vs ∧ _ from r1)
      obtain ⟨q, us, rfl, k1, k2, _⟩ := (show ∃ a vs, y = .ref a ∧ SqT X.K H2 a vs ∧ RepL X.K H2 ys vs ∧ _ from r2)
      exact ⟨p, q, vs, us, rfl, .inr ⟨s2.ext.sqt g1, k1, hA2.here w2 (walk_zipTR (s2.ext.sqt g1) k1 (RepL.mono s2.ext _ _ g2) k2)⟩⟩
    | _ => exact (show False from hA2).elim
  | _ => cases py <;> exact (show False from hA2).elim
end
end Rx
end
section
set_option Elab.async false
set_option linter.all false
set_option maxRecDepth 100000
set_option maxHeartbeats 1000000
/-! Rx G: targets. -/
namespace Rx
open PySem PySem.Spec PyProof.Rows L2
theorem setv_len : ∀ (ρ : Env) (i : Nat) (v : Option Val), (setv ρ i v).length = ρ.length
  | [], i, v => by rw [setv]
  | a :: r, 0, v => by rw [setv]; rfl
  | a :: r, i + 1, v => by rw [setv, List.length_cons, List.length_cons, setv_len r i v]
theorem getv_setv_ne : ∀ (ρ : Env) (i j : Nat) (v : Option Val), i ≠ j → getv (setv ρ i v) j = getv ρ j
  | [], i, j, v, _ => by rw [setv]
  | a :: r, 0, 0, v, h => absurd rfl h
  | a :: r, 0, j + 1, v, _ => by rw [setv, getv, getv]
  | a :: r, i + 1, 0, v, _ => by rw [setv, getv, getv]
  | a :: r, i + 1, j + 1, v, h => by
    rw [setv, getv, getv]
    exact getv_setv_ne r i j v (fun e => h (congrArg (· + 1) e))
theorem getv_setv_self : ∀ (ρ : Env) (i : Nat) (v : Option Val) (x : Val), getv (setv ρ i v) i = some x → v = some x
  | [], i, v, x, h => by rw [setv, getv] at h; cases h
  | a :: r, 0, v, x, h => by rw [setv, getv] at h; exact h
  | a :: r, i + 1, v, x, h => by rw [setv, getv] at h; exact getv_setv_self r i v x h
section
variable {K : PySem.W.Frag} {N : Nm} {H0 H : Hp} {μ : List Addr} {pn : List (Addr × Obj)} {O : Nat → Bool} {σ : L2.St} {ρ ρ' : Env}
/-- a value to a slot that is nobody's own -/
theorem FR.set (f : FR K N H0 H μ pn O σ ρ) {i : Nat} {x : Val} {v : V} (hi : i < σ.length) (ho : O i = false) (r : RepV K N H μ pn x v) : FR K N H0 H μ pn O (σ.set i (some v)) (setv ρ i (some x)) := by
  refine ⟨fun j y h h2 => ?_, fun j y h h2 => ?_, fun j k a h1 h2 h3 h4 h5 h6 => ?_, by rw [setv_len, List.length_set]; exact f.len⟩
  · by_cases e : i = j
    · subst e
      cases getv_setv_self ρ i _ _ h
      exact ⟨v, by rw [List.getElem?_set_self hi], r⟩
    · rw [getv_setv_ne ρ i j _ e] at h
      obtain ⟨u, e1, q⟩ := f.slot j y h h2
      exact ⟨u, by rw [List.getElem?_set_ne e]; exact e1, q⟩
  · have e : i ≠ j := fun e => by rw [e, h2] at ho; cases ho
    rw [getv_setv_ne ρ i j _ e] at h
    obtain ⟨p, a, e1, e2, q⟩ := f.own j y h h2
    exact ⟨p, a, e1, by rw [List.getElem?_set_ne e]; exact e2, q⟩
  · have e1 : i ≠ j := fun e => by rw [e, h1] at ho; cases ho
    have e2 : i ≠ k := fun e => by rw [e, h2] at ho; cases ho
    rw [getv_setv_ne ρ i j _ e1] at h3
    rw [getv_setv_ne ρ i k _ e2] at h4
    rw [List.getElem?_set_ne e1] at h5
    rw [List.getElem?_set_ne e2] at h6
    exact f.apart j k a h1 h2 h3 h4 h5 h6
/-- less is known -/
theorem FR.weak (f : FR K N H0 H μ pn O σ ρ) (h : ∀ i v, getv ρ' i = some v → getv ρ i = some v) (hl : ρ'.length ≤ σ.length) : FR K N H0 H μ pn O σ ρ' :=
  ⟨fun i v e => f.slot i v (h i v e), fun i v e => f.own i v (h i v e), fun i j a h1 h2 h3 h4 => f.apart i j a h1 h2 (fun e => by
      cases q : getv ρ' i with
      | none => exact h3 q
      | some v => rw [h i v q] at e; cases e) (fun e => by
      cases q : getv ρ' j with
      | none => exact h4 q
      | some v => rw [h j v q] at e; cases e), hl⟩
end
/-- slots a target writes -/
def tgS : Tg → List Nat
  | .nm i => [i]
  | .tp is => is
section
variable {X : L2.Cx} {c : Ec} {tg : Expr} {pos : Pos}
/-- a target's rule: data x come to it -/
def tG (X : L2.Cx) (c : Ec) (t : Tg) : TG := fun v σ H Q => ∃ x ρ μ W ρ', FR X.K c.N c.H0 H μ c.pn c.O σ ρ ∧ WR X.K c.N H μ W ∧ Rep X.K H x v ∧ bindT ρ t x = some ρ' ∧ ∀ σ', FR X.K c.N c.H0 H μ c.pn c.O σ' ρ' → Q σ' H
def JG (X : L2.Cx) (c : Ec) (tg : Expr) (t : Tg) : Prop := PG X tg (tG X c t)
theorem len_lt {N : List Str} {σ : L2.St} {i : Nat} {x : Str} (h : σ.length = N.length) (e : N[i]? = some x) : i < σ.length := by
  rw [h]
  exact (List.getElem?_eq_some_iff.mp e).1
theorem jg_nm (G : Gd X c) {i : Nat} {x : Str} (hi : X.N[i]? = some x) (hx : Loc X.env.scope x) (hf : X.fn x = true ∨ X.env.scope.names.lookup x = some .local) (ho : c.O i = false) : JG X c (.Name x pos) (.nm i) := by
  refine ⟨fun pins s σ H v u Q I rv ⟨x', ρ, μ, W, ρ', hF, hW, hr, e, q⟩ => (pg_name G.nd hi hx hf).run pins s σ H v u Q I rv ?_⟩
  cases e
  exact q _ (hF.set (len_lt I.len hi) ho hr)
/-- names one behind another -/
abbrev nms (ps : List (Str × Pos)) : List Expr := ps.map fun p => .Name p.1 p.2
def NmOk (X : L2.Cx) (c : Ec) : List (Str × Pos) → List Nat → Prop
  | [], [] => True
  | p :: es, i :: is => X.N[i]? = some p.1 ∧ Loc X.env.scope p.1 ∧ (X.fn p.1 = true ∨ X.env.scope.names.lookup p.1 = some .local) ∧ c.O i = false ∧ NmOk X c es is
  | _, _ => False
def tGs (X : L2.Cx) (c : Ec) (is : List Nat) : TGs := fun vs σ H Q => ∃ xs ρ μ W ρ', FR X.K c.N c.H0 H μ c.pn c.O σ ρ ∧ WR X.K c.N H μ W ∧ RepL X.K H xs vs ∧ sets ρ is xs = some ρ' ∧ ∀ σ', FR X.K c.N c.H0 H μ c.pn c.O σ' ρ' → Q σ' H
theorem pgs_nm (G : Gd X c) : ∀ {es : List (Str × Pos)} {is : List Nat}, NmOk X c es is → PGs X (nms es) (tGs X c is)
  | [], [], _ => ⟨fun pins s σ H vs us Q I r ⟨xs, ρ, μ, W, ρ', hF, hW, hr, e, q⟩ => by
      cases xs with
      | cons _ _ => cases e
      | nil =>
        cases vs with
        | cons _ _ => exact hr.elim
        | nil =>
          cases e
          exact pgs_nil.run pins s σ H [] us Q I r ⟨rfl, q _ hF⟩⟩
  | p :: es, i :: is, ⟨h1, h2, h3, h4, h5⟩ => ⟨fun pins s σ H vs us Q I r ⟨xs, ρ, μ, W, ρ', hF, hW, hr, e, q⟩ => by
      cases xs with
      | nil => cases e
      | cons y ys =>
        cases vs with
        | nil => exact hr.elim
        | cons v vs =>
          obtain ⟨r1, r2⟩ := hr
          have e : sets (setv ρ i (some (.d y))) is ys = some ρ' := e
          exact (pgs_cons (pg_name (pos := p.2) G.nd h1 h2 h3) (pgs_nm G h5) (by rfl)).run pins s σ H (v :: vs) us Q I r ⟨v, vs, rfl, ys, _, μ, W, ρ', hF.set (len_lt I.len h1) h4 (show RepV X.K c.N H μ c.pn (.d y) v from r1), hW, r2, e, q⟩⟩
  | [], _ :: _, h => h.elim
  | _ :: _, [], h => h.elim
theorem assignEach_len (env : PySem.Env) : ∀ es : List (Str × Pos), (assignEach (nms es) env).length = es.length
  | [] => rfl
  | p :: es => congrArg (· + 1) (assignEach_len env es)
theorem assignEach_find (env : PySem.Env) : ∀ es : List (Str × Pos), List.findIdx? (fun x : Bool × (Value → Sem Unit) => x.1) (assignEach (nms es) env) = none
  | [] => rfl
  | p :: es => by
    show List.findIdx? _ ((false, assign (.Name p.1 p.2) env) :: assignEach (nms es) env) = none
    rw [List.findIdx?_cons, assignEach_find env es]
    rfl
theorem NmOk.len : ∀ {es : List (Str × Pos)} {is : List Nat}, NmOk X c es is → es.length = is.length
  | [], [], _ => rfl
  | _ :: _, _ :: _, h => congrArg (· + 1) (NmOk.len h.2.2.2.2)
  | [], _ :: _, h => h.elim
  | _ :: _, [], h => h.elim
theorem sets_len : ∀ {is : List Nat} {xs : List PV} {ρ ρ' : Env}, sets ρ is xs = some ρ' → xs.length = is.length
  | [], [], _, _, _ => rfl
  | _ :: is, _ :: xs, _, _, h => congrArg (· + 1) (sets_len (is := is) (xs := xs) h)
  | [], _ :: _, _, _, h => by cases h
  | _ :: _, [], _, _, h => by cases h
theorem jg_tp (G : Gd X c) (hh : c.hot = false) {es : List (Str × Pos)} {is : List Nat} {k : Nat} (h : NmOk X c es is) : JG X c (.Tuple (nms es) k pos) (.tp is) := by
  refine ⟨fun pins s σ H v u Q I rv ⟨x', ρ, μ, W, ρ', hF, hW, hr, e, q⟩ => (pg_tup (n := is.length) (G.calm hh) (pgs_nm G h) (by rw [assignEach_len, h.len]) (assignEach_find _ _)).run pins s σ H v u Q I rv ?_⟩
  cases x' with
  | tup xs =>
    obtain ⟨a, vs, rfl, g1, g2, _⟩ := (show ∃ a vs, v = .ref a ∧ SqT X.K H a vs ∧ RepL X.K H xs vs ∧ _ from hr)
    have e : sets ρ is xs = some ρ' := e
    exact ⟨a, vs, rfl, g1, by rw [← g2.length]; exact sets_len e, xs, ρ, μ, W, ρ', hF, hW, g2, e, q⟩
  | _ => cases e
/-- what a target leaves as it was -/
theorem sets_keep : ∀ {is : List Nat} {xs : List PV} {ρ ρ' : Env} {j : Nat}, sets ρ is xs = some ρ' → j ∉ is → getv ρ' j = getv ρ j
  | [], [], _, _, _, h, _ => by cases h; rfl
  | i :: is, x :: xs, ρ, ρ', j, h, hj => by
    have h : sets (setv ρ i (some (.d x))) is xs = some ρ' := h
    rw [sets_keep h (fun m => hj (List.mem_cons_of_mem _ m)), getv_setv_ne _ _ _ _ (fun e => hj (by rw [e]; exact List.mem_cons_self))]
  | [], _ :: _, _, _, _, h, _ => by cases h
  | _ :: _, [], _, _, _, h, _ => by cases h
theorem bindT_keep {ρ ρ' : Env} {t : Tg} {x : PV} {j : Nat} (h : bindT ρ t x = some ρ') (hj : j ∉ tgS t) : getv ρ' j = getv ρ j := by
  cases t with
  | nm i =>
    cases h
    exact getv_setv_ne _ _ _ _ (fun e => hj (by rw [e]; exact List.mem_singleton.mpr rfl))
  | tp is =>
    cases x with
    | tup xs => exact sets_keep (show sets ρ is xs = some ρ' from h) hj
    | _ => cases h
end
end Rx
end
section
set_option Elab.async false
set_option linter.all false
set_option maxRecDepth 100000
set_option maxHeartbeats 1000000
/-! Rx comp: comprehensions of any number of clauses. -/
namespace Rx
open PySem PySem.Spec PyProof.Rows L2
/-- what is made: a list of elt, a dict of k: v -/
inductive Kd where
  | lst (e : Expr)
  | dct (k v : Expr)
def Kd.ex (kd : Kd) (gens : List Comprehension) (scope : Scope) (pos : Pos) : Expr :=
  match kd with
  | .lst e => .ListComp e gens scope pos
  | .dct k v => .DictComp k v gens scope pos
/-- one turn's making -/
def Kd.emit (kd : Kd) (D : Addr) (env : PySem.Env) : Sem Unit :=
  match kd with
  | .lst e => do let _ ← call (.builtin "list.append") [.ref D, ← eval e env]
  | .dct k v => do
    let kv ← eval k env
    let vv ← holding [kv] (eval v env)
    standAt { k.pos with endLine := v.pos.endLine, endCol := v.pos.endCol }
    holding [kv, vv] (dictSet D kv vv)
structure Cl where
  tg : Expr
  iter : Expr
  ifs : List Expr
abbrev cls (ts : List Cl) : List Comprehension := ts.map fun t => ⟨t.tg, t.iter, t.ifs, 0⟩
/-- behind a turn's tests: the next clause, or the making -/
def inner (kd : Kd) (ts : List Cl) (scope : Scope) (pos : Pos) (k : Nat) (D : Addr) (env : PySem.Env) : Sem Unit :=
  match ts[k + 1]? with
  | some g' => do
    let x ← eval g'.iter env
    standAt g'.iter.pos
    let x ← foldedSetIterable g'.iter env x
    let _ ← runOwn (.compStart (kd.ex (cls ts) scope pos) (k + 1) (← holding [x] (pyIter x)) (.ref D) env) env
  | none => kd.emit D env
section
variable {prog : Program} {w : World} {A : Around} {R : Result → Shared → Prop} {s : Shared} {scope : Scope} {pos : Pos} {it : Value} {D : Addr} {env : PySem.Env} {ts : List Cl} {g : Cl} {k : Nat}
theorem turn_eq (kd : Kd) (hg : ts[k]? = some g) : compTurn (kd.ex (cls ts) scope pos) k it (.ref D) env = (do
      standAt g.iter.pos
      match ← pyNext it with
      | none => pure (.done .next)
      | some v =>
        letOwnedTupleGo g.tg it v
        assign g.tg env v
        let mut ok := true
        for c in g.ifs do
          if ok then ok ← isTrue c env (eval c env)
        if ok then inner kd ts scope pos k D env
        again (.compLoop (kd.ex (cls ts) scope pos) k it (.ref D) env)) := by
  have h0 : (cls ts)[k]? = some ⟨g.tg, g.iter, g.ifs, 0⟩ := by rw [List.getElem?_map, hg]; rfl
  have h1 : (cls ts)[k + 1]? = (ts[k + 1]?).map fun t => ⟨t.tg, t.iter, t.ifs, 0⟩ := by rw [List.getElem?_map]
  cases kd with
  | lst e =>
    unfold Kd.ex compTurn inner
    simp only [h0, h1, bne_self_eq_false, Bool.false_eq_true, if_false]
    cases h : ts[k + 1]? with
    | none => rfl
    | some g' =>
      simp only [Option.map_some, bne_self_eq_false, Bool.false_eq_true, if_false, bind_assoc]
      rfl
  | dct a b =>
    unfold Kd.ex compTurn inner
    simp only [h0, h1, bne_self_eq_false, Bool.false_eq_true, if_false]
    cases h : ts[k + 1]? with
    | none => rfl
    | some g' =>
      simp only [Option.map_some, bne_self_eq_false, Bool.false_eq_true, if_false, bind_assoc]
      rfl
/-- the loop of one clause -/
theorem loop_of (kd : Kd) (hg : ts[k]? = some g) (I : Nat → Shared → Prop)
    (turn : ∀ n s, I n s → wpAny (model prog w) A (pyNext it) (fun r s₁ => match r with
      | none => R (.ok .next) s₁
      | some v => wpAny (model prog w) A (letOwnedTupleGo g.tg it v) (fun _ s₂ => wpAny (model prog w) A (assign g.tg env v) (fun _ s₃ =>
          wpAny (model prog w) A (forIn g.ifs true fun c r => if r = true then do let ok ← isTrue c env (eval c env); pure (ForInStep.yield ok) else pure (ForInStep.yield r)) (fun ok s₄ =>
            if ok = true then wpAny (model prog w) A (inner kd ts scope pos k D env) (fun _ s₅ => ∃ m, m < n ∧ I m s₅) (fun _ _ => False) s₄ else ∃ m, m < n ∧ I m s₄) (fun _ _ => False) s₃) (fun _ _ => False) s₂) (fun _ _ => False) s₁) (fun _ _ => False) s)
    (n : Nat) (h : I n s) : codeAny (model prog w) A (.compLoop (kd.ex (cls ts) scope pos) k it (.ref D) env) R s := by
  have noF : ∀ {α : Type} {t : Sem α} {Q : α → Shared → Prop} {E : Value → Shared → Prop} {s : Shared}, wpAny (model prog w) A t Q (fun _ _ => False) s → wpAny (model prog w) A t Q E s := fun h => wpAny_mono h (fun _ _ q => q) fun _ _ z => z.elim
  have fin : ∀ n s, I n s → wpAny (model prog w) A (compTurn (kd.ex (cls ts) scope pos) k it (.ref D) env) (fun fin s' => match fin with
      | .done f => R (.ok f) s'
      | .again c' => c' = Code.compLoop (kd.ex (cls ts) scope pos) k it (.ref D) env ∧ ∃ m, m < n ∧ I m s') (fun _ _ => False) s := by
    intro n s hI
    rw [turn_eq kd hg]
    refine wpAny_bind (wpAny_standAt (wpAny_bind (wpAny_mono (turn n s hI) (fun r s₁ h₁ => ?_) fun _ _ h' => h')))
    cases r with
    | none => exact wpAny_pure h₁
    | some v =>
      refine wpAny_bind (wpAny_mono h₁ (fun _ s₂ h₂ => wpAny_bind (wpAny_mono h₂ (fun _ s₃ h₃ => wpAny_bind (wpAny_mono h₃ (fun ok s₄ h₄ => ?_) fun _ _ h' => h')) fun _ _ h' => h')) fun _ _ h' => h')
      cases ok with
      | false => exact wpAny_pure ⟨rfl, h₄⟩
      | true => exact wpAny_bind (wpAny_mono h₄ (fun _ s₅ h₅ => wpAny_pure ⟨rfl, h₅⟩) fun _ _ h' => h')
  cases kd with
  | lst e =>
    refine codeAny_loop rfl I (fun n s hI => ?_) n h
    show wpAny _ A ((compTurn (.ListComp e (cls ts) scope pos) k it (.ref D) env).onRaise (fun x => do noteFrame x env; theTreesLotGoes x)) _ _ s
    exact wpAny_noted (noF (fin n s hI))
  | dct a b =>
    refine codeAny_loop rfl I (fun n s hI => ?_) n h
    show wpAny _ A ((compTurn (.DictComp a b (cls ts) scope pos) k it (.ref D) env).onRaise (fun x => do noteFrame x env; theTreesLotGoes x)) _ _ s
    exact wpAny_noted (noF (fin n s hI))
theorem start_of (kd : Kd) (hg : ts[k]? = some g) (h0 : codeAny (model prog w) A (.compLoop (kd.ex (cls ts) scope pos) k it (.ref D) env) R s)
    (h : wpAny (model prog w) A (pyIter it) (fun it' s' => codeAny (model prog w) A (.compLoop (kd.ex (cls ts) scope pos) k it' (.ref D) env) R s') (notedBy (model prog w) A env fun x s' => R (.error x) s') s) :
    codeAny (model prog w) A (.compStart (kd.ex (cls ts) scope pos) k it (.ref D) env) R s := by
  refine codeAny_of_tree ?_
  have hc : (clausesOf (kd.ex (cls ts) scope pos))[k]? = some ⟨g.tg, g.iter, g.ifs, 0⟩ := by
    cases kd <;> (show (cls ts)[k]? = _; rw [List.getElem?_map, hg]; rfl)
  have run : wpAny (model prog w) A (compStart (kd.ex (cls ts) scope pos) k it (.ref D) env) (fun fin s' => match fin with
      | .done f => R (.ok f) s'
      | .again c' => c'.quiet = true ∧ codeAny (model prog w) A c' R s') (notedBy (model prog w) A env fun x s' => R (.error x) s') s := by
    unfold compStart
    simp only [hc]
    have q : (Code.compLoop (kd.ex (cls ts) scope pos) k it (.ref D) env).quiet = true := by cases kd <;> rfl
    refine wpAny_bind (wpAny_askSetting (wpAny_ite ?_))
    split
    · first
        | exact wpAny_bind (wpAny_pure (wpAny_pure (And.intro q h0)))
        | exact wpAny_pure (And.intro q h0)
    · refine wpAny_bind (wpAny_rule ?_)
      refine wpAny_bind (wpAny_standAt (wpAny_bind (wpAny_mono h (fun it' s' h' => wpAny_pure (And.intro ?_ h')) fun _ _ x => x)))
      cases kd <;> rfl
  cases kd with
  | lst e =>
    show wpAny _ A ((compStart (.ListComp e (cls ts) scope pos) k it (.ref D) env).onRaise (fun x => do noteFrame x env; standAt theWindowsPlace)) _ _ s
    exact wpAny_notedAt run
  | dct a b =>
    show wpAny _ A ((compStart (.DictComp a b (cls ts) scope pos) k it (.ref D) env).onRaise (fun x => do noteFrame x env; standAt theWindowsPlace)) _ _ s
    exact wpAny_notedAt run
end
end Rx
end
section
set_option Elab.async false
set_option linter.all false
set_option maxRecDepth 100000
set_option maxHeartbeats 1000000
namespace Rx
open PySem PySem.Spec PyProof.Rows L2
/-- a clause, what it does -/
structure Gn where
  cl : Cl
  t : Tg
  src : Env → Wd → R (List PV)
  tst : Env → Wd → R Bool
def runG (leaf : Env → Wd → R (List PV)) : List Gn → Env → Wd → R (List PV)
  | [], ρ, w => leaf ρ w
  | g :: gs, ρ, w => (g.src ρ w).bind fun xs w =>
      loopL (fun x w => (R.of (bindT ρ g.t x) w).bind fun ρ1 w => (g.tst ρ1 w).bind fun b w => if b then runG leaf gs ρ1 w else .ok [] w) xs w
def turnR (leaf : Env → Wd → R (List PV)) (g : Gn) (gs : List Gn) (ρ : Env) (x : PV) (w : Wd) : R (List PV) :=
  (R.of (bindT ρ g.t x) w).bind fun ρ1 w => (g.tst ρ1 w).bind fun b w => if b then runG leaf gs ρ1 w else .ok [] w
theorem bind_okR {α β : Type} {r : R α} {k : α → Wd → R β} {b : β} {w' : Wd} (h : r.bind k = .ok b w') : ∃ a w, r = .ok a w ∧ k a w = .ok b w' := by
  cases r with
  | ok a w => exact ⟨a, w, rfl, h⟩
  | ex _ _ _ => cases h
  | st => cases h
theorem loop_cons {α β : Type} {f : α → Wd → R (List β)} {x : α} {xs : List α} {w w' : Wd} {zs : List β} (h : loopL f (x :: xs) w = .ok zs w') : ∃ ys w1 rs, f x w = .ok ys w1 ∧ loopL f xs w1 = .ok rs w' ∧ zs = ys ++ rs := by
  rw [loopL] at h
  obtain ⟨ys, w1, e1, h⟩ := bind_okR h
  obtain ⟨rs, w2, e2, h⟩ := bind_okR h
  cases h
  exact ⟨ys, w1, rs, e1, e2, rfl⟩
/-- the state within a comprehension's block; D is what is made -/
structure CS (X : L2.Cx) (c : Ec) (D : Addr) (μs : List Addr) (Hs : Hp) (pins : List (Addr × Obj)) (σ : L2.St) (H : Hp) (s : Shared) (ρ : Env) (μ : List Addr) (W : Wd) : Prop where
  I : Inv X pins σ H s
  F : FR X.K c.N c.H0 H μ c.pn c.O σ ρ
  W : WR X.K c.N H μ W
  st : Stp μs μ Hs H
  nd : D ∉ μ
def Acc (kd : Kd) (K : PySem.W.Frag) (D : Addr) (H : Hp) (ps : List PV) : Prop :=
  match kd with
  | .lst _ => ∃ vs, H D = some (.lst vs) ∧ RepL K H ps vs
  | .dct _ _ => ∃ ks prs, H D = some (.dK ks) ∧ pairsO ps = some prs ∧ RepK K H (dmerge [] prs) ks
theorem Acc.some {kd : Kd} {K : PySem.W.Frag} {D : Addr} {H : Hp} {ps : List PV} (h : Acc kd K D H ps) : ∃ o, H D = some o ∧ Mut (some o) := by
  cases kd with
  | lst _ => obtain ⟨vs, e, _⟩ := h; exact ⟨_, e, trivial⟩
  | dct _ _ => obtain ⟨ks, _, e, _⟩ := h; exact ⟨_, e, trivial⟩
theorem Acc.step {kd : Kd} {K : PySem.W.Frag} {D : Addr} {H H' : Hp} {ps : List PV} {μ μ' : List Addr} (h : Acc kd K D H ps) (s : Stp μ μ' H H') (hD : D ∉ μ) : Acc kd K D H' ps := by
  cases kd with
  | lst _ => obtain ⟨vs, e, r⟩ := h; exact ⟨vs, s.keep _ _ e hD, RepL.mono s.ext _ _ r⟩
  | dct _ _ => obtain ⟨ks, prs, e, e2, r⟩ := h; exact ⟨ks, prs, s.keep _ _ e hD, e2, RepK.mono s.ext _ _ r⟩
/-- D changed -/
theorem ext_upd {H : Hp} {D : Addr} {o u : HO} (h : H D = some o) (m : Mut (some o)) : Ext H (upd H D u) :=
  ⟨fun a xs e => by rw [upd_ne (fun z => by rw [z, h] at e; cases e; exact m)]; exact e, fun a o' u' e => by rw [upd_ne (fun z => by rw [z, h] at e; cases e; exact m)]; exact e⟩
section
variable {X : L2.Cx} {c : Ec} {D : Addr} {μs : List Addr} {Hs : Hp} {pins : List (Addr × Obj)} {σ : L2.St} {H : Hp} {s : Shared} {ρ : Env} {μ : List Addr} {W : Wd}
theorem CS.step (C : CS X c D μs Hs pins σ H s ρ μ W) {H' : Hp} {s' : Shared} {μ' : List Addr} {W' : Wd} {o : HO} (hD : H D = some o) (I : Inv X pins σ H' s') (t : Stp μ μ' H H') (w : WR X.K c.N H' μ' W') : CS X c D μs Hs pins σ H' s' ρ μ' W' :=
  ⟨I, C.F.step t C.W, w, C.st.trans t, t.nin hD C.nd⟩
theorem CS.upd (C : CS X c D μs Hs pins σ H s ρ μ W) {s' : Shared} {o u : HO} (hs : Hs D = none) (h0 : c.H0 D ≠ none) (hD : H D = some o) (m : Mut (some o)) (I : Inv X pins σ (upd H D u) s') : CS X c D μs Hs pins σ (upd H D u) s' ρ μ W := by
  have e := ext_upd (u := u) hD m
  have km : ∀ a ∈ μ, L2.upd H D u a = H a := fun a ha => upd_ne (fun z => C.nd (z ▸ ha))
  refine ⟨I, ⟨fun i v g1 g2 => ?_, fun i v g1 g2 => ?_, C.F.apart, C.F.len⟩, C.W.keep km e, ⟨fun a o' q hm => ?_, C.st.ext.trans e, fun a hm q => ?_, C.st.more⟩, C.nd⟩
  · obtain ⟨x, q1, q2⟩ := C.F.slot i v g1 g2
    refine ⟨x, q1, ?_⟩
    cases v with
    | d p => exact Rep.mono e _ _ q2
    | o n => exact q2
    | x a b =>
      obtain ⟨a1, oe, d, vs, k1, k2, k3, k4, k5, k6, k7⟩ := q2
      exact ⟨a1, oe, d, vs, k1, k2, k3, k4, by rw [upd_ne (fun z => by rw [z, hD] at k5; cases k5; exact m)]; exact k5, RepL.mono e _ _ k6, k7⟩
    | f a b => exact q2
  · obtain ⟨x, a, q1, q2, q3, q4, q5⟩ := C.F.own i v g1 g2
    have hne : a ≠ D := fun z => h0 (z ▸ q5)
    exact ⟨x, a, q1, q2, RepO.mono e (fun o h => by rw [upd_ne hne]; exact h) q3, q4, q5⟩
  · rw [upd_ne (fun z => by rw [z, hs] at q; cases q)]
    exact C.st.keep a o' q hm
  · rw [upd_ne (fun z => by rw [z, hs] at q; exact q rfl)]
    exact C.st.wld a hm q
def leafL (re : Env → Wd → R Val) : Env → Wd → R (List PV) := fun ρ w => (dat (re ρ w)).bind fun v w => .ok [v] w
def leafD (rk rv : Env → Wd → R Val) : Env → Wd → R (List PV) := fun ρ w => (dat (rk ρ w)).bind fun x w => (dat (rv ρ w)).bind fun y w => if keyable x then .ok [.tup [x, y]] w else .st
/-- the making's rule -/
inductive LfOk (X : L2.Cx) (c : Ec) : Kd → (Env → Wd → R (List PV)) → Prop where
  | lst {e : Expr} {re : Env → Wd → R Val} (h : JE X c .z e re) : LfOk X c (.lst e) (leafL re)
  | dct {k v : Expr} {rk rv : Env → Wd → R Val} (h : JE X c .z k rk) (g : JE X c .z v rv) : LfOk X c (.dct k v) (leafD rk rv)
theorem dat_ok' {r : R Val} {p : PV} {w : Wd} (h : dat r = .ok p w) : r = .ok (.d p) w := by
  obtain ⟨v, w1, e, h⟩ := bind_okR (show r.bind (fun v w => match v with | .d p => .ok p w | _ => .st) = .ok p w from h)
  cases v with
  | d q => cases h; exact e
  | _ => cases h
theorem run_z {fl : Fl} {e : Expr} {r : Env → Wd → R Val} (h : JE X c fl e r) (hx : X.xe = fun _ _ => False) (C : CS X c D μs Hs pins σ H s ρ μ W) {p : PV} {W' : Wd} (e0 : r ρ W = .ok (.d p) W') {o : HO} (hD : H D = some o) :
    wpAny (model X.prog X.w) X.A (eval e X.env) (fun u s' => ∃ v H' μ', CS X c D μs Hs pins σ H' s' ρ μ' W' ∧ RelV v u ∧ RepF X.K H fl H' μ' p v ∧ Stp μ μ' H H') (fun _ _ => False) s := by
  have := h.run pins s σ H (fun v H' => ∃ μ', Stp μ μ' H H' ∧ WR X.K c.N H' μ' W' ∧ RepF X.K H fl H' μ' p v) C.I ⟨ρ, μ, W, C.F, C.W, by rw [e0]; exact fun b H' μ' t w q => ⟨μ', t, w, q⟩⟩
  rw [hx] at this
  exact thn this fun u s' ⟨v, H', I', rv, μ', t, w, q⟩ => ⟨v, H', μ', C.step hD I' t w, rv, q, t⟩
theorem pairsO_app : ∀ {xs ys : List PV} {ps qs : List (PV × PV)}, pairsO xs = some ps → pairsO ys = some qs → pairsO (xs ++ ys) = some (ps ++ qs)
  | [], ys, ps, qs, h, g => by cases h; exact g
  | .tup [k, v] :: xs, ys, ps, qs, h, g => by
    simp only [pairsO] at h
    split at h
    · rename_i hk
      obtain ⟨rs, e, rfl⟩ := Option.map_eq_some_iff.mp h
      show (if keyable k then (pairsO (xs ++ ys)).map ((k, v) :: ·) else none) = _
      rw [if_pos hk, pairsO_app e g]
      rfl
    · cases h
  | .tup [] :: _, _, _, _, e, _ => by cases e
  | .tup [_] :: _, _, _, _, e, _ => by cases e
  | .tup (_ :: _ :: _ :: _) :: _, _, _, _, e, _ => by cases e
  | .non :: _, _, _, _, e, _ => by cases e
  | .bl _ :: _, _, _, _, e, _ => by cases e
  | .int _ :: _, _, _, _, e, _ => by cases e
  | .str _ :: _, _, _, _, e, _ => by cases e
  | .lst _ :: _, _, _, _, e, _ => by cases e
  | .dct _ :: _, _, _, _, e, _ => by cases e
  | .set _ :: _, _, _, _, e, _ => by cases e
theorem pairsO_len : ∀ {xs : List PV} {ps : List (PV × PV)}, pairsO xs = some ps → ps.length = xs.length
  | [], ps, h => by cases h; rfl
  | .tup [k, v] :: xs, ps, h => by
    simp only [pairsO] at h
    split at h
    · obtain ⟨rs, e, rfl⟩ := Option.map_eq_some_iff.mp h
      rw [List.length_cons, pairsO_len e, List.length_cons]
    · cases h
  | .tup [] :: _, _, e => by cases e
  | .tup [_] :: _, _, e => by cases e
  | .tup (_ :: _ :: _ :: _) :: _, _, e => by cases e
  | .non :: _, _, e => by cases e
  | .bl _ :: _, _, e => by cases e
  | .int _ :: _, _, e => by cases e
  | .str _ :: _, _, e => by cases e
  | .lst _ :: _, _, e => by cases e
  | .dct _ :: _, _, e => by cases e
  | .set _ :: _, _, e => by cases e
theorem dmerge_app : ∀ (xs ys kvs : List (PV × PV)), dmerge kvs (xs ++ ys) = dmerge (dmerge kvs xs) ys
  | [], _, _ => rfl
  | (k, v) :: xs, ys, kvs => by
    show dmerge (dput k v kvs) (xs ++ ys) = dmerge (dmerge (dput k v kvs) xs) ys
    exact dmerge_app xs ys _
theorem emit_ok {kd : Kd} {leaf : Env → Wd → R (List PV)} (L : LfOk X c kd leaf) (hx : X.xe = fun _ _ => False) (hs : Hs D = none) (h0 : c.H0 D ≠ none) (C : CS X c D μs Hs pins σ H s ρ μ W) {A ys : List PV} {W' : Wd} (a : Acc kd X.K D H A)
    (e : leaf ρ W = .ok ys W') (hl : A.length + ys.length ≤ sizeLine) :
    wpAny (model X.prog X.w) X.A (kd.emit D X.env) (fun _ s' => ∃ H' μ', CS X c D μs Hs pins σ H' s' ρ μ' W' ∧ Acc kd X.K D H' (A ++ ys) ∧ Ext H H') (fun _ _ => False) s := by
  cases L with
  | lst h =>
    obtain ⟨p, w1, e1, e2⟩ := bind_okR (show (dat _).bind _ = R.ok ys W' from e)
    cases e2
    obtain ⟨vs, hD, ra⟩ := a
    refine wpAny_bind (thn (run_z h hx C (dat_ok' e1) hD) fun u s1 ⟨v, H1, μ1, C1, rv, q, t⟩ => ?_)
    have hD1 := t.keep _ _ hD C.nd
    have ln := ra.length
    refine wpAny_bind (app_ok C1.I hD1 (by rw [List.length_singleton] at hl; omega) rv fun s2 I2 => wpAny_pure ?_)
    have C2 := C1.upd hs h0 hD1 trivial I2
    have ex := ext_upd (u := .lst (vs ++ [v])) hD1 trivial
    exact ⟨_, μ1, C2, ⟨_, upd_same, (RepL.mono (t.ext.trans ex) _ _ ra).append ⟨Rep.mono ex _ _ q, trivial⟩⟩, t.ext.trans ex⟩
  | dct h g =>
    obtain ⟨px, w1, e1, e2⟩ := bind_okR (show (dat _).bind _ = R.ok ys W' from e)
    obtain ⟨py, w2, e3, e4⟩ := bind_okR e2
    split at e4
    · rename_i hk
      cases e4
      obtain ⟨ks, prs, hD, ep, ra⟩ := a
      refine wpAny_bind (thn (run_z h hx C (dat_ok' e1) hD) fun u s1 ⟨v, H1, μ1, C1, rv, q, t⟩ => ?_)
      have hD1 := t.keep _ _ hD C.nd
      refine wpAny_bind (wpAny_holding (thn (run_z g hx C1 (dat_ok' e3) hD1) fun u2 s2 ⟨v2, H2, μ2, C2, rv2, q2, t2⟩ => ?_))
      have hD2 := t2.keep _ _ hD1 C1.nd
      obtain ⟨j, kj, rfl⟩ := keyable_key (Rep.b q) hk
      have ln := ra.length
      have l1 := length_dmerge prs []
      have l2 := pairsO_len ep
      rw [List.length_nil] at l1
      rw [List.length_singleton] at hl
      refine wpAny_bind (wpAny_standAt (wpAny_holding (d_dictSet C2.I hD2 (by omega) rv rv2 fun s3 I3 => ?_)))
      have C3 := C2.upd hs h0 hD2 trivial I3
      have ex := ext_upd (u := .dK (putK ks j v2)) hD2 trivial
      refine ⟨_, μ2, C3, ⟨_, prs ++ [(px, py)], upd_same, pairsO_app ep (by show (if keyable px then _ else none) = _; rw [if_pos hk]; rfl), ?_⟩, (t.ext.trans t2.ext).trans ex⟩
      rw [dmerge_app]
      exact RepK.put (RepK.mono ((t.ext.trans t2.ext).trans ex) _ _ ra) (Rd.dnd C2.I (.inl hD2)) kj (Rep.mono ex _ _ q2)
    · cases e4
end
end Rx
end
section
set_option Elab.async false
set_option linter.all false
set_option maxRecDepth 100000
set_option maxHeartbeats 1000000
namespace Rx
open PySem PySem.Spec PyProof.Rows L2
section
variable {X : L2.Cx} {c : Ec} {D : Addr} {μs : List Addr} {Hs : Hp}
/-- a clause's rule, its source aside -/
structure GnOk (X : L2.Cx) (c : Ec) (g : Gn) : Prop where
  tg : JG X c g.cl.tg g.t
  tst : PTs X g.cl.ifs (tB X c g.tst)
/-- .. of a clause behind the first -/
structure GnIn (X : L2.Cx) (c : Ec) (g : Gn) : Prop where
  src : JI X c g.cl.tg g.cl.iter g.src
  fold : ∀ x, foldedSetIterable g.cl.iter X.env x = pure x
/-- no slot is written twice -/
def Apart : List Gn → Prop
  | [] => True
  | g :: gs => (∀ h ∈ gs, ∀ i ∈ tgS g.t, i ∉ tgS h.t) ∧ Apart gs
/-- what stands behind a turn's tests -/
def InnOk (X : L2.Cx) (c : Ec) (D : Addr) (μs : List Addr) (Hs : Hp) (kd : Kd) (leaf : Env → Wd → R (List PV)) (ts : List Cl) (scope : Scope) (pos : Pos) (k : Nat) (gs : List Gn) : Prop :=
  ∀ (pins : List (Addr × Obj)) (σ : L2.St) (H : Hp) (s : Shared) (ρ : Env) (μ : List Addr) (W : Wd) (A ys : List PV) (W' : Wd), (∀ h ∈ gs, ∀ i ∈ tgS h.t, getv ρ i = none) → CS X c D μs Hs pins σ H s ρ μ W → Acc kd X.K D H A →
    runG leaf gs ρ W = .ok ys W' → A.length + ys.length ≤ sizeLine →
    wpAny (model X.prog X.w) X.A (inner kd ts scope pos k D X.env) (fun _ s' => ∃ σ' H' μ', CS X c D μs Hs pins σ' H' s' ρ μ' W' ∧ Acc kd X.K D H' (A ++ ys) ∧ Ext H H') (fun _ _ => False) s
theorem comp_one (G : Gd X c) (hh : c.hot = false) (hx : X.xe = fun _ _ => False) {kd : Kd} {leaf : Env → Wd → R (List PV)} {scope : Scope} {pos : Pos} {ts : List Cl} {g : Gn} {gs : List Gn} {k : Nat} (hk : ts[k]? = some g.cl) (ok : GnOk X c g) (hap : ∀ h ∈ gs, ∀ i ∈ tgS g.t, i ∉ tgS h.t)
    (inn : InnOk X c D μs Hs kd leaf ts scope pos k gs)
    {pins : List (Addr × Obj)} {σ : L2.St} {H : Hp} {s : Shared} {ρ : Env} {μ : List Addr} {W : Wd} {A xs zs : List PV} {W' : Wd} {it : Addr} {fp : List Addr} {tn : Nat → Heap → Prop} {J : It} {H1 : Hp} {R' : Result → Shared → Prop}
    (hnone : ∀ h ∈ g :: gs, ∀ i ∈ tgS h.t, getv ρ i = none) (C : CS X c D μs Hs pins σ H s ρ μ W) (a : Acc kd X.K D H A) (T : Turn X.prog X.w X.K g.cl.tg J fp it tn) (st0 : tn 0 s.heap) (hfp : ∀ b ∈ fp, FpOk X pins H b) (wk : WalkR X.K J xs H1) (hext : Ext H1 H)
    (el : loopL (turnR leaf g gs ρ) xs W = .ok zs W') (hsz : A.length + zs.length ≤ sizeLine)
    (hR : ∀ σ' H' μ' s', CS X c D μs Hs pins σ' H' s' ρ μ' W' → Acc kd X.K D H' (A ++ zs) → Ext H H' → R' (.ok .next) s') :
    codeAny (model X.prog X.w) X.A (.compLoop (kd.ex (cls ts) scope pos) k (.ref it) (.ref D) X.env) R' s := by
  refine loop_of kd hk (fun n s' => ∃ i σ' H' μ' Wi done rest, n = xs.length - i ∧ i ≤ xs.length ∧ CS X c D μs Hs pins σ' H' s' ρ μ' Wi ∧ tn i s'.heap ∧ (∀ b ∈ fp, FpOk X pins H' b) ∧ Acc kd X.K D H' (A ++ done) ∧
    loopL (turnR leaf g gs ρ) (xs.drop i) Wi = .ok rest W' ∧ zs = done ++ rest ∧ Ext H H') ?_ xs.length ⟨0, σ, H, μ, W, [], zs, by simp, Nat.zero_le _, C, st0, hfp, by rw [List.append_nil]; exact a, by rw [List.drop_zero]; exact el, rfl, Ext.refl H⟩
  rintro n s1 ⟨i, σ1, Hi, μ1, Wi, done, rest, rfl, hi, C1, st1, fp1, a1, e1, ez, ex1⟩
  by_cases hlt : i < xs.length
  · rw [List.drop_eq_getElem_cons hlt] at e1
    obtain ⟨ys, W1, rest', t1, t2, rfl⟩ := loop_cons e1
    obtain ⟨ρ1, W2, u1, u2⟩ := bind_okR (show (R.of (bindT ρ g.t xs[i]) Wi).bind _ = .ok ys W1 from t1)
    obtain ⟨v1, rfl⟩ := R.of_ok u1
    obtain ⟨b, W3, u3, u4⟩ := bind_okR u2
    refine thnF (T.item X rfl rfl rfl (G.calm hh) i pins s1 σ1 Hi (fun _ _ => False) C1.I fp1 st1 (wk.goes i Hi hlt (hext.trans ex1))) fun r s2 ⟨u, hr, h2⟩ => ?_
    subst hr
    refine thnF h2 fun _ s3 ⟨v, H3, I3, r3, y3, st3, n3⟩ => ?_
    obtain ⟨x, hx1, hrep, hH3⟩ := wk.yields i Hi v H3 hlt (hext.trans ex1) y3
    rw [List.getElem?_eq_getElem hlt] at hx1
    cases hx1
    obtain ⟨oD, hD, mD⟩ := a1.some
    have stp : Stp μ1 μ1 Hi H3 ∧ WR X.K c.N H3 μ1 W2 := by
      rcases hH3 with rfl | ⟨Tt, us, hT, rfl⟩
      · exact ⟨Stp.refl _ _, C1.W⟩
      · exact ⟨Stp.new hT, C1.W.new hT⟩
    have C3 := C1.step hD I3 stp.1 stp.2
    have a3 := a1.step stp.1 C1.nd
    have fp3 : ∀ b ∈ fp, FpOk X pins H3 b := fun b hb => ⟨n3 b hb, (fp1 b hb).2⟩
    have I3' := I3.pinned fp3 (T.obj _ _ st3)
    have pg := ok.tg.run (pins ++ pinsAt fp s3.heap) s3 σ1 H3 v u (fun σ' H' => H' = H3 ∧ FR X.K c.N c.H0 H3 μ1 c.pn c.O σ' ρ1) I3' r3 ⟨xs[i], ρ, μ1, W2, ρ1, C3.F, C3.W, hrep, v1, fun σ' f => ⟨rfl, f⟩⟩
    rw [hx] at pg
    refine thnF pg fun _ s4 ⟨σ4, H4, I4, eH, f4⟩ => ?_
    subst eH
    have C4 : CS X c D μs Hs (pins ++ pinsAt fp s3.heap) σ4 H4 s4 ρ1 μ1 W2 := ⟨I4, f4, C3.W, C3.st, C3.nd⟩
    have pt := ok.tst.run (pins ++ pinsAt fp s3.heap) s4 σ4 H4 (fun b' H' => b' = b ∧ ∃ μ', Stp μ1 μ' H4 H' ∧ WR X.K c.N H' μ' W3) I4 ⟨ρ1, μ1, W2, f4, C3.W, by rw [u3]; exact fun b' H' μ' t w q => ⟨q, μ', t, w⟩⟩
    rw [hx] at pt
    refine thnF pt fun b' s5 ⟨H5, I5, eb, μ5, t5, w5⟩ => ?_
    subst eb
    obtain ⟨oD3, hD3, mD3⟩ := a3.some
    have C5 := C4.step hD3 I5 t5 w5
    have a5 := a3.step t5 C4.nd
    have keepρ : ∀ j y, getv ρ j = some y → getv ρ1 j = some y := fun j y e => by
      rw [bindT_keep v1 fun hm => by rw [hnone g List.mem_cons_self j hm] at e; cases e]
      exact e
    have fin : ∀ {σ' : L2.St} {H' : Hp} {s' : Shared} {μ' : List Addr} {ws : List PV}, CS X c D μs Hs (pins ++ pinsAt fp s3.heap) σ' H' s' ρ1 μ' W1 → Acc kd X.K D H' (A ++ done ++ ys) → Ext H4 H' → ∃ m, m < xs.length - i ∧ ∃ i σ' H' μ' Wi done rest, m = xs.length - i ∧ i ≤ xs.length ∧ CS X c D μs Hs pins σ' H' s' ρ μ' Wi ∧ tn i s'.heap ∧ (∀ b ∈ fp, FpOk X pins H' b) ∧ Acc kd X.K D H' (A ++ done) ∧
        loopL (turnR leaf g gs ρ) (xs.drop i) Wi = .ok rest W' ∧ zs = done ++ rest ∧ Ext H H' := fun {σ' H' s' μ' ws} C' a' e' => by
      have pin' : ∀ b ∈ fp, ∀ o, s3.heap.get? b = some o → s'.heap.get? b = some o ∧ H' b = none := fun b hb o e =>
        let z := C'.I.pin (b, o) (List.mem_append_right _ (List.mem_append_right _ (mem_pinsAt hb e)))
        ⟨z.1, z.2.1⟩
      refine ⟨xs.length - (i + 1), by omega, i + 1, σ', H', μ', W1, done ++ ys, rest', rfl, hlt, ⟨C'.I.unpinned, C'.F.weak keepρ (by rw [C'.I.len, ← C.I.len]; exact C.F.len), C'.W, C'.st, C'.nd⟩, T.keep _ _ _ st3 fun b hb o e => (pin' b hb o e).1, fun b hb => ?_, by rw [← List.append_assoc]; exact a', t2, by rw [ez, List.append_assoc], (ex1.trans stp.1.ext).trans e'⟩
      obtain ⟨o, e, _⟩ := T.obj _ _ st3 b hb
      exact ⟨(pin' b hb o e).2, (fp1 b hb).2⟩
    cases b' with
    | false =>
      rw [if_neg Bool.false_ne_true] at u4
      cases u4
      rw [if_neg Bool.false_ne_true]
      exact fin (ws := []) C5 (by rw [List.append_nil]; exact a5) t5.ext
    | true =>
      rw [if_pos rfl] at u4
      rw [if_pos rfl]
      refine thnF (inn _ _ _ _ _ _ _ (A ++ done) _ _ (fun h hh j hj => ?_) C5 a5 u4 ?_) fun _ s6 ⟨σ6, H6, μ6, C6, a6, e6⟩ => fin (ws := []) C6 a6 (t5.ext.trans e6)
      · rw [bindT_keep v1 fun hm => hap h hh j hm hj]
        exact hnone h (List.mem_cons_of_mem _ hh) j hj
      · rw [ez] at hsz
        simp only [List.length_append] at hsz ⊢
        omega
  · have e : i = xs.length := by omega
    subst e
    rw [List.drop_length] at e1
    cases e1
    refine thnF (T.done X rfl rfl rfl (G.calm hh) _ pins s1 σ1 Hi (fun _ _ => False) C1.I fp1 st1 (wk.stops Hi (hext.trans ex1))) fun r s2 ⟨hr, I2⟩ => ?_
    subst hr
    rw [List.append_nil] at ez
    subst ez
    exact hR σ1 Hi μ1 s2 ⟨I2, C1.F, C1.W, C1.st, C1.nd⟩ a1 ex1
end
end Rx
end
section
set_option Elab.async false
set_option linter.all false
set_option maxRecDepth 100000
set_option maxHeartbeats 1000000
namespace Rx
open PySem PySem.Spec PyProof.Rows L2
section
variable {X : L2.Cx} {c : Ec} {D : Addr} {μs : List Addr} {Hs : Hp}
theorem inn_nil {kd : Kd} {leaf : Env → Wd → R (List PV)} (L : LfOk X c kd leaf) (hx : X.xe = fun _ _ => False) (hs : Hs D = none) (h0 : c.H0 D ≠ none) {scope : Scope} {pos : Pos} {ts : List Cl} {k : Nat} (hk : ts[k + 1]? = none) :
    InnOk X c D μs Hs kd leaf ts scope pos k [] := by
  intro pins σ H s ρ μ W A ys W' _ C a e hl
  unfold inner
  rw [hk]
  exact thn (emit_ok L hx hs h0 C a e hl) fun _ s' ⟨H', μ', h⟩ => ⟨σ, H', μ', h⟩
theorem inn_cons (G : Gd X c) (hh : c.hot = false) {kd : Kd} {leaf : Env → Wd → R (List PV)} (hx : X.xe = fun _ _ => False) {scope : Scope} {pos : Pos} {ts : List Cl} {g : Gn} {gs : List Gn} {k : Nat} (hk : ts[k + 1]? = some g.cl) (ok : GnOk X c g) (gi : GnIn X c g) (hap : ∀ h ∈ gs, ∀ i ∈ tgS g.t, i ∉ tgS h.t)
    (inn : InnOk X c D μs Hs kd leaf ts scope pos (k + 1) gs) : InnOk X c D μs Hs kd leaf ts scope pos k (g :: gs) := by
  intro pins σ H s ρ μ W A ys W' hnone C a e hl
  unfold inner
  rw [hk]
  obtain ⟨xs, W1, e1, e2⟩ := bind_okR (show (g.src ρ W).bind _ = .ok ys W' from e)
  obtain ⟨oD, hD, _⟩ := a.some
  have run := gi.src.run pins s σ H (fun J H1 => ∃ μ1, Stp μ μ1 H H1 ∧ WR X.K c.N H1 μ1 W1 ∧ WalkR X.K J xs H1) C.I ⟨ρ, μ, W, C.F, C.W, by rw [e1]; exact fun J H1 μ1 t w q => ⟨μ1, t, w, q⟩⟩
  rw [hx] at run
  refine wpAny_bind (thn run fun x s1 h1 => ?_)
  refine wpAny_bind (wpAny_standAt (wpAny_bind (wpAny_of_eq (gi.fold x) (wpAny_bind (wpAny_holding (thn h1 fun itv s2 h2 => ?_))))))
  obtain ⟨it, fp, tn, J, H1, rfl, I1, T, st1, f1, μ1, t1, w1, wk⟩ := h2
  have C1 := C.step hD I1 t1 w1
  have a1 := a.step t1 C.nd
  have loop := comp_one G hh hx (scope := scope) (pos := pos) hk ok hap inn (R' := fun r s' => match r with
      | .ok f => ∃ σ' H' μ', CS X c D μs Hs pins σ' H' s' ρ μ' W' ∧ Acc kd X.K D H' (A ++ ys) ∧ Ext H H'
      | .error e => False) hnone C1 a1 T st1 f1 wk (Ext.refl H1) e2 hl fun σ' H' μ' s' C' a' e' => ⟨σ', H', μ', C', a', t1.ext.trans e'⟩
  refine wpAny_bind (wpAny_runOwn ?_)
  rw [Around.mark_none]
  refine codeAny_mono (start_of kd hk loop (T.self X.A 0 _ _ _ st1 loop)) fun r s' hr => ?_
  cases r with
  | ok f => exact wpAny_pure hr
  | error e => exact hr.elim
theorem inn_all (G : Gd X c) (hh : c.hot = false) {kd : Kd} {leaf : Env → Wd → R (List PV)} (L : LfOk X c kd leaf) (hx : X.xe = fun _ _ => False) (hs : Hs D = none) (h0 : c.H0 D ≠ none) {scope : Scope} {pos : Pos} {ts : List Cl} :
    ∀ (gs : List Gn) (k : Nat), (∀ j, ts[k + 1 + j]? = (gs[j]?).map (·.cl)) → (∀ h ∈ gs, GnOk X c h ∧ GnIn X c h) → Apart gs → InnOk X c D μs Hs kd leaf ts scope pos k gs
  | [], k, hk, _, _ => inn_nil L hx hs h0 (hk 0)
  | g :: gs, k, hk, ok, ap => inn_cons G hh hx (hk 0) (ok g List.mem_cons_self).1 (ok g List.mem_cons_self).2 ap.1 (inn_all G hh L hx hs h0 gs (k + 1) (fun j => by
      have := hk (j + 1)
      rw [List.getElem?_cons_succ] at this
      rw [← this]
      congr 1
      omega) (fun h hh => ok h (List.mem_cons_of_mem _ hh)) ap.2)
end
/-- a block sees no exceptions -/
def cleanX : Env → Env
  | [] => []
  | some (.x _ _) :: r => none :: cleanX r
  | a :: r => a :: cleanX r
theorem cleanX_get : ∀ (ρ : Env) (i : Nat) (v : Val), getv (cleanX ρ) i = some v → getv ρ i = some v ∧ ∀ a b, v ≠ .x a b
  | [], i, v, h => by cases h
  | none :: r, 0, v, h => by cases h
  | some (.d p) :: r, 0, v, h => by cases h; exact ⟨rfl, fun _ _ z => nomatch z⟩
  | some (.o p) :: r, 0, v, h => by cases h; exact ⟨rfl, fun _ _ z => nomatch z⟩
  | some (.f p q) :: r, 0, v, h => by cases h; exact ⟨rfl, fun _ _ z => nomatch z⟩
  | some (.x p q) :: r, 0, v, h => by cases h
  | none :: r, i + 1, v, h => cleanX_get r i v h
  | some (.d p) :: r, i + 1, v, h => cleanX_get r i v h
  | some (.o p) :: r, i + 1, v, h => cleanX_get r i v h
  | some (.f p q) :: r, i + 1, v, h => cleanX_get r i v h
  | some (.x p q) :: r, i + 1, v, h => cleanX_get r i v h
theorem wipe_get : ∀ (ws : List Nat) (ρ : Env) (i : Nat) (v : Val), getv (Rx.wipe ρ ws) i = some v → getv ρ i = some v ∧ i ∉ ws
  | [], ρ, i, v, h => ⟨h, by simp⟩
  | w :: ws, ρ, i, v, h => by
    have h : getv (setv (Rx.wipe ρ ws) w none) i = some v := h
    by_cases e : w = i
    · subst e
      exact absurd (getv_setv_self _ _ _ _ h) nofun
    · rw [getv_setv_ne _ _ _ _ e] at h
      obtain ⟨h1, h2⟩ := wipe_get ws ρ i v h
      exact ⟨h1, fun m => by
        rcases List.mem_cons.mp m with z | z
        · exact e z.symm
        · exact h2 z⟩
def blkE (ρ : Env) (own : List Nat) : Env := Rx.wipe (cleanX ρ) own
theorem cleanX_len : ∀ ρ : Env, (cleanX ρ).length = ρ.length
  | [] => rfl
  | none :: r => by rw [cleanX, List.length_cons, List.length_cons, cleanX_len r]; exact nofun
  | some (.d p) :: r => by rw [cleanX, List.length_cons, List.length_cons, cleanX_len r]; exact nofun
  | some (.o p) :: r => by rw [cleanX, List.length_cons, List.length_cons, cleanX_len r]; exact nofun
  | some (.f p q) :: r => by rw [cleanX, List.length_cons, List.length_cons, cleanX_len r]; exact nofun
  | some (.x p q) :: r => by rw [cleanX, List.length_cons, List.length_cons, cleanX_len r]
theorem wipe_lenE (ρ : Env) : ∀ own : List Nat, (Rx.wipe ρ own).length = ρ.length
  | [] => rfl
  | i :: r => by rw [Rx.wipe, setv_len, wipe_lenE ρ r]
theorem blkE_len (ρ : Env) (own : List Nat) : (blkE ρ own).length = ρ.length := by rw [blkE, wipe_lenE, cleanX_len]
theorem wipe_lenS (σ : L2.St) (own : List Nat) : (L2.wipe σ own).length = σ.length := L2.wipe_length σ own
theorem FR.blk {K : PySem.W.Frag} {N : Nm} {H0 H0' H : Hp} {μ : List Addr} {pn : List (Addr × Obj)} {O : Nat → Bool} {σ : L2.St} {ρ : Env} {own : List Nat} (f : FR K N H0 H μ pn O σ ρ) (h : ∀ i x a, getv ρ i = some x → O i = true → σ[i]? = some (some (V.ref a)) → H0 a = none → (∃ o, H a = some o) → H0' a = none) :
    FR K N H0' H μ [] O (L2.wipe σ own) (blkE ρ own) := by
  refine ⟨fun i v e ho => ?_, fun i v e ho => ?_, fun i j a h1 h2 h3 h4 h5 h6 => ?_, by rw [blkE_len, wipe_lenS]; exact f.len⟩
  · obtain ⟨e1, hn⟩ := wipe_get own _ i v e
    obtain ⟨e2, nx⟩ := cleanX_get ρ i v e1
    obtain ⟨u, g1, g2⟩ := f.slot i v e2 ho
    refine ⟨u, by rw [wipe_out hn]; exact g1, ?_⟩
    cases v with
    | x a b => exact absurd rfl (nx a b)
    | _ => exact g2
  · obtain ⟨e1, hn⟩ := wipe_get own _ i v e
    obtain ⟨e2, nx⟩ := cleanX_get ρ i v e1
    obtain ⟨x, a, g1, g2, g3, g4, g5⟩ := f.own i v e2 ho
    exact ⟨x, a, g1, by rw [wipe_out hn]; exact g2, g3, g4, h i v a e2 ho g2 g5 (RepO.ex g3)⟩
  · cases q1 : getv (blkE ρ own) i with
    | none => exact absurd q1 h3
    | some v =>
      cases q2 : getv (blkE ρ own) j with
      | none => exact absurd q2 h4
      | some w =>
        obtain ⟨e1, n1⟩ := wipe_get own _ i v q1
        obtain ⟨e2, n2⟩ := wipe_get own _ j w q2
        rw [wipe_out n1] at h5
        rw [wipe_out n2] at h6
        exact f.apart i j a h1 h2 (by rw [(cleanX_get ρ i v e1).1]; exact nofun) (by rw [(cleanX_get ρ j w e2).1]; exact nofun) h5 h6
/-- what a block's rules must be, whatever the block's frame -/
def BlkR (X : L2.Cx) (c : Ec) (scope : Scope) (P : L2.Cx → Ec → Prop) : Prop :=
  ∀ (s : Shared) (H : Hp) (C : Addr) (cl : List (Str × Addr)) (fp : List Addr) (H0 : Hp), P (X.blk s H scope (compEnvC scope cl C X.env) fp) ⟨c.N, c.O, H0, fun _ _ _ _ => False, false, []⟩
end Rx
end
section
set_option Elab.async false
set_option linter.all false
set_option maxRecDepth 100000
set_option maxHeartbeats 1000000
namespace Rx
open PySem PySem.Spec PyProof.Rows L2
/-- what is made, at first -/
def Kd.acc : Kd → Sem Value
  | .lst _ => newList []
  | .dct _ _ => newDict
def Kd.ho : Kd → HO
  | .lst _ => .lst []
  | .dct _ _ => .dK []
def Kd.ob : Kd → Obj
  | .lst _ => { cls := .type "list", data := .seq ([] : List Value).toArray }
  | .dct _ _ => { cls := .type "dict", data := .dict #[] }
def noEx {α : Type} : R α → R α
  | .ex _ _ _ => .st
  | r => r
/-- the data made, the world -/
def compR (src : Env → Wd → R (List PV)) (leaf : Env → Wd → R (List PV)) (g : Gn) (gs : List Gn) (own : List Nat) (fin : List PV → Option PV) : Env → Wd → R Val := fun ρ W =>
  (src ρ W).bind fun xs w => (noEx (loopL (turnR leaf g gs (blkE ρ own)) xs w)).bind fun vs w => if fits vs.length then R.of ((fin vs).map .d) w else .st
def Kd.fin : Kd → List PV → Option PV
  | .lst _ => fun vs => some (.lst vs)
  | .dct _ _ => fun vs => (pairsO vs).map fun ps => .dct (dmerge [] ps)
theorem noEx_ok {α : Type} {r : R α} {a : α} {w : Wd} (h : noEx r = .ok a w) : r = .ok a w := by
  cases r <;> first | exact h | cases h
theorem mk_acc {kd : Kd} {M : Model} {A : Around} {E : Value → Shared → Prop} {s : Shared} {Q : Value → Shared → Prop} (h : Q (.ref s.heap.objs.size) { s with heap := s.heap.push kd.ob }) : wpAny M A kd.acc Q E s := by
  cases kd with
  | lst _ => exact wpAny_newObj_type h (by show 0 ≤ sizeLine; decide)
  | dct _ _ => exact wpAny_newObj_type h
section
variable {X : L2.Cx} {c : Ec} {pins : List (Addr × Obj)} {s : Shared} {σ : L2.St} {H : Hp} {Q : VK}
theorem comp_core (G : Gd X c) (hh : c.hot = false) {kd : Kd} {scope : Scope} {own : List (Str × Nat)} {pos pos' : Pos} {src leaf : Env → Wd → R (List PV)} {g : Gn} {gs : List Gn} {use : Option (Value → Sem Unit)} {Qf : Value → Shared → Prop}
    (I : Inv X pins σ H s) (hi : JI X c g.cl.tg g.cl.iter src) (ok : BlkOk X.N X.env.scope scope own) (hs : ∀ x, foldedSetIterable g.cl.iter X.env x = pure x)
    (b1 : BlkR X c scope fun X' c' => GnOk X' c' g) (b2 : ∀ h ∈ gs, BlkR X c scope fun X' c' => GnOk X' c' h ∧ GnIn X' c' h) (b3 : BlkR X c scope fun X' c' => LfOk X' c' kd leaf) (hap : Apart (g :: gs)) (hown : ∀ h ∈ g :: gs, ∀ i ∈ tgS h.t, i ∈ own.map (·.2))
    (h : tE X c .f (compR src leaf g gs (own.map (·.2)) kd.fin) σ H Q)
    (hRR : ∀ D C s' m H', Inv X pins σ H' s' → Q (.ref D) H' → s'.heap.Ns C m → FpOk X pins H' C → compPost (model X.prog X.w) X.A X.xe use Qf (.ref D) C (.ok .next) s') :
    wpAny (model X.prog X.w) X.A (comprehension (kd.ex (cls ((g :: gs).map (·.cl))) scope pos) scope X.env pos' kd.acc false (eval g.cl.iter X.env) use) Qf X.xe s := by
  have hfree : ∀ y ∈ scope.names, y.2 = .free → ∃ c, X.env.cells.lookup y.1 = some c := fun y hy e => by
    rcases ok.free y hy e with k | k
    · exact I.ok.has _ (.inl k)
    · exact I.ok.has _ (.inr k)
  obtain ⟨ρ, μ, W, hF, hW, hA⟩ := h
  have hQ : tI X c src σ H fun J H1 => ∃ xs W1 μ1, src ρ W = .ok xs W1 ∧ Stp μ μ1 H H1 ∧ WR X.K c.N H1 μ1 W1 ∧ WalkR X.K J xs H1 := by
    refine ⟨ρ, μ, W, hF, hW, ?_⟩
    cases e : src ρ W with
    | st => unfold compR at hA; rw [e] at hA; exact hA
    | ex k fs W1 => unfold compR at hA; rw [e] at hA; exact hA
    | ok xs W1 => exact fun J H1 μ1 t w q => ⟨xs, W1, μ1, rfl, t, w, q⟩
  have hcl : clausesOf (kd.ex (cls ((g :: gs).map (·.cl))) scope pos) = ⟨g.cl.tg, g.cl.iter, g.cl.ifs, 0⟩ :: cls (gs.map (·.cl)) := by cases kd <;> rfl
  refine wpAny_comprehension_free (use := use) hcl hs (closure_ok hfree) ok.kind (fun y hy e => by rw [ok.uniq y hy, e])
    (thn (hi.run pins s σ H _ I hQ) fun xv s1 hx => thn hx fun itv s2 h2 => ?_)
  obtain ⟨it, fp, tn, J, H2, e, I2, T, st2, f2, xs, W1, μ1, e1, t1, w1, wk⟩ := h2
  subst e
  refine mk_acc (newEnv_comp ?_)
  generalize hD : s2.heap.objs.size = D
  have hDn : H2 D = none := I2.hok.fresh (Nat.le_of_eq hD)
  -- the new thing
  generalize hs3 : ({ s2 with heap := s2.heap.push kd.ob } : Shared) = s3
  have h3 : s3.heap = s2.heap.push kd.ob := by rw [← hs3]
  have I3 : Inv X pins σ (upd H2 D kd.ho) s3 := by
    rw [← hs3]
    refine I2.laid (t' := s2.toks) (fun b o e => Heap.get?_push_of_some _ e) (Nat.le_of_eq hD) ?_
    rw [← hD]
    cases kd with
    | lst _ => exact ⟨Nat.zero_le _, [], 0, .nil, Heap.get?_push_size _ rfl⟩
    | dct _ _ => exact dk_empty s2.heap I2.big
  have sz : ∀ b ∈ fp, b < s2.heap.objs.size := fun b hb => by
    obtain ⟨o, e, _⟩ := T.obj _ _ st2 b hb
    exact Heap.lt_size e
  have f3 : ∀ b ∈ fp, FpOk X pins (upd H2 D kd.ho) b ∧ b < s3.heap.objs.size := fun b hb => by
    have hlt := sz b hb
    refine ⟨⟨?_, (f2 b hb).2⟩, by rw [h3, Heap.size_push]; exact Nat.lt_succ_of_lt hlt⟩
    rw [upd_ne (by rw [← hD]; exact Nat.ne_of_lt hlt)]
    exact (f2 b hb).1
  have st3 : tn 0 s3.heap := T.keep _ _ _ st2 fun b _ o e => by rw [h3]; exact Heap.get?_push_of_some _ e
  have I4 := block_start I3 ok G.nd f3
  have nfp : ∀ b ∈ fp, (upd H2 D kd.ho) b = none := fun b hb => (f3 b hb).1.1
  generalize hcc : cellsFrom (s3.heap.objs.size + 1) scope.names (cloFrom X.env.cells scope.names []) = cc at I4 ⊢
  have g1 := b1 s3 (upd H2 D kd.ho) s3.heap.objs.size cc fp (upd c.H0 D (.lst []))
  have g2 := fun h hh => b2 h hh s3 (upd H2 D kd.ho) s3.heap.objs.size cc fp (upd c.H0 D (.lst []))
  have g3 := b3 s3 (upd H2 D kd.ho) s3.heap.objs.size cc fp (upd c.H0 D (.lst []))
  show codeAny _ _ (.compStart (kd.ex (cls ((g :: gs).map (·.cl))) scope pos) 0 (.ref it) (.ref D) (compEnvC scope cc s3.heap.objs.size X.env)) (compPost (model X.prog X.w) X.A X.xe use Qf (.ref D) s3.heap.objs.size) { s3 with heap := pushCells (s3.heap.push { cls := .type "dict", data := .dict #[] }) scope.names }
  generalize hce : compEnvC scope cc s3.heap.objs.size X.env = ce at I4 g1 g2 g3 ⊢
  have cL : ce.locals = s3.heap.objs.size := by subst hce; rfl
  generalize hs4 : ({ s3 with heap := pushCells (s3.heap.push { cls := .type "dict", data := .dict #[] }) scope.names } : Shared) = s4 at I4 ⊢
  have st4 : tn 0 s4.heap := T.keep _ _ _ st3 fun b _ o e => by rw [← hs4]; exact pushCells_keeps _ _ _ _ (Heap.get?_push_of_some _ e)
  have GX : Gd (X.blk s3 (upd H2 D kd.ho) scope ce fp) ⟨c.N, c.O, upd c.H0 D (.lst []), fun _ _ _ _ => False, false, []⟩ := ⟨fun _ => G.calm hh, G.nd, fun p h => absurd h (by simp), G.hu, fun u s' ⟨_, _, _, _, _, _, _, _, _, _, _, _, _, _, _, _, z⟩ => z⟩
  have hDH : H D = none := t1.fresh hDn
  have hDm : D ∉ μ1 := fun z => w1.there D z hDn
  have t3 : Stp μ1 μ1 H2 (upd H2 D kd.ho) := Stp.new hDn
  have C0 : CS (X.blk s3 (upd H2 D kd.ho) scope ce fp) ⟨c.N, c.O, upd c.H0 D (.lst []), fun _ _ _ _ => False, false, []⟩ D μ H [] (L2.wipe σ (own.map (·.2))) (upd H2 D kd.ho) s4 (blkE ρ (own.map (·.2))) μ1 W1 := by
    refine ⟨I4, ?_, w1.new hDn, t1.trans t3, hDm⟩
    refine FR.blk (H0 := c.H0) ((hF.step t1 hW).step t3 w1) fun i x a e ho es h0 ho' => ?_
    obtain ⟨y, a', _, q2, q3, _, _⟩ := (hF.step t1 hW).own i x e ho
    rw [es] at q2
    cases q2
    obtain ⟨o, q⟩ := RepO.ex q3
    show upd c.H0 D (.lst []) a = none
    rw [upd_ne (ne_of_none q hDn)]
    exact h0
  have a0 : Acc kd X.K D (upd H2 D kd.ho) [] := by
    cases kd with
    | lst _ => exact ⟨[], upd_same, trivial⟩
    | dct _ _ => exact ⟨[], [], upd_same, rfl, trivial⟩
  have hA1 : Ans X.K c.N c.Wx (repV X c .f H) H μ σ ((noEx (loopL (turnR leaf g gs (blkE ρ (own.map (·.2)))) xs W1)).bind fun vs w => if fits vs.length then R.of ((kd.fin vs).map .d) w else .st) Q := by
    unfold compR at hA
    rw [e1] at hA
    exact hA
  cases el : noEx (loopL (turnR leaf g gs (blkE ρ (own.map (·.2)))) xs W1) with
  | st => rw [el] at hA1; exact hA1.elim
  | ex _ _ _ => cases q : loopL (turnR leaf g gs (blkE ρ (own.map (·.2)))) xs W1 <;> rw [q] at el <;> cases el
  | ok vs W2 =>
    rw [el, R.bind_ok] at hA1
    have el := noEx_ok el
    split at hA1
    · rename_i hf
      have hf := fits_le hf
      obtain ⟨v, e9, hA2⟩ := hA1.ofo
      obtain ⟨pz, e10, rfl⟩ := Option.map_eq_some_iff.mp e9
      have inn := inn_all GX rfl g3 rfl hDH (show upd c.H0 D (.lst []) D ≠ none by rw [upd_same]; exact nofun) (pos := pos) (scope := scope) (ts := (g :: gs).map (·.cl)) (μs := μ) gs 0 (fun j => by rw [show 0 + 1 + j = j + 1 by omega, List.map_cons, List.getElem?_cons_succ, List.getElem?_map]) g2 hap.2
      have loop := comp_one (R' := compPost (model X.prog X.w) X.A X.xe use Qf (.ref D) s3.heap.objs.size) GX rfl rfl (scope := scope) (pos := pos) (ts := (g :: gs).map (·.cl)) (k := 0) rfl g1 hap.1 inn (fun h hh i hi' => ?_) C0 a0 T st4 (fun b hb => ?_) wk t3.ext el (by simpa using hf) ?_
      · show codeAny _ _ (.compStart (kd.ex (cls ((g :: gs).map (·.cl))) scope pos) 0 (.ref it) (.ref D) ce) _ _
        exact start_of kd (g := g.cl) rfl loop (T.self X.A 0 _ _ _ st4 loop)
      · cases q : getv (blkE ρ (own.map (·.2))) i with
        | none => rfl
        | some v => exact absurd (hown h hh i hi') (wipe_get _ _ i v q).2
      · exact ⟨nfp b hb, (I4.ok.exf b hb).1, I4.ok.exfs b hb, .inl hb, fun x c e => (I4.ok.exf b hb).2 x c e, fun p hp => absurd (show p ∈ ([] : List (Addr × Obj)) ++ [] from hp) (by simp)⟩
      · intro σ6 H5 μ5 s6 C6 a6 _
        have I6 := C6.I
        have I7 : Inv X pins σ H5 s6 := I3.call' (ch := fp) I6.os I6.base I6.hok I6.bare fun b hb => ⟨(f3 b hb).1.2.2.2.1, (f3 b hb).1.2.1, (f3 b hb).1.2.2.2.2.1, (f3 b hb).1.2.2.2.2.2⟩
        have nC : H5 s3.heap.objs.size = none := by
          have z : H5 ce.locals = none := I6.free
          rw [cL] at z
          exact z
        obtain ⟨m, hn, _⟩ := I6.loc
        have hn : s6.heap.Ns ce.locals m := hn
        rw [cL] at hn
        refine hRR D s3.heap.objs.size s6 m H5 I7 (hA2 _ H5 μ5 C6.st C6.W ?_) hn (I3.fpOk (Nat.le_refl _) nC)
        rw [List.nil_append] at a6
        cases kd with
        | lst _ =>
          cases e10
          obtain ⟨us, q1, q2⟩ := a6
          exact ⟨D, rfl, hDH, C6.nd, us, q1, q2, hf⟩
        | dct _ _ =>
          obtain ⟨ps, q0, rfl⟩ := Option.map_eq_some_iff.mp (show (pairsO vs).map (fun ps => PV.dct (dmerge [] ps)) = some pz from e10)
          obtain ⟨ks, prs, q1, q2, q3⟩ := a6
          rw [q0] at q2
          cases q2
          have l1 := length_dmerge ps []
          have l2 := pairsO_len q0
          rw [List.length_nil] at l1
          exact ⟨D, rfl, hDH, C6.nd, ks, q1, q3, by omega⟩
    · exact hA1.elim

/-- a comprehension as a value -/
theorem je_comp (G : Gd X c) (hh : c.hot = false) {kd : Kd} {scope : Scope} {own : List (Str × Nat)} {pos : Pos} {src leaf : Env → Wd → R (List PV)} {g : Gn} {gs : List Gn}
    (hi : JI X c g.cl.tg g.cl.iter src) (ok : BlkOk X.N X.env.scope scope own) (hs : ∀ x, foldedSetIterable g.cl.iter X.env x = pure x)
    (b1 : BlkR X c scope fun X' c' => GnOk X' c' g) (b2 : ∀ h ∈ gs, BlkR X c scope fun X' c' => GnOk X' c' h ∧ GnIn X' c' h) (b3 : BlkR X c scope fun X' c' => LfOk X' c' kd leaf) (hap : Apart (g :: gs)) (hown : ∀ h ∈ g :: gs, ∀ i ∈ tgS h.t, i ∈ own.map (·.2)) :
    JE X c .f (kd.ex (cls ((g :: gs).map (·.cl))) scope pos) (compR src leaf g gs (own.map (·.2)) kd.fin) := by
  refine ⟨fun pins s σ H Q I h => ?_⟩
  have core := comp_core G hh (pos := pos) (pos' := firstIterPos (cls ((g :: gs).map (·.cl))) pos) (use := none) (Qf := EP X pins σ Q) I hi ok hs b1 b2 b3 hap hown h fun D C s' m H' I' q hn f => ⟨m, hn, fun h'' sb => by
    obtain ⟨f0, f1, f2, f3, f4, f5⟩ := f
    exact ⟨.ref D, H', I'.turned (t' := s'.toks) (fun b o hb e => (sb.2 b hb).trans e) f0 f1 f3 f4 f5, rfl, q⟩⟩
  cases kd with
  | lst e => rw [show Kd.ex (.lst e) (cls ((g :: gs).map (·.cl))) scope pos = .ListComp e (cls ((g :: gs).map (·.cl))) scope pos from rfl, eval_ListComp]; exact core
  | dct a b => rw [show Kd.ex (.dct a b) (cls ((g :: gs).map (·.cl))) scope pos = .DictComp a b (cls ((g :: gs).map (·.cl))) scope pos from rfl, arm_eval_DictComp]; exact core
end
end Rx
end
section
set_option Elab.async false
set_option linter.all false
set_option maxRecDepth 100000
set_option maxHeartbeats 1000000
/-! Rx S: statements. -/
namespace Rx
open PySem PySem.Spec PyProof.Rows L2
/-- what a body's statements lean on: the world at its start; what stands own where an exception is caught; what stands own behind a break -/
structure Sx where
  μ0 : List Addr
  tr : Option (Nat → Bool)
  Ob : Nat → Bool
def OutOk (X : L2.Cx) (c : Ec) (x : Sx) (O' : Nat → Bool) (Hb : Hp) (D : Ends) : Out → Prop
  | .nx ρ W => ∀ σ H μ, FR X.K c.N c.H0 H μ c.pn O' σ ρ → WR X.K c.N H μ W → Stp x.μ0 μ c.H0 H → Ext Hb H → D.nx σ H
  | .rt v W => ∀ u H μ, WR X.K c.N H μ W → Stp x.μ0 μ c.H0 H → Ext Hb H → RepV X.K c.N H μ c.pn v u → D.rt u H
  | .br ρ W => ∀ σ H μ, FR X.K c.N c.H0 H μ c.pn x.Ob σ ρ → WR X.K c.N H μ W → Stp x.μ0 μ c.H0 H → Ext Hb H → D.bk σ H
  | .ex k fs ρ W => ∀ d vs σ H μ, (∀ Oe, x.tr = some Oe → FR X.K c.N c.H0 H μ c.pn Oe σ ρ) → WR X.K c.N H μ W → Stp x.μ0 μ c.H0 H → Ext Hb H → H d = some (.xd ((c.N.xfl k).zip vs)) → RepL X.K H fs vs → (c.N.xfl k).length = fs.length → d ∉ μ →
      c.Wx (.ref (c.N.cls k)) (some d) σ H
  | .st => False
def tS (X : L2.Cx) (c : Ec) (x : Sx) (O' : Nat → Bool) (r : Env → Wd → Out) : TS := fun D σ H =>
  ∃ ρ μ W, FR X.K c.N c.H0 H μ c.pn c.O σ ρ ∧ WR X.K c.N H μ W ∧ Stp x.μ0 μ c.H0 H ∧ OutOk X c x O' H D (r ρ W)
def JS (X : L2.Cx) (c : Ec) (x : Sx) (O' : Nat → Bool) (st : Stmt) (r : Env → Wd → Out) : Prop := PS X st (tS X c x O' r)
def JSs (X : L2.Cx) (c : Ec) (x : Sx) (O' : Nat → Bool) (st : List Stmt) (r : Env → Wd → Out) : Prop := PSs X st (tS X c x O' r)
theorem ps_mono {X : L2.Cx} {e : Stmt} {t t' : TS} (h : PS X e t) (i : ∀ D σ H, t' D σ H → t D σ H) : PS X e t' := ⟨fun pins s σ H D I q => h.run pins s σ H D I (i D σ H q)⟩
theorem pss_mono {X : L2.Cx} {e : List Stmt} {t t' : TS} (h : PSs X e t) (i : ∀ D σ H, t' D σ H → t D σ H) : PSs X e t' := ⟨fun pins s σ H D I q => h.run pins s σ H D I (i D σ H q)⟩
section
variable {X : L2.Cx} {c : Ec} {x : Sx} {O' : Nat → Bool} {Hb : Hp} {D : Ends}
theorem OutOk.from {o : Out} {H : Hp} (h : OutOk X c x O' Hb D o) (e : Ext Hb H) : OutOk X c x O' H D o := by
  cases o with
  | nx ρ W => exact fun σ H' μ f w s e' => h σ H' μ f w s (e.trans e')
  | rt v W => exact fun u H' μ w s e' r => h u H' μ w s (e.trans e') r
  | br ρ W => exact fun σ H' μ f w s e' => h σ H' μ f w s (e.trans e')
  | ex k fs ρ W => exact fun d vs σ H' μ f w s e' => h d vs σ H' μ f w s (e.trans e')
  | st => exact h
/-- an expression, then what follows -/
theorem OutOk.go {α β : Type} {rep : Hp → List Addr → α → β → Prop} {r : R α} {k : α → Wd → Out} {H : Hp} {μ : List Addr} {σ : L2.St} {ρ : Env} {W : Wd} {G : β → Hp → Prop} (htr : ∀ Oe, x.tr = some Oe → Oe = c.O)
    (hF : FR X.K c.N c.H0 H μ c.pn c.O σ ρ) (hW : WR X.K c.N H μ W) (hS : Stp x.μ0 μ c.H0 H) (h : OutOk X c x O' H D (r.go ρ k))
    (g : ∀ a W1, ∀ b H1 μ1, r = .ok a W1 → FR X.K c.N c.H0 H1 μ1 c.pn c.O σ ρ → Stp μ μ1 H H1 → WR X.K c.N H1 μ1 W1 → Stp x.μ0 μ1 c.H0 H1 → rep H1 μ1 a b → OutOk X c x O' H1 D (k a W1) → G b H1) :
    Ans X.K c.N c.Wx rep H μ σ r G := by
  cases r with
  | st => exact h
  | ex k fs W1 => exact fun d vs H' μ' s w e1 e2 e3 e4 => h d vs σ H' μ' (fun Oe he => by rw [htr Oe he]; exact hF.step s hW) w (hS.trans s) s.ext e1 e2 e3 e4
  | ok a W1 => exact fun b H1 μ1 s w q => g a W1 b H1 μ1 rfl (hF.step s hW) s w (hS.trans s) q (OutOk.from (show OutOk X c x O' H D (k a W1) from h) s.ext)
theorem OutOk.goD {fl : Fl} {Hs : Hp} {r : R Val} {k : PV → Wd → Out} {H : Hp} {μ : List Addr} {σ : L2.St} {ρ : Env} {W : Wd} {G : V → Hp → Prop} (htr : ∀ Oe, x.tr = some Oe → Oe = c.O)
    (hF : FR X.K c.N c.H0 H μ c.pn c.O σ ρ) (hW : WR X.K c.N H μ W) (hS : Stp x.μ0 μ c.H0 H) (h : OutOk X c x O' H D ((dat r).go ρ k))
    (g : ∀ a W1, ∀ b H1 μ1, r = .ok (.d a) W1 → FR X.K c.N c.H0 H1 μ1 c.pn c.O σ ρ → Stp μ μ1 H H1 → WR X.K c.N H1 μ1 W1 → Stp x.μ0 μ1 c.H0 H1 → RepF X.K Hs fl H1 μ1 a b → OutOk X c x O' H1 D (k a W1) → G b H1) :
    Ans X.K c.N c.Wx (repV X c fl Hs) H μ σ r G := by
  cases r with
  | st => exact h
  | ex k fs W1 => exact fun d vs H' μ' s w e1 e2 e3 e4 => h d vs σ H' μ' (fun Oe he => by rw [htr Oe he]; exact hF.step s hW) w (hS.trans s) s.ext e1 e2 e3 e4
  | ok a W1 =>
    cases a with
    | d p => exact fun b H1 μ1 s w q => g p W1 b H1 μ1 rfl (hF.step s hW) s w (hS.trans s) q (OutOk.from (show OutOk X c x O' H D (k p W1) from h) s.ext)
    | _ => exact (show False from h).elim
/-! ### blocks -/
theorem jss_nil (hO : O' = c.O) : JSs X c x O' [] (fun ρ W => .nx ρ W) := by
  subst hO
  exact pss_mono pss_nil fun D σ H ⟨ρ, μ, W, hF, hW, hS, h⟩ => h σ H μ hF hW hS (Ext.refl H)
theorem jss_cons {st : Stmt} {rest : List Stmt} {O1 : Nat → Bool} {r k : Env → Wd → Out} (h1 : JS X c x O1 st r) (h2 : JSs X { c with O := O1 } x O' rest k) : JSs X c x O' (st :: rest) (fun ρ W => (r ρ W).then k) := by
  refine pss_mono (pss_cons h1 h2) fun D σ H ⟨ρ, μ, W, hF, hW, hS, h⟩ => ⟨ρ, μ, W, hF, hW, hS, ?_⟩
  have h : OutOk X c x O' H D ((r ρ W).then k) := h
  cases e : r ρ W with
  | nx ρ1 W1 =>
    rw [e] at h
    exact fun σ1 H1 μ1 f w s ex => ⟨ρ1, μ1, W1, f, w, s, OutOk.from (show OutOk X c x O' H D (k ρ1 W1) from h) ex⟩
  | rt v W1 => rw [e] at h; exact h
  | br ρ1 W1 => rw [e] at h; exact h
  | ex k' fs ρ1 W1 => rw [e] at h; exact h
  | st => rw [e] at h; exact h
/-! ### statements -/
variable {e : Expr} {re : Env → Wd → R Val} {pos : Pos}
theorem js_pass : JS X c x c.O (.Pass pos) (fun ρ W => .nx ρ W) :=
  ps_mono ps_pass fun D σ H ⟨ρ, μ, W, hF, hW, hS, h⟩ => h σ H μ hF hW hS (Ext.refl H)
theorem js_brk (hO : x.Ob = c.O) : JS X c x O' (.Break pos) (fun ρ W => .br ρ W) :=
  ps_mono ps_break fun D σ H ⟨ρ, μ, W, hF, hW, hS, h⟩ => h σ H μ (by rw [hO]; exact hF) hW hS (Ext.refl H)
theorem js_ret (htr : ∀ Oe, x.tr = some Oe → Oe = c.O) (he : JE X c .z e re) : JS X c x O' (.Return (some e) pos) (fun ρ W => (re ρ W).go ρ fun v w => .rt v w) :=
  ps_mono (ps_ret he) fun D σ H ⟨ρ, μ, W, hF, hW, hS, h⟩ => ⟨ρ, μ, W, hF, hW, h.go htr hF hW hS fun a W1 b H1 μ1 _ _ _ w s q h1 => h1 b H1 μ1 w s (Ext.refl H1) (repV_z q)⟩
/-- what a statement's expression is stored by: not by an exchange of stores -/
def plainRhs : Expr → Bool
  | .ListComp _ _ _ _ => false
  | .SetComp _ _ _ _ => false
  | .DictComp _ _ _ _ _ => false
  | _ => true
theorem swaps_no {e : Expr} {t : Option Expr} {l : Nat} {env : PySem.Env} (h : plainRhs e = true) : swapsWith e t l env = pure false := by
  cases e <;> first | rfl | cases h
theorem js_set (G : Gd X c) (htr : ∀ Oe, x.tr = some Oe → Oe = c.O) {i : Nat} {n : Str} {pos' : Pos} (hi : X.N[i]? = some n) (hx : Loc X.env.scope n) (hf : X.fn n = true ∨ X.env.scope.names.lookup n = some .local) (ho : c.O i = false) (hs : swapsWith e (some (.Name n pos')) pos.line X.env = pure false) (he : JE X c .z e re) :
    JS X c x c.O (.Assign [.Name n pos'] e pos) (fun ρ W => (re ρ W).go ρ fun v w => .nx (setv ρ i (some v)) w) := by
  refine ⟨fun pins s σ H D I ⟨ρ, μ, W, hF, hW, hS, h⟩ => (ps_set G.nd hi hx he hs hf).run pins s σ H D I ⟨ρ, μ, W, hF, hW, h.go htr hF hW hS fun a W1 b H1 μ1 _ f _ w s q h1 => ?_⟩⟩
  exact h1 _ H1 μ1 (f.set (len_lt I.len hi) ho (repV_z q)) w s (Ext.refl H1)
theorem js_expr (htr : ∀ Oe, x.tr = some Oe → Oe = c.O) (hs : plainRhs e = true) (he : JE X c .z e re) : JS X c x c.O (.Expr e pos) (fun ρ W => (re ρ W).go ρ fun _ w => .nx ρ w) :=
  ps_mono (ps_expr he (swaps_no hs)) fun D σ H ⟨ρ, μ, W, hF, hW, hS, h⟩ => ⟨ρ, μ, W, hF, hW, h.go htr hF hW hS fun a W1 b H1 μ1 _ f _ w s q h1 => h1 σ H1 μ1 f w s (Ext.refl H1)⟩
theorem js_if {t : Expr} {rt : Env → Wd → R Val} {a b : List Stmt} {ra rb : Env → Wd → Out} (htr : ∀ Oe, x.tr = some Oe → Oe = c.O) (ht : JT X c t (tst rt)) (ha : JSs X c x O' a ra) (hb : JSs X c x O' b rb) :
    JS X c x O' (.If t a b pos) (fun ρ W => (dat (rt ρ W)).go ρ fun v w => if truth v then ra ρ w else rb ρ w) := by
  refine ps_mono (ps_if ht ha hb) fun D σ H ⟨ρ, μ, W, hF, hW, hS, h⟩ => ⟨ρ, μ, W, hF, hW, ?_⟩
  have h : OutOk X c x O' H D ((dat (rt ρ W)).go ρ fun v w => if truth v then ra ρ w else rb ρ w) := h
  cases e : rt ρ W with
  | st => rw [e] at h; unfold tst; rw [e]; exact h
  | ex k fs W1 =>
    rw [e] at h
    unfold tst
    rw [e]
    exact fun d vs H' μ' s w e1 e2 e3 e4 => h d vs σ H' μ' (fun Oe he => by rw [htr Oe he]; exact hF.step s hW) w (hS.trans s) s.ext e1 e2 e3 e4
  | ok v W1 =>
    rw [e] at h
    unfold tst
    rw [e]
    cases v with
    | d p =>
      have h : OutOk X c x O' H D (if truth p then ra ρ W1 else rb ρ W1) := h
      intro k H1 μ1 s w q
      have q : k = truth p := q
      rw [← q] at h
      cases k with
      | true => exact ⟨ρ, μ1, W1, hF.step s hW, w, hS.trans s, OutOk.from h s.ext⟩
      | false => exact ⟨ρ, μ1, W1, hF.step s hW, w, hS.trans s, OutOk.from h s.ext⟩
    | _ => exact (show False from h).elim

/-! ### loops -/
def forR (src : Env → Wd → R (List PV)) (t : Tg) (rb : Env → Wd → Out) : Env → Wd → Out := fun ρ W => (src ρ W).go ρ fun xs w => forL (fun x ρ w => match bindT ρ t x with | some ρ => rb ρ w | none => .st) xs ρ w
theorem js_for (G : Gd X c) (hh : c.hot = false) (hp : PassesOwn (model X.prog X.w) X.A X.env X.xe) (htr : ∀ Oe, x.tr = some Oe → Oe = c.O) {tg iter : Expr} {body : List Stmt} {src : Env → Wd → R (List PV)} {t : Tg} {rb : Env → Wd → Out}
    (hi : JI X c tg iter src) (hg : JG X c tg t) (hb : JSs X c { x with Ob := c.O } c.O body rb) (hs : ∀ y, foldedSetIterable iter X.env y = pure y) : JS X c x c.O (.For tg iter body [] pos) (forR src t rb) := by
  refine ps_mono (ps_for hp (G.calm hh) hi hg hb hs) fun D σ H ⟨ρ, μ, W, hF, hW, hS, h⟩ => ⟨ρ, μ, W, hF, hW, ?_⟩
  refine OutOk.go (rep := fun H1 μ1 xs J => WalkR X.K J xs H1) htr hF hW hS (show OutOk X c x c.O H D ((src ρ W).go ρ _) from h) fun xs W1 J H1 μ1 _ f1 _ w1 s1 wk h1 => ?_
  refine ⟨fun i m σ' H' => m = xs.length - i ∧ i ≤ xs.length ∧ ∃ ρ' μ' W', FR X.K c.N c.H0 H' μ' c.pn c.O σ' ρ' ∧ WR X.K c.N H' μ' W' ∧ Stp x.μ0 μ' c.H0 H' ∧ Ext H1 H' ∧
    OutOk X c x c.O H' D (forL (fun x ρ w => match bindT ρ t x with | some ρ => rb ρ w | none => .st) (xs.drop i) ρ' W'), ⟨xs.length, by simp, Nat.zero_le _, ρ, μ1, W1, f1, w1, s1, Ext.refl H1, by rw [List.drop_zero]; exact h1⟩, ?_⟩
  rintro i m σ2 H2 ⟨rfl, hi', ρ2, μ2, W2, f2, w2, s2, ex2, h2⟩
  by_cases hlt : i < xs.length
  · refine .inr ⟨wk.goes i H2 hlt ex2, fun σ' H' => ∃ ρ' μ' W', FR X.K c.N c.H0 H' μ' c.pn c.O σ' ρ' ∧ WR X.K c.N H' μ' W' ∧ Stp x.μ0 μ' c.H0 H' ∧ Ext H1 H' ∧
        OutOk X c x c.O H' D (forL (fun x ρ w => match bindT ρ t x with | some ρ => rb ρ w | none => .st) (xs.drop (i + 1)) ρ' W'), fun σ' H' q => ⟨xs.length - (i + 1), by omega, rfl, hlt, q⟩, fun v H3 y => ?_⟩
    obtain ⟨px, hx1, hrep, hH3⟩ := wk.yields i H2 v H3 hlt ex2 y
    rw [List.getElem?_eq_getElem hlt] at hx1
    cases hx1
    have stp : Stp μ2 μ2 H2 H3 ∧ WR X.K c.N H3 μ2 W2 := by
      rcases hH3 with rfl | ⟨Tt, us, hT, rfl⟩
      · exact ⟨Stp.refl _ _, w2⟩
      · exact ⟨Stp.new hT, w2.new hT⟩
    rw [List.drop_eq_getElem_cons hlt, forL] at h2
    have f3 := f2.step stp.1 w2
    cases eb : bindT ρ2 t xs[i] with
    | none => rw [eb] at h2; exact h2.elim
    | some ρ3 =>
      rw [eb] at h2
      refine ⟨xs[i], ρ2, μ2, W2, ρ3, f3, stp.2, hrep, eb, fun σ' f => ⟨ρ3, μ2, W2, f, stp.2, s2.trans stp.1, ?_⟩⟩
      have h2 := OutOk.from h2 stp.1.ext
      simp only at h2
      cases er : rb ρ3 W2 with
      | nx ρ4 W4 =>
        rw [er] at h2
        exact fun σ4 H4 μ4 f4 w4 s4 e4 => ⟨ρ4, μ4, W4, f4, w4, s4, (ex2.trans stp.1.ext).trans e4, OutOk.from h2 e4⟩
      | br ρ4 W4 =>
        rw [er] at h2
        exact fun σ4 H4 μ4 f4 w4 s4 e4 => h2 σ4 H4 μ4 f4 w4 s4 e4
      | rt v W4 => rw [er] at h2; exact h2
      | ex k fs ρ4 W4 => rw [er] at h2; exact h2
      | st => rw [er] at h2; exact h2.elim
  · have e : i = xs.length := by omega
    subst e
    rw [List.drop_length] at h2
    exact .inl ⟨wk.stops H2 ex2, h2 σ2 H2 μ2 f2 w2 s2 (Ext.refl H2)⟩
theorem js_while (hp : PassesOwn (model X.prog X.w) X.A X.env X.xe) (htr : ∀ Oe, x.tr = some Oe → Oe = c.O) {t : Expr} {body : List Stmt} {rt : Env → Wd → R Val} {rb : Env → Wd → Out} {n : Nat}
    (ht : JT X c t (tst rt)) (hb : JSs X c { x with Ob := c.O } c.O body rb) : JS X c x c.O (.While t body [] pos) (fun ρ W => whileL (tst rt) rb n ρ W) := by
  refine ps_mono (ps_while hp ht hb) fun D σ H ⟨ρ, μ, W, hF, hW, hS, h⟩ => ?_
  refine ⟨fun m σ' H' => ∃ ρ' μ' W', FR X.K c.N c.H0 H' μ' c.pn c.O σ' ρ' ∧ WR X.K c.N H' μ' W' ∧ Stp x.μ0 μ' c.H0 H' ∧ OutOk X c x c.O H' D (whileL (tst rt) rb m ρ' W'), ⟨n, ρ, μ, W, hF, hW, hS, h⟩, ?_⟩
  rintro m σ2 H2 ⟨ρ2, μ2, W2, f2, w2, s2, h2⟩
  cases m with
  | zero => exact h2.elim
  | succ m =>
    refine ⟨ρ2, μ2, W2, f2, w2, ?_⟩
    refine OutOk.go (rep := fun _ _ a b => b = a) htr f2 w2 s2 (show OutOk X c x c.O H2 D ((tst rt ρ2 W2).go ρ2 _) from h2) fun b W3 b' H3 μ3 _ f3 _ w3 s3 eb h3 => ?_
    subst eb
    cases b' with
    | false => exact h3 σ2 H3 μ3 f3 w3 s3 (Ext.refl H3)
    | true =>
      rw [if_pos rfl]
      refine ⟨fun σ' H' => ∃ ρ' μ' W', FR X.K c.N c.H0 H' μ' c.pn c.O σ' ρ' ∧ WR X.K c.N H' μ' W' ∧ Stp x.μ0 μ' c.H0 H' ∧ OutOk X c x c.O H' D (whileL (tst rt) rb m ρ' W'), fun σ' H' q => ⟨m, Nat.lt_succ_self m, q⟩, ρ2, μ3, W3, f3, w3, s3, ?_⟩
      rw [if_pos rfl] at h3
      cases er : rb ρ2 W3 with
      | nx ρ4 W4 =>
        rw [er] at h3
        exact fun σ4 H4 μ4 f4 w4 s4 e4 => ⟨ρ4, μ4, W4, f4, w4, s4, OutOk.from h3 e4⟩
      | br ρ4 W4 =>
        rw [er] at h3
        exact fun σ4 H4 μ4 f4 w4 s4 e4 => h3 σ4 H4 μ4 f4 w4 s4 e4
      | rt v W4 => rw [er] at h3; exact h3
      | ex k fs ρ4 W4 => rw [er] at h3; exact h3
      | st => rw [er] at h3; exact h3.elim
end
end Rx
end
section
set_option Elab.async false
set_option linter.all false
set_option maxRecDepth 100000
set_option maxHeartbeats 1000000
/-! Rx own: local lists and dicts that are changed in place. -/
namespace Rx
open PySem PySem.Spec PyProof.Rows L2
section
variable {K : PySem.W.Frag} {N : Nm} {H0 H H' : Hp} {μ : List Addr} {pn : List (Addr × Obj)} {O : Nat → Bool} {σ : L2.St} {ρ : Env} {W : Wd}
/-- what is known by one name is a list, a dict -/
theorem RepO.mt {x : PV} {a : Addr} (h : RepO K H x a) : (∃ vs, H a = some (.lst vs)) ∨ ∃ ks, H a = some (.dK ks) := by
  cases x with
  | lst xs => obtain ⟨vs, e, _⟩ := h; exact .inl ⟨vs, e⟩
  | dct xs => obtain ⟨vs, e, _⟩ := h; exact .inr ⟨vs, e⟩
  | _ => exact h.elim
theorem ext_own {a : Addr} {o : HO} (m : (∃ vs, H a = some (.lst vs)) ∨ ∃ ks, H a = some (.dK ks)) : Ext H (upd H a o) := by
  refine ⟨fun b ys q => ?_, fun b o' u q => ?_⟩
  · rw [upd_ne (fun z => by rw [z] at q; rcases m with ⟨_, e⟩ | ⟨_, e⟩ <;> rw [e] at q <;> cases q)]; exact q
  · rw [upd_ne (fun z => by rw [z] at q; rcases m with ⟨_, e⟩ | ⟨_, e⟩ <;> rw [e] at q <;> cases q)]; exact q
theorem RepV.upd {a : Addr} {o : HO} (m : (∃ vs, H a = some (.lst vs)) ∨ ∃ ks, H a = some (.dK ks)) : ∀ {x : Val} {v : V}, RepV K N H μ pn x v → RepV K N (L2.upd H a o) μ pn x v
  | .d x, v, h => Rep.mono (ext_own m) x v h
  | .o n, v, h => h
  | .x c fs, v, ⟨b, oe, d, vs, h1, h2, h3, h4, h5, h6, h7⟩ => ⟨b, oe, d, vs, h1, h2, h3, h4, by
      rw [upd_ne (fun z => by rw [z] at h5; rcases m with ⟨_, e⟩ | ⟨_, e⟩ <;> rw [e] at h5 <;> cases h5)]; exact h5, RepL.mono (ext_own m) fs vs h6, h7⟩
  | .f _ _, _, h => h
/-- an own thing is changed -/
theorem FR.upd (f : FR K N H0 H μ pn O σ ρ) {i : Nat} {a : Addr} {p x' : PV} {o : HO} (ho : O i = true) (hi : getv ρ i = some (.d p)) (hs : σ[i]? = some (some (.ref a))) (q0 : RepO K H p a) (hm : a ∉ μ) (h0 : H0 a = none)
    (q : RepO K (L2.upd H a o) x' a) : FR K N H0 (L2.upd H a o) μ pn O σ (setv ρ i (some (.d x'))) := by
  have m := q0.mt
  have nn : ∀ j v, getv (setv ρ i (some (.d x'))) j = some v → j ≠ i → getv ρ j = some v := fun j v h hj => by
    rw [getv_setv_ne ρ i j _ (fun e => hj e.symm)] at h; exact h
  refine ⟨fun j v h h2 => ?_, fun j v h h2 => ?_, fun j k b h1 h2 h3 h4 => ?_, by rw [setv_len]; exact f.len⟩
  · have e : j ≠ i := fun e => by rw [e, ho] at h2; cases h2
    obtain ⟨u, e1, r⟩ := f.slot j v (nn j v h e) h2
    exact ⟨u, e1, r.upd m⟩
  · by_cases e : j = i
    · subst e
      cases getv_setv_self ρ j _ _ h
      exact ⟨x', a, rfl, hs, q, hm, h0⟩
    · obtain ⟨y, b, e1, e2, r, hm', h0'⟩ := f.own j v (nn j v h e) h2
      have hab : b ≠ a := fun z => e (f.apart j i a h2 ho (by rw [nn j v h e]; exact nofun) (by rw [hi]; exact nofun) (by rw [← z]; exact e2) hs)
      exact ⟨y, b, e1, e2, RepO.mono (ext_own m) (fun o' z => by rw [upd_ne hab]; exact z) r, hm', h0'⟩
  · refine f.apart j k b h1 h2 ?_ ?_
    · by_cases e : j = i
      · rw [e, hi]; exact nofun
      · rw [getv_setv_ne ρ i j _ (fun z => e z.symm)] at h3; exact h3
    · by_cases e : k = i
      · rw [e, hi]; exact nofun
      · rw [getv_setv_ne ρ i k _ (fun z => e z.symm)] at h4; exact h4
theorem WR.upd (w : WR K N H μ W) {a : Addr} {o : HO} {p : PV} (q0 : RepO K H p a) (hm : a ∉ μ) : WR K N (L2.upd H a o) μ W :=
  w.keep (fun b hb => upd_ne (fun z => hm (z ▸ hb))) (ext_own q0.mt)
theorem Stp.upd {μ0 : List Addr} (s : Stp μ0 μ H0 H) {a : Addr} {o : HO} {p : PV} (q0 : RepO K H p a) (h0 : H0 a = none) : Stp μ0 μ H0 (L2.upd H a o) := by
  have ne : ∀ b, H0 b ≠ none → b ≠ a := fun b h z => h (z ▸ h0)
  refine ⟨fun b o' h hm => ?_, ⟨fun b xs h => ?_, fun b o' u h => ?_⟩, fun b hm h => ?_, s.more⟩
  · rw [upd_ne (ne b (by rw [h]; exact nofun))]; exact s.keep b o' h hm
  · rw [upd_ne (ne b (by rw [h]; exact nofun))]; exact s.ext.tup b xs h
  · rw [upd_ne (ne b (by rw [h]; exact nofun))]; exact s.ext.frz b o' u h
  · rw [upd_ne (ne b h)]; exact s.wld b hm h
/-- a new thing comes to a slot for own things -/
theorem FR.setO (f : FR K N H0 H μ pn O σ ρ) {O' : Nat → Bool} {i : Nat} {a : Addr} {x : PV} (hi : i < σ.length) (hO : ∀ j, j ≠ i → O' j = O j) (ho : O' i = true) (q : RepO K H x a) (hm : a ∉ μ) (h0 : H0 a = none)
    (hn : ∀ j v, getv ρ j = some v → O j = true → j ≠ i → σ[j]? ≠ some (some (V.ref a))) : FR K N H0 H μ pn O' (σ.set i (some (.ref a))) (setv ρ i (some (.d x))) := by
  have nn : ∀ j v, getv (setv ρ i (some (.d x))) j = some v → j ≠ i → getv ρ j = some v := fun j v h hj => by
    rw [getv_setv_ne ρ i j _ (fun e => hj e.symm)] at h; exact h
  have me : (σ.set i (some (V.ref a)))[i]? = some (some (V.ref a)) := by rw [List.getElem?_set_self hi]
  have ne : ∀ j, j ≠ i → (σ.set i (some (V.ref a)))[j]? = σ[j]? := fun j hj => by rw [List.getElem?_set_ne (fun z => hj z.symm)]
  refine ⟨fun j v h h2 => ?_, fun j v h h2 => ?_, fun j k b h1 h2 h3 h4 h5 h6 => ?_, by rw [setv_len, List.length_set]; exact f.len⟩
  · have e : j ≠ i := fun e => by rw [e, ho] at h2; cases h2
    rw [hO j e] at h2
    obtain ⟨u, e1, r⟩ := f.slot j v (nn j v h e) h2
    exact ⟨u, by rw [ne j e]; exact e1, r⟩
  · by_cases e : j = i
    · subst e
      cases getv_setv_self ρ j _ _ h
      exact ⟨x, a, rfl, me, q, hm, h0⟩
    · rw [hO j e] at h2
      obtain ⟨y, b, e1, e2, r⟩ := f.own j v (nn j v h e) h2
      exact ⟨y, b, e1, by rw [ne j e]; exact e2, r⟩
  · have g : ∀ j, O' j = true → getv (setv ρ i (some (.d x))) j ≠ none → j ≠ i → (σ.set i (some (V.ref a)))[j]? = some (some (V.ref a)) → False := fun j h1 h3 hj h5 => by
      rw [ne j hj] at h5
      rw [hO j hj] at h1
      rw [getv_setv_ne ρ i j _ (fun z => hj z.symm)] at h3
      cases e : getv ρ j with
      | none => exact h3 e
      | some v => exact hn j v e h1 hj h5
    by_cases e1 : j = i
    · by_cases e2 : k = i
      · rw [e1, e2]
      · subst e1
        rw [me] at h5
        cases h5
        exact (g k h2 h4 e2 h6).elim
    · by_cases e2 : k = i
      · subst e2
        rw [me] at h6
        cases h6
        exact (g j h1 h3 e1 h5).elim
      · rw [ne j e1] at h5
        rw [ne k e2] at h6
        rw [hO j e1] at h1
        rw [hO k e2] at h2
        rw [getv_setv_ne ρ i j _ (fun z => e1 z.symm)] at h3
        rw [getv_setv_ne ρ i k _ (fun z => e2 z.symm)] at h4
        exact f.apart j k b h1 h2 h3 h4 h5 h6
end

section
variable {X : L2.Cx} {c : Ec} {x : Sx} {O' : Nat → Bool} {e : Expr} {re : Env → Wd → R Val} {pos : Pos}
theorem Stp.free0 {μ μ' : List Addr} {H H' : Hp} (s : Stp μ μ' H H') {a : Addr} (h : H' a = none) : H a = none := by
  cases e : H a with
  | none => rfl
  | some o =>
    by_cases hm : a ∈ μ
    · exact absurd h (s.wld a hm (by rw [e]; exact nofun))
    · rw [s.keep a o e hm] at h; cases h
/-- a list, a dict that is new -/
def isNew : PV → Bool
  | .lst _ => true
  | .dct _ => true
  | _ => false
theorem new_at {K : PySem.W.Frag} {Hs H : Hp} {μ : List Addr} {p : PV} {v : V} (hp : isNew p = true) (h : RepF K Hs .f H μ p v) : ∃ a, v = .ref a ∧ Hs a = none ∧ a ∉ μ ∧ RepO K H p a := by
  cases p with
  | lst xs => exact h
  | dct xs => exact h
  | _ => cases hp
def ownR (i : Nat) (re : Env → Wd → R Val) : Env → Wd → Out := fun ρ W => (dat (re ρ W)).go ρ fun v w => if isNew v then .nx (setv ρ i (some (.d v))) w else .st
theorem js_own (G : Gd X c) (htr : ∀ Oe, x.tr = some Oe → Oe = c.O) {i : Nat} {n : Str} {pos' : Pos} (hi : X.N[i]? = some n) (hx : Loc X.env.scope n) (hf : X.fn n = true ∨ X.env.scope.names.lookup n = some .local)
    (hO : ∀ j, j ≠ i → O' j = c.O j) (ho : O' i = true) (hs : swapsWith e (some (.Name n pos')) pos.line X.env = pure false) (he : JE X c .f e re) :
    JS X c x O' (.Assign [.Name n pos'] e pos) (ownR i re) := by
  refine ⟨fun pins s σ H D I ⟨ρ, μ, W, hF, hW, hS, h⟩ => (ps_set G.nd hi hx he hs hf).run pins s σ H D I ⟨ρ, μ, W, hF, hW, OutOk.goD (x := x) (Hs := H) htr hF hW hS h fun a W1 b H1 μ1 _ f st w s1 q h1 => ?_⟩⟩
  split at h1
  · rename_i hp
    obtain ⟨p, rfl, h0, hm, q⟩ := new_at hp q
    refine h1 _ H1 μ1 (f.setO (len_lt I.len hi) hO ho q hm (hS.free0 h0) fun j v h2 h3 _ z => ?_) w s1 (Ext.refl H1)
    obtain ⟨y, p', _, e2, r, _⟩ := hF.own j v h2 h3
    rw [e2] at z
    cases z
    obtain ⟨o, ho⟩ := RepO.ex r
    rw [ho] at h0
    cases h0
  · exact h1.elim
/-- a name's own thing goes to another name -/
def movR (j i : Nat) : Env → Wd → Out := fun ρ W => match getv ρ i with
  | some v => .nx (setv (setv ρ i none) j (some v)) W
  | none => .st
theorem js_mov (G : Gd X c) {i j : Nat} {m n : Str} {pos' p : Pos} (hi : X.N[i]? = some m) (hv : Vis X.env.scope m) (h1 : (m == ("__debug__" : Str)) = false) (h2 : (m == ("__classdict__" : Str)) = false)
    (hj : X.N[j]? = some n) (hx : Loc X.env.scope n) (hf : X.fn n = true ∨ X.env.scope.names.lookup n = some .local) (hne : i ≠ j) (hoi : c.O i = true) (hoj : c.O j = true) (hs : swapsWith (.Name m p) (some (.Name n pos')) pos.line X.env = pure false) :
    JS X c x c.O (.Assign [.Name n pos'] (.Name m p) pos) (movR j i) := by
  refine ⟨fun pins s σ H D I ⟨ρ, μ, W, hF, hW, hS, h⟩ => (ps_set G.nd hj hx (pe_var hi hv h1 h2) hs hf).run pins s σ H D I ?_⟩
  unfold movR at h
  cases e : getv ρ i with
  | none => rw [e] at h; exact h.elim
  | some v =>
    rw [e] at h
    obtain ⟨y, a, rfl, e2, r, hm, h0⟩ := hF.own i v e hoi
    refine ⟨_, e2, h _ H μ ?_ hW hS (Ext.refl H)⟩
    have f0 : FR X.K c.N c.H0 H μ c.pn c.O σ (setv ρ i none) := hF.weak (fun k v h => by
      by_cases z : i = k
      · subst z
        cases getv_setv_self ρ i none _ h
      · rw [getv_setv_ne ρ i k _ z] at h; exact h) (by rw [setv_len]; exact hF.len)
    refine f0.setO (len_lt I.len hj) (fun _ _ => rfl) hoj r hm h0 fun k v h3 h4 h5 z => ?_
    have z1 : i ≠ k := fun z1 => by
      subst z1
      cases getv_setv_self ρ i none _ h3
    rw [getv_setv_ne ρ i k _ z1] at h3
    exact z1 (hF.apart i k a hoi h4 (by rw [e]; exact nofun) (by rw [h3]; exact nofun) e2 z)
/-- an own thing is never changed from now on -/
theorem jss_frz {st : List Stmt} {O1 : Nat → Bool} {k : Env → Wd → Out} {i : Nat} (hi : c.O i = true) (h1 : O1 i = false) (hO : ∀ j, j ≠ i → O1 j = c.O j) (hk : JSs X { c with O := O1 } x O' st k) : JSs X c x O' st k := by
  refine ⟨fun pins s σ H D I ⟨ρ, μ, W, hF, hW, hS, h⟩ => ?_⟩
  cases e : getv ρ i with
  | none =>
    refine hk.run pins s σ H D I ⟨ρ, μ, W, ⟨fun j v h2 h3 => ?_, fun j v h2 h3 => ?_, fun j k a h2 h3 h4 h5 => ?_, hF.len⟩, hW, hS, h⟩
    · by_cases z : j = i
      · rw [z, e] at h2; cases h2
      · exact hF.slot j v h2 (by rw [← hO j z]; exact h3)
    · by_cases z : j = i
      · rw [z, e] at h2; cases h2
      · exact hF.own j v h2 (by rw [← hO j z]; exact h3)
    · by_cases z : j = i
      · rw [z, e] at h4; exact absurd rfl h4
      · by_cases z2 : k = i
        · rw [z2, e] at h5; exact absurd rfl h5
        · exact hF.apart j k a (by rw [← hO j z]; exact h2) (by rw [← hO k z2]; exact h3) h4 h5
  | some v =>
    obtain ⟨y, a, rfl, e2, r, hm, h0⟩ := hF.own i v e hi
    obtain ⟨o', od, I2, rz⟩ : ∃ o' od, Inv X pins σ (upd H a (.frz od o')) s ∧ Rep X.K (upd H a (.frz od o')) y (.ref a) := by
      cases y with
      | lst xs =>
        obtain ⟨vs, e3, q, hz⟩ := r
        obtain ⟨od, I'⟩ := I.lock e3 trivial
        exact ⟨_, od, I', a, vs, rfl, ⟨od, upd_same⟩, RepL.mono (ext_own (.inl ⟨_, e3⟩)) xs vs q, hz⟩
      | dct xs =>
        obtain ⟨ks, e3, q, hz⟩ := r
        obtain ⟨od, I'⟩ := I.lock e3 trivial
        exact ⟨_, od, I', a, od, ks, rfl, upd_same, RepK.mono (ext_own (.inr ⟨_, e3⟩)) xs ks q, hz⟩
      | _ => exact r.elim
    have ext : Ext H (upd H a (.frz od o')) := ext_own r.mt
    refine hk.run pins s σ _ D I2 ⟨ρ, μ, W, ⟨fun j v h2 h3 => ?_, fun j v h2 h3 => ?_, fun j k b h2 h3 h4 h5 => ?_, hF.len⟩, hW.upd r hm, hS.upd r h0, OutOk.from h ext⟩
    · by_cases z : j = i
      · subst z
        rw [e] at h2
        cases h2
        exact ⟨_, e2, rz⟩
      · obtain ⟨u, e3, q⟩ := hF.slot j v h2 (by rw [← hO j z]; exact h3)
        exact ⟨u, e3, q.upd r.mt⟩
    · by_cases z : j = i
      · rw [z] at h3
        rw [show O1 i = true from h3] at h1
        cases h1
      · obtain ⟨y', b, e1, e3, r', hm', h0'⟩ := hF.own j v h2 (by rw [← hO j z]; exact h3)
        have hab : b ≠ a := fun z' => z (hF.apart j i a (by rw [← hO j z]; exact h3) hi (by rw [h2]; exact nofun) (by rw [e]; exact nofun) (by rw [← z']; exact e3) e2)
        exact ⟨y', b, e1, e3, RepO.mono ext (fun o' z => by rw [upd_ne hab]; exact z) r', hm', h0'⟩
    · have hj : ∀ j, O1 j = true → c.O j = true := fun j hj => by
        by_cases z : j = i
        · rw [z, h1] at hj; cases hj
        · rw [← hO j z]; exact hj
      exact hF.apart j k b (hj j h2) (hj k h3) h4 h5
end
end Rx
end
section
set_option Elab.async false
set_option linter.all false
set_option maxRecDepth 100000
set_option maxHeartbeats 1000000
/-! Rx own: append, extend, pop, d[k] = v, d.pop(k, x). -/
namespace Rx
open PySem PySem.Spec PyProof.Rows L2
section
variable {X : L2.Cx} {c : Ec} {x : Sx} {e f : Expr} {re rf : Env → Wd → R Val} {pos apos cpos p : Pos} {i : Nat} {m : Str}
/-- an own name -/
structure OwnAt (X : L2.Cx) (c : Ec) (i : Nat) (m : Str) : Prop where
  at_ : X.N[i]? = some m
  vis : Vis X.env.scope m
  own : c.O i = true
  nd : (m == ("__debug__" : Str)) = false
  nc : (m == ("__classdict__" : Str)) = false
theorem OwnAt.pe (h : OwnAt X c i m) {p : Pos} : PE X (.Name m p) (tVar i) := pe_var h.at_ h.vis h.nd h.nc
/-- a def's call behind what is kept of it -/
theorem FR.own' {K : PySem.W.Frag} {N : Nm} {H0 H : Hp} {μ : List Addr} {pn : List (Addr × Obj)} {O : Nat → Bool} {σ : L2.St} {ρ : Env} (f : FR K N H0 H μ pn O σ ρ) {i : Nat} {p : PV} (ho : O i = true) (e : getv ρ i = some (.d p)) :
    ∃ a, σ[i]? = some (some (V.ref a)) ∧ RepO K H p a ∧ a ∉ μ ∧ H0 a = none := by
  obtain ⟨y, a, e1, e2, r⟩ := f.own i _ e ho
  cases e1
  exact ⟨a, e2, r⟩
def appR (i : Nat) (re : Env → Wd → R Val) : Env → Wd → Out := fun ρ W => match getv ρ i with
  | some (.d (.lst xs)) => (dat (re ρ W)).go ρ fun v w => if Nat.blt xs.length LIM then .nx (setv ρ i (some (.d (.lst (xs ++ [v]))))) w else .st
  | _ => .st
theorem few1 {env : PySem.Env} (h : isStar e = false) : ((backTo cpos (starEach [e] env)).all (fun x => !x.1) && (backToKw cpos (keywordEach [] env)).all (fun x => x.1.isSome)
    && decide (([e] : List Expr).length + ([] : List Keyword).length + (if ([] : List Keyword).isEmpty then 0 else 1) < 30)) = true := by
  rw [starEach_no h]; rfl
theorem js_app (htr : ∀ Oe, x.tr = some Oe → Oe = c.O) (ho : OwnAt X c i m) (hst : isStar e = false) (hl : (apos.endLine == cpos.line) = true) (he : JE X c .z e re) :
    JS X c x c.O (.Expr (.Call (.Attribute (.Name m p) "append" apos) [e] [] cpos) pos) (appR i re) := by
  refine ps_mono (ps_expr (pe_bm F.plainAttrs_list F.slot_list_append F.type_list_append mt_append ho.pe (pa_cons he pa_nil (starEach_no hst)) (attrBase_of rfl) (few1 hst) hl (starEach_no hst) rfl) rfl) ?_
  rintro D σ H ⟨ρ, μ, W, hF, hW, hS, h⟩
  unfold appR at h
  split at h
  · rename_i xs eq
    obtain ⟨a, e2, q0, hm, h0⟩ := hF.own' ho.own eq
    have q0' := q0
    obtain ⟨vs, e3, r, hz⟩ := q0
    refine ⟨_, e2, .inl ⟨rfl, vs, .inl (.inl e3)⟩, ρ, μ, W, hF, hW, OutOk.goD (x := x) (Hs := H) htr hF hW hS h fun v W1 b H1 μ1 _ f1 st w s1 q h1 => ?_⟩
    split at h1
    · rename_i hlt
      obtain ⟨a', e2', q1, hm1, _⟩ := f1.own' ho.own eq
      rw [e2] at e2'
      cases e2'
      have q1' := q1
      obtain ⟨vs1, e4, r1, hz1⟩ := q1
      have hlt : xs.length < sizeLine := by have := Nat.le_of_ble_eq_true hlt; rw [← LIM_eq]; exact this
      refine ⟨a, vs1, b, rfl, rfl, e4, by rw [← r1.length]; exact hlt, ?_⟩
      refine h1 σ _ μ1 (f1.upd ho.own eq e2 q1' hm1 h0 ⟨_, upd_same, RepL.append (RepL.mono (ext_own q1'.mt) _ _ r1) ⟨Rep.mono (ext_own q1'.mt) _ _ q, trivial⟩, by rw [List.length_append]; exact hlt⟩) (w.upd q1' hm1) (s1.upd q1' h0) (ext_own q1'.mt)
    · exact h1.elim
  · exact h.elim
/-! ### extend -/
def rExt (K : PySem.W.Frag) : V → List V → Hp → VK → Prop := fun x vs H Q => ∃ l b xs zs, x = .ref l ∧ vs = [.ref b] ∧ H l = some (.lst xs) ∧ (Rd H b (.lst zs) ∨ SqT K H b zs) ∧ xs.length + zs.length ≤ sizeLine ∧ Q .non (upd H l (.lst (xs ++ zs)))
theorem ext_tup (l : Addr) (items : Array Value) (n : Nat) (b : Addr) (items2 : Array Value) (n2 : Nat) (dd : Option Addr) (sl : Array (Option Value)) (hs0 : ¬(!items.isEmpty && Builtin.List.listTooLong (items.size + items2.size)) = true) (hs1 : items.size ≤ sizeLine) (hs2 : items.size + items2.size ≤ sizeLine + 1) :
    Meets (Builtin.«list.extend» ⟨[.ref l, .ref b], []⟩) (fun _ R s => s.heap.get? l = some { cls := .type "list", dict := none, data := .seq items n, slots := #[] } ∧ s.heap.get? b = some { cls := .type "tuple", dict := dd, data := .seq items2 n2, slots := sl } ∧ R (.ok (.ret Value.none)) { s with heap := s.heap.update l (Obj.mapSeq fun x => x ++ items2), toks := s.toks }) :=
  .of_wp fun prog w A R s h => by
    obtain ⟨hp, g, d, tk, os⟩ := s; obtain ⟨hl, hb, h⟩ := h; have f1 := AutoSeq1.idx_int; have f2 := AutoSeq1.sub_tuple_tuple; have f3 := AutoSeq1.sub_list_list; have f4 := AutoSeq1.sub_tuple_list; have f5 := AutoSeq1.sub_list_tuple;
    have hz' : (items ++ items2).size ≤ sizeLine + 1 := by rw [Array.size_append]; exact hs2
    wp_walk using (wpAny_updateSeq hl rfl (hz := hs1) (_hz' := hz')), AutoSeq1.wpAny_loadPart' hl, AutoSeq1.wpAny_loadPart' hb; exact ⟨_, rfl, h⟩
theorem mt_ext : MtR X "list.extend" (rExt X.K) := by
  intro pins s σ H x vs v us Q I rx rv h
  obtain ⟨l, b, xs, zs, rfl, rfl, hH, hB, hz, q⟩ := h
  cases rx
  obtain ⟨u, rfl, ru⟩ := rv.one
  cases ru
  obtain ⟨z, its, n, r, hl, e⟩ := I.lstM hH
  have fin : ∀ {its2 : List Value} {n2 : Nat}, Vals zs its2 → ∀ {s2 : Shared}, s2 = { s with heap := s.heap.update l (Obj.mapSeq fun x => x ++ its2.toArray) } → ∃ y H', Inv X pins σ H' s2 ∧ RelV y .none ∧ Q y H' := fun {its2 n2} r2 {s2} es => by
    subst es
    refine ⟨.non, _, I.lset (its' := its ++ its2) (t' := s.toks) hH e (by simp) (r.append r2) ?_, rfl, q⟩
    rw [List.length_append]
    omega
  rcases hB with hB | hB
  · obtain ⟨z2, its2, n2, r2, e2⟩ := hB.ok I.hok
    have hl2 := r2.length
    have hsz : its.toArray.size + its2.toArray.size ≤ sizeLine := by rw [List.size_toArray, List.size_toArray]; omega
    have hlong : ¬ (!its.toArray.isEmpty && Builtin.List.listTooLong (its.toArray.size + its2.toArray.size)) = true := by
      rw [notLongL hsz, Bool.and_false]
      exact Bool.false_ne_true
    exact call_meets F.slot_list_extend ⟨_, e, rfl⟩ F.entry_list_extend (F.args_list_extend_2 _ _)
      (AutoSeq1.list_extend_list_list_0 l its.toArray n b its2.toArray n2 hlong (by rw [List.size_toArray]; omega) (by omega)) ⟨e, e2, fin (n2 := n2) r2 rfl⟩
  · obtain ⟨its2, r2, pl, z2⟩ := I.tuple hB
    have hl2 := r2.length
    have hsz : its.toArray.size + its2.toArray.size ≤ sizeLine := by rw [List.size_toArray, List.size_toArray]; omega
    have hlong : ¬ (!its.toArray.isEmpty && Builtin.List.listTooLong (its.toArray.size + its2.toArray.size)) = true := by
      rw [notLongL hsz, Bool.and_false]
      exact Bool.false_ne_true
    obtain ⟨⟨oc, od, odt, osl⟩, e2, hc, n2, hd⟩ := pl
    cases hc
    cases hd
    exact call_meets F.slot_list_extend ⟨_, e, rfl⟩ F.entry_list_extend (F.args_list_extend_2 _ _)
      (ext_tup l its.toArray n b its2.toArray n2 od osl hlong (by rw [List.size_toArray]; omega) (by omega)) ⟨e, e2, fin (n2 := n2) r2 rfl⟩
/-- what a list is lengthened by -/
def extL : PV → Option (List PV)
  | .lst ys => some ys
  | .tup ys => some ys
  | _ => none
def extR (i : Nat) (re : Env → Wd → R Val) : Env → Wd → Out := fun ρ W => match getv ρ i with
  | some (.d (.lst xs)) => (dat (re ρ W)).go ρ fun v w => match extL v with
    | some ys => if fits (xs.length + ys.length) then .nx (setv ρ i (some (.d (.lst (xs ++ ys))))) w else .st
    | none => .st
  | _ => .st
theorem js_ext (htr : ∀ Oe, x.tr = some Oe → Oe = c.O) (ho : OwnAt X c i m) (hst : isStar e = false) (hl : (apos.endLine == cpos.line) = true) (he : JE X c .b e re) :
    JS X c x c.O (.Expr (.Call (.Attribute (.Name m p) "extend" apos) [e] [] cpos) pos) (extR i re) := by
  refine ps_mono (ps_expr (pe_bm F.plainAttrs_list F.slot_list_extend F.type_list_extend mt_ext ho.pe (pa_cons he pa_nil (starEach_no hst)) (attrBase_of rfl) (few1 hst) hl (starEach_no hst) rfl) rfl) ?_
  rintro D σ H ⟨ρ, μ, W, hF, hW, hS, h⟩
  unfold extR at h
  split at h
  · rename_i xs eq
    obtain ⟨a, e2, q0, hm, h0⟩ := hF.own' ho.own eq
    obtain ⟨vs, e3, r, hz⟩ := q0
    refine ⟨_, e2, .inl ⟨rfl, vs, .inl (.inl e3)⟩, ρ, μ, W, hF, hW, OutOk.goD (x := x) (Hs := H) htr hF hW hS h fun v W1 b H1 μ1 _ f1 st w s1 q h1 => ?_⟩
    split at h1
    · rename_i ys ey
      split at h1
      · rename_i hlt
        obtain ⟨a', e2', q1, hm1, _⟩ := f1.own' ho.own eq
        rw [e2] at e2'
        cases e2'
        have q1' := q1
        obtain ⟨vs1, e4, r1, hz1⟩ := q1
        obtain ⟨b', us, rfl, hb, rb⟩ : ∃ b' us, b = .ref b' ∧ (Rd H1 b' (.lst us) ∨ SqT X.K H1 b' us) ∧ RepL X.K H1 ys us := by
          have q := RepF.toB q
          cases v with
          | lst zs => cases ey; obtain ⟨b', us, rfl, h1, h2, _⟩ := q; exact ⟨b', us, rfl, .inl h1, h2⟩
          | tup zs => cases ey; obtain ⟨b', us, rfl, h1, h2, _⟩ := q; exact ⟨b', us, rfl, .inr h1, h2⟩
          | _ => cases ey
        have hlt := fits_le hlt
        refine ⟨a, b', vs1, us, rfl, rfl, e4, hb, by rw [← r1.length, ← rb.length]; exact hlt, ?_⟩
        refine h1 σ _ μ1 (f1.upd ho.own eq e2 q1' hm1 h0 ⟨_, upd_same, RepL.append (RepL.mono (ext_own q1'.mt) _ _ r1) (RepL.mono (ext_own q1'.mt) _ _ rb), by rw [List.length_append]; exact hlt⟩) (w.upd q1' hm1) (s1.upd q1' h0) (ext_own q1'.mt)
      · exact h1.elim
    · exact h1.elim
  · exact h.elim
/-! ### pop -/
/-- x = o.pop() -/
def popR (j i : Nat) : Env → Wd → Out := fun ρ W => match getv ρ i with
  | some (.d (.lst xs)) => match nthO xs (xs.length - 1) with
    | some v => .nx (setv (setv ρ i (some (.d (.lst xs.dropLast)))) j (some (.d v))) W
    | none => .st
  | _ => .st
theorem RepL.dropLast {K : PySem.W.Frag} {H : Hp} : ∀ {xs : List PV} {vs : List V}, RepL K H xs vs → RepL K H xs.dropLast vs.dropLast
  | [], [], _ => trivial
  | [_], [_], _ => trivial
  | a :: b :: r, u :: v :: t, h => by
    rw [List.dropLast_cons_cons, List.dropLast_cons_cons]
    exact ⟨h.1, RepL.dropLast h.2⟩
  | [_], _ :: _ :: _, h => h.2.elim
  | _ :: _ :: _, [_], h => h.2.elim
theorem js_pop (G : Gd X c) (ho : OwnAt X c i m) (hl : (apos.endLine == cpos.line) = true) {j : Nat} {n : Str} {pos' : Pos} (hj : X.N[j]? = some n) (hx : Loc X.env.scope n) (hf : X.fn n = true ∨ X.env.scope.names.lookup n = some .local) (hoj : c.O j = false) :
    JS X c x c.O (.Assign [.Name n pos'] (.Call (.Attribute (.Name m p) "pop" apos) [] [] cpos) pos) (popR j i) := by
  refine ⟨fun pins s σ H D I ⟨ρ, μ, W, hF, hW, hS, h⟩ => (ps_set G.nd hj hx (pe_bm0 F.plainAttrs_list F.slot_list_pop F.type_list_pop mt_pop ho.pe (attrBase_of rfl) hl) rfl hf).run pins s σ H D I ?_⟩
  unfold popR at h
  split at h
  · rename_i xs eq
    split at h
    · rename_i v ev
      obtain ⟨a, e2, q0, hm, h0⟩ := hF.own' ho.own eq
      have q0' := q0
      obtain ⟨vs, e3, r, hz⟩ := q0
      rw [nthO_get] at ev
      obtain ⟨u, eu, ru⟩ := r.get ev
      refine ⟨_, e2, .inl ⟨rfl, vs, .inl (.inl e3)⟩, a, vs, u, rfl, rfl, e3, by rw [← r.length]; exact eu, ?_⟩
      have ex := ext_own (a := a) (o := .lst vs.dropLast) q0'.mt
      have f2 := hF.upd (x' := .lst xs.dropLast) (o := .lst vs.dropLast) ho.own eq e2 q0' hm h0 ⟨_, upd_same, RepL.mono ex _ _ r.dropLast, by rw [List.length_dropLast]; omega⟩
      exact h _ _ μ (f2.set (x := .d v) (len_lt I.len hj) hoj (Rep.mono ex _ _ ru)) (hW.upd q0' hm) (hS.upd q0' h0) ex
    · exact h.elim
  · exact h.elim
/-! ### d[k] = v -/
def putR (i : Nat) (rk rv : Env → Wd → R Val) : Env → Wd → Out := fun ρ W => match getv ρ i with
  | some (.d (.dct kvs)) => (dat (rv ρ W)).go ρ fun v w => (dat (rk ρ w)).go ρ fun k w => if keyable k && Nat.blt kvs.length LIM then .nx (setv ρ i (some (.d (.dct (dput k v kvs))))) w else .st
  | _ => .st
theorem keyable_R {K : PySem.W.Frag} {H : Hp} {k : PV} {v : V} (h : keyable k = true) (r : Rep K H k v) : ∃ j, keyR k j ∧ v = kV j := by
  cases k with
  | int i => exact ⟨.inl i, ⟨rfl, trivial⟩, r⟩
  | str z => exact ⟨.inr (tx z), ⟨rfl, r.2⟩, r.1⟩
  | _ => cases h
theorem blt_LIM {n : Nat} (h : Nat.blt n LIM = true) : n < sizeLine := by have := Nat.le_of_ble_eq_true h; rw [← LIM_eq]; exact this
/-- a dict's keys are no two the same -/
theorem Inv.ndK {pins : List (Addr × Obj)} {σ : L2.St} {H : Hp} {s : Shared} {a : Addr} {ks : List (Key × V)} (I : Inv X pins σ H s) (e : H a = some (.dK ks)) : NdK ks := by
  obtain ⟨_, _, vs, rel, _, _, _, _, _, _, _, _, nd⟩ := dk_of I.hok e
  have : ∀ {ks : List (Key × V)} {vs : List (Key × Value)}, KV ks vs → ks.map (·.1) = vs.map (·.1) := by
    intro ks vs r
    unfold KV at r
    induction r with
    | nil => rfl
    | cons h t ih => rw [List.map_cons, List.map_cons, ih, h.1]
  unfold NdK
  rw [this rel]
  exact nd
/-- d[y] = v, d's keys being no two the same -/
def sDPutN (td ty tv : TE) : TS := fun D σ H => tv σ H fun v H1 => td σ H1 fun x H2 => ty σ H2 fun y H3 => ∃ a, x = .ref a ∧ ((∀ ks, H3 a = some (.dK ks) → NdK ks) → ∃ H4, DPut H3 a y v H4 ∧ D.nx σ H4)
theorem ps_dputN {o i value : Expr} {pos' : Pos} {td ty tv : TE} (hu : X.A.units + 1 < cLine) (ho : PE X o td) (hi : PE X i ty) (hv : PE X value tv) (hs : swapsWith value (some (.Subscript o i pos')) pos.line X.env = pure false) :
    PS X (.Assign [.Subscript o i pos'] value pos) (sDPutN td ty tv) := by
  refine ⟨fun pins s σ H D I h => ?_⟩
  refine wpAny_Assign_Subscript (thn (hv.run pins s σ H _ I h) fun r s1 ⟨v, H1, I1, rv, q1⟩ => thn (ho.run pins s1 σ H1 _ I1 q1) fun u s2 ⟨x, H2, I2, rx, q2⟩ => thn (hi.run pins s2 σ H2 _ I2 q2) fun iv s3 ⟨y, H3, I3, ry, a, ex, q3⟩ => ?_) hs
  subst ex
  obtain rfl : u = Value.ref a := rx
  obtain ⟨H4, g, q4⟩ := q3 fun ks e => Inv.ndK I3 e
  exact d_setItem hu I3 g ry rv fun s4 I4 => ⟨σ, H4, I4, q4⟩
theorem js_put (G : Gd X c) (htr : ∀ Oe, x.tr = some Oe → Oe = c.O) (ho : OwnAt X c i m) {pos' : Pos} (hk : JE X c .z f rf) (he : JE X c .z e re) (hs : swapsWith e (some (.Subscript (.Name m p) f pos')) pos.line X.env = pure false) :
    JS X c x c.O (.Assign [.Subscript (.Name m p) f pos'] e pos) (putR i rf re) := by
  have := G.hu
  refine ⟨fun pins s σ H D I ⟨ρ, μ, W, hF, hW, hS, h⟩ => (ps_dputN (by omega) ho.pe hk he hs).run pins s σ H D I ?_⟩
  unfold putR at h
  split at h
  · rename_i kvs eq
    obtain ⟨a, e2, _⟩ := hF.own' ho.own eq
    refine ⟨ρ, μ, W, hF, hW, OutOk.goD (x := x) (Hs := H) htr hF hW hS h fun v W1 b H1 μ1 _ f1 st w s1 q h1 => ⟨_, e2, ρ, μ1, W1, f1, w, OutOk.goD (x := x) (Hs := H1) htr f1 w s1 h1 fun k W2 y H2 μ2 _ f2 st2 w2 s2 qk h2 => ?_⟩⟩
    split at h2
    · rename_i hc
      obtain ⟨hc1, hc2⟩ := Bool.and_eq_true_iff.mp hc
      obtain ⟨j, kr, rfl⟩ := keyable_R hc1 (show Rep X.K H2 k y from qk)
      obtain ⟨a', e2', q1, hm1, h0⟩ := f2.own' ho.own eq
      rw [e2] at e2'
      cases e2'
      have q1' := q1
      obtain ⟨ks, e4, r1, hz1⟩ := q1
      have hlt := blt_LIM hc2
      have ex := ext_own (a := a) (o := .dK (putK ks j b)) q1'.mt
      refine ⟨a, rfl, fun nd => ⟨_, .k e4 (by rw [← r1.length]; exact hlt), ?_⟩⟩
      have f3 := f2.upd (x' := .dct (dput k v kvs)) (o := .dK (putK ks j b)) ho.own eq e2 q1' hm1 h0 ⟨_, upd_same, RepK.put (RepK.mono ex _ _ r1) (nd _ e4) kr (Rep.mono (st2.ext.trans ex) _ _ q), by have := length_dput k v kvs; omega⟩
      exact h2 σ _ μ2 f3 (w2.upd q1' hm1) (s2.upd q1' h0) ex
    · exact h2.elim
  · exact h.elim
end
end Rx
end
section
set_option Elab.async false
set_option linter.all false
set_option maxRecDepth 100000
set_option maxHeartbeats 1000000
/-! Rx own: d.pop(k, x); d.get(k), d.get(k, x). -/
namespace Rx
open PySem PySem.Spec PyProof.Rows L2
section
variable {X : L2.Cx} {c : Ec} {x : Sx} {a e f : Expr} {ra re rf : Env → Wd → R Val} {pos apos cpos p : Pos} {i : Nat} {m : Str}
theorem m1_of {o : Expr} {nm : Str} (ho : notSuper o = true) (he : isStar e = false) (hl : (apos.endLine == cpos.line) = true) : M1 X o nm apos e cpos :=
  ⟨attrBase_of ho, few1 he, hl, by rw [starEach_no he]; rfl⟩
theorem m2_of {o : Expr} {nm : Str} (ho : notSuper o = true) (he : isStar e = false) (hf : isStar f = false) (hl : (apos.endLine == cpos.line) = true) : M2 X o nm apos e f cpos :=
  ⟨attrBase_of ho, by rw [starEach_no he, starEach_no hf]; rfl, hl, by rw [starEach_no he, starEach_no hf]; rfl⟩
/-! ### get -/
def get2R (ra re rf : Env → Wd → R Val) : Env → Wd → R Val := fun ρ W => (dat (ra ρ W)).bind fun d w => match d with
  | .dct kvs => (dat (re ρ w)).bind fun k w => (dat (rf ρ w)).bind fun x w => if keyable k then .ok (.d ((dget k kvs).getD x)) w else .st
  | _ => .st
def get1R (ra re : Env → Wd → R Val) : Env → Wd → R Val := fun ρ W => (dat (ra ρ W)).bind fun d w => match d with
  | .dct kvs => (dat (re ρ w)).bind fun k w => if keyable k then .ok (.d ((dget k kvs).getD .non)) w else .st
  | _ => .st
theorem RepK.getD {K : PySem.W.Frag} {H : Hp} {kvs : List (PV × PV)} {ks : List (Key × V)} {k x : PV} {j : Key} {v : V} (h : RepK K H kvs ks) (hk : keyOf k = some j) (r : Rep K H x v) : Rep K H ((dget k kvs).getD x) ((valV ks j).getD v) := by
  rcases h.get hk with ⟨e1, e2⟩ | ⟨y, u, e1, e2, q⟩
  · rw [e1, e2]; exact r
  · rw [e1, e2]; exact q
theorem je_get2 (G : Gd X c) (ho : notSuper a = true) (h1 : isStar e = false) (h2 : isStar f = false) (hl : (apos.endLine == cpos.line) = true) (ha : JE X c .b a ra) (he : JE X c .z e re) (hf : JE X c .z f rf) :
    JE X c .z (.Call (.Attribute a "get" apos) [e, f] [] cpos) (get2R ra re rf) := by
  have := G.hu
  refine pe_mono (pe_dget2 (by omega) ha he hf (m2_of ho h1 h2 hl)) fun σ H Q ⟨ρ, μ, W, hF, hW, hA⟩ => ⟨ρ, μ, W, hF, hW, ?_⟩
  refine hA.bindD fun d W1 u H1 μ1 _ s1 w1 r1 hA1 => ?_
  split at hA1
  · rename_i kvs
    obtain ⟨b, ks, rfl, hd, rk, hz⟩ := RepF.toB r1
    refine ⟨b, rfl, .inl ⟨ks, hd⟩, ρ, μ1, W1, hF.step s1 hW, w1, hA1.bindD (Hs := H1) fun k W2 y H2 μ2 _ s2 w2 r2 hA2 => ⟨ρ, μ2, W2, (hF.step s1 hW).step s2 w1, w2, hA2.bindD (Hs := H2) fun z W3 v H3 μ3 _ s3 w3 r3 hA3 => ?_⟩⟩
    split at hA3
    · rename_i hk
      obtain ⟨j, kr, rfl⟩ := keyable_R hk (show Rep X.K H2 k y from r2)
      obtain ⟨b', ks', e', hd', rk', _⟩ := RepF.toB (RepF.step (Ht := H) (s2.trans s3) r1)
      cases e'
      exact ⟨_, .inl ⟨ks', j, hd', rfl, rfl⟩, hA3.here w3 (rk'.getD kr.1 r3)⟩
    · exact hA3.elim
  · exact hA1.elim
theorem je_get1 (G : Gd X c) (ho : notSuper a = true) (h1 : isStar e = false) (hl : (apos.endLine == cpos.line) = true) (ha : JE X c .b a ra) (he : JE X c .z e re) :
    JE X c .z (.Call (.Attribute a "get" apos) [e] [] cpos) (get1R ra re) := by
  have := G.hu
  refine pe_mono (pe_dget1 (by omega) ha he (m1_of ho h1 hl)) fun σ H Q ⟨ρ, μ, W, hF, hW, hA⟩ => ⟨ρ, μ, W, hF, hW, ?_⟩
  refine hA.bindD fun d W1 u H1 μ1 _ s1 w1 r1 hA1 => ?_
  split at hA1
  · rename_i kvs
    obtain ⟨b, ks, rfl, hd, rk, hz⟩ := RepF.toB r1
    refine ⟨b, rfl, .inl ⟨ks, hd⟩, ρ, μ1, W1, hF.step s1 hW, w1, hA1.bindD (Hs := H1) fun k W2 y H2 μ2 _ s2 w2 r2 hA2 => ?_⟩
    split at hA2
    · rename_i hk
      obtain ⟨j, kr, rfl⟩ := keyable_R hk (show Rep X.K H2 k y from r2)
      obtain ⟨b', ks', e', hd', rk', _⟩ := RepF.toB (RepF.step (Ht := H) s2 r1)
      cases e'
      exact ⟨_, .inl ⟨ks', j, hd', rfl, rfl⟩, hA2.here w2 (rk'.getD kr.1 (x := .non) (v := .non) rfl)⟩
    · exact hA2.elim
  · exact hA1.elim
/-! ### o.pop(k, x), as a statement -/
def dpopR (i : Nat) (re rf : Env → Wd → R Val) : Env → Wd → Out := fun ρ W => match getv ρ i with
  | some (.d (.dct kvs)) => (dat (re ρ W)).go ρ fun k w => (dat (rf ρ w)).go ρ fun _ w => if keyable k then .nx (setv ρ i (some (.d (.dct (ddel k kvs))))) w else .st
  | _ => .st
def tDPop2N (td ty tx : TE) : TE := fun σ H Q => td σ H fun x H1 => ∃ a, x = .ref a ∧ IsD H1 a ∧ ty σ H1 fun y H2 => tx σ H2 fun z H3 => ∃ kvs k, H3 a = some (.dK kvs) ∧ y = kV k ∧ (NdK kvs →
  (∀ v, valV kvs k = some v → Q v (upd H3 a (.dK (dropK kvs k)))) ∧ (valV kvs k = none → Q z H3))
theorem pe_dpop2N {o : Expr} {td ty tx : TE} (ho : PE X o td) (he : PE X e ty) (hf : PE X f tx) (m : M2 X o "pop" apos e f cpos) : PE X (.Call (.Attribute o "pop" apos) [e, f] [] cpos) (tDPop2N td ty tx) := by
  refine ⟨fun pins s σ H Q I h => ?_⟩
  refine wpAny_Call_method m.base m.few m.line PySem.F.plainAttrs_dict PySem.F.slot_dict_pop PySem.F.type_dict_pop (thn (ho.run pins s σ H _ I h) fun u s1 ⟨x, H1, I1, rx, a, ex, d, q1⟩ => ?_)
  subst ex
  obtain rfl : u = Value.ref a := rx
  obtain ⟨t1, t2, _⟩ := isD_at I1 d
  refine ⟨t1, t2, ?_⟩
  rw [m.trees]
  refine Calls.callWith_builtin rfl (Calls.evalArgs_plain (Calls.spliced_cons (thn (he.run pins s1 σ H1 _ I1 q1) fun iv s2 ⟨y, H2, I2, ry, q2⟩ =>
    Calls.spliced_cons (thn (hf.run pins s2 σ H2 _ I2 q2) fun fv s3 ⟨z, H3, I3, rz, kvs, k, ea, ey, q⟩ => Calls.spliced_nil ?_))))
  subst ey
  obtain ⟨q3, q4⟩ := q (Inv.ndK I3 ea)
  cases l : valV kvs k with
  | some v => exact d_pop I3 ea ry l (.inr ⟨fv, rfl⟩) fun w' s4 I4 rw' => ⟨v, _, I4, rw', q3 v l⟩
  | none => exact d_popD I3 ea ry l fun s4 I4 => ⟨z, H3, I4, rz, q4 l⟩
theorem RepK.del0 {K : PySem.W.Frag} {H : Hp} : ∀ {kvs : List (PV × PV)} {ks : List (Key × V)} {k : PV} {j : Key}, RepK K H kvs ks → keyOf k = some j → valV ks j = none → ddel k kvs = kvs
  | [], [], k, j, _, _, _ => rfl
  | (b, y) :: r, (i, u) :: t, k, j, h, hk, hv => by
    obtain ⟨h1, h2, h3⟩ := h
    have e := key_eqv h1.1 hk
    by_cases hij : i = j
    · rw [valV_pos (p := (i, u)) hij] at hv; cases hv
    · rw [valV_neg (p := (i, u)) hij] at hv
      rw [decide_eq_false hij] at e
      rw [ddel, if_neg (by rw [e]; decide), RepK.del0 h3 hk hv]
theorem setv_same : ∀ (ρ : Env) (i : Nat) (v : Val), getv ρ i = some v → setv ρ i (some v) = ρ
  | [], i, v, h => by rw [getv] at h; cases h
  | a :: r, 0, v, h => by rw [getv] at h; rw [setv, h]
  | a :: r, i + 1, v, h => by rw [getv] at h; rw [setv, setv_same r i v h]
theorem js_dpop (htr : ∀ Oe, x.tr = some Oe → Oe = c.O) (ho : OwnAt X c i m) (h1 : isStar e = false) (h2 : isStar f = false) (hl : (apos.endLine == cpos.line) = true) (he : JE X c .z e re) (hf : JE X c .z f rf) :
    JS X c x c.O (.Expr (.Call (.Attribute (.Name m p) "pop" apos) [e, f] [] cpos) pos) (dpopR i re rf) := by
  refine ps_mono (ps_expr (pe_dpop2N ho.pe he hf (m2_of rfl h1 h2 hl)) rfl) ?_
  rintro D σ H ⟨ρ, μ, W, hF, hW, hS, h⟩
  unfold dpopR at h
  split at h
  · rename_i kvs eq
    obtain ⟨a, e2, q0, hm, h0⟩ := hF.own' ho.own eq
    obtain ⟨ks, e3, r, hz⟩ := q0
    refine ⟨_, e2, a, rfl, .inl ⟨ks, .inl e3⟩, ρ, μ, W, hF, hW, OutOk.goD (x := x) (Hs := H) htr hF hW hS h fun k W1 y H1 μ1 _ f1 st1 w1 s1 qk h1 => ⟨ρ, μ1, W1, f1, w1, OutOk.goD (x := x) (Hs := H1) htr f1 w1 s1 h1 fun z W2 v H2 μ2 _ f2 st2 w2 s2 _ h2 => ?_⟩⟩
    split at h2
    · rename_i hk
      obtain ⟨j, kr, rfl⟩ := keyable_R hk (show Rep X.K H1 k y from qk)
      obtain ⟨a', e2', q1, hm1, _⟩ := f2.own' ho.own eq
      rw [e2] at e2'
      cases e2'
      have q1' := q1
      obtain ⟨ks1, e4, r1, hz1⟩ := q1
      refine ⟨ks1, j, e4, rfl, fun nd => ⟨fun v _ => ?_, fun hv => ?_⟩⟩
      · have ex := ext_own (a := a) (o := .dK (dropK ks1 j)) q1'.mt
        have f3 := f2.upd (x' := .dct (ddel k kvs)) (o := .dK (dropK ks1 j)) ho.own eq e2 q1' hm1 h0 ⟨_, upd_same, RepK.del (RepK.mono ex _ _ r1) nd kr.1, by have := length_ddel k kvs; omega⟩
        exact h2 σ _ μ2 f3 (w2.upd q1' hm1) (s2.upd q1' h0) ex
      · rw [r1.del0 kr.1 hv, setv_same ρ i _ eq] at h2
        exact h2 σ H2 μ2 f2 w2 s2 (Ext.refl H2)
    · exact h2.elim
  · exact h.elim
end
end Rx
end
section
set_option Elab.async false
set_option linter.all false
set_option maxRecDepth 100000
set_option maxHeartbeats 1000000
/-! Rx exc: an own exception's __init__, which says super().__init__('..'). -/
namespace Rx
open PySem PySem.Spec PyProof.Rows L2 NdefX LamX
/-- what the written part says of an __init__ F at f, of the class at D, super's class cell at cc -/
structure XIn (P : Program) (K : PySem.W.Frag) (f : Addr) (F : NF) (D : Addr) (ps : List Str) (N : List Str) : Prop where
  lk : ∃ oc od osl doc pm ctv, K.lookup f = some ⟨oc, od, .func (F.fd doc pm ctv), osl⟩
  cd : PySem.W.codeIn K (.ref F.c) F.qual = true
  cell : ∃ cc cl cld csl, F.cl = [(("__class__" : Str), cc)] ∧ K.lookup cc = some ⟨cl, cld, .cell (some (.ref D)), csl⟩
  file : ∃ ccl cdd vs ccs file tf, K.lookup F.c = some ⟨ccl, cdd, .fields vs, ccs⟩ ∧ vs[2]? = some (.str file tf) ∧ ((P.main.file : Str) == file) = true
  top : (P.main.scope.names.lookup ("super" : Str)).isSome = false
  sc : NScope N ps ["__class__"] F.scope
  sup : F.scope.names.lookup ("super" : Str) = some .globalImplicit
  fst : ∃ ar, (F.params.posonlyargs ++ F.params.args).head? = some ar ∧ ∃ r, ps = ar.arg :: r
  mg : PySem.W.nsIn K mainGlobals "super" = some none
  opq : PySem.W.nsIn K cStatics "thirdparty.any" = some none
  nxt : PySem.W.ks_superIn K D D "__init__" = some (some (.builtin "ValueError.__init__"))
  cls : OexC K D
  vE : PySem.W.subIn K (.ref D) (.type "ValueError") = some true
  own : PySem.W.mroIn K D (.ref D) = some true
/-- the call of ValueError.__init__, bound to an exception that is being made -/
theorem run_bound {X : L2.Cx} {pins : List (Addr × Obj)} {σ : L2.St} {H : Hp} {s : Shared} {a C u : Addr} {us : List Value} {Q : Value → Shared → Prop} (T : OexC X.K C) (I : Inv X pins σ H s) (e : H a = some (exo a C none)) (hu : s.heap.get? u = some (PySem.W.kxs_mw "ValueError.__init__" a)) (hl : us.length ≤ sizeLine)
    (h : ∀ s', Inv X pins σ H s' → Q .none s') {E : Value → Shared → Prop} : wpAny (model X.prog X.w) X.A (call (.ref u) us) Q E s := by
  obtain ⟨nm, q, N, bs, bm, sn, sub, ab, col, dd, k0, k1, k2, k3, k5, hC, hbm⟩ := T.cls
  obtain ⟨t1, ho⟩ := exo_at I.hok e
  have hC := I.kIn _ _ hC
  obtain ⟨hp, g, d, t, os⟩ := s
  refine wpAny_call (codeAny_of_tree ?_)
  show wpAny _ X.A.in1 (callAny (.ref u) ⟨us, []⟩) _ _ _
  simp only [callAny]
  refine wpAny_bind (wpAny_load hu ?_)
  simp only [PySem.W.kxs_mw, show (Value.type "method-wrapper" == Value.type "method" || Value.type "method-wrapper" == Value.type "builtin_function_or_method" || Value.type "method-wrapper" == Value.type "method-wrapper") = true by decide, if_true]
  refine PySem.W.KFB.if_so (by decide) ?_
  have FB := F.excBase_ValueError
  refine wpAny_bind (PySem.W.check_bound_init FB.toExcCallFacts hC ho rfl ?_)
  refine wpAny_bind (wpAny_pure (wpAny_pure ?_))
  refine ⟨plainId_quiet FB.init.plain _, codeAny_builtin FB.initEntry ?_⟩
  refine PySem.W.exc_init_tree (cls := .ref C) (t0 := t1) (dv := none) (c2 := .none) (c3 := .none) (b4 := .bool false) ho hl fun h' k hx _ => ?_
  have J := I.write (t' := t) (x := a) (e := a) (o := exo a C none) (by rw [e]; exact True.intro) (.inl rfl) k ⟨_, hx⟩ (exo_ok hx)
  have eu : upd H a (exo a C none) = H := by
    funext b
    by_cases hb : b = a
    · rw [hb, upd_same, e]
    · rw [upd_ne hb]
  rw [eu] at J
  exact h _ J
theorem at_mcall {M : Model} {A : Around} {cd : Code} {E : Value → Shared → Prop} {s : Shared} {env : PySem.Env} {o : Expr} {name : Str} {apos pos : Pos} {args : List Expr} {Q : Value → Shared → Prop}
    (hfew : methodCallForm (args.length + ([] : List Keyword).length) (backTo pos (starEach args env)) (backToKw pos (keywordEach [] env)) = true) (hline : (apos.endLine == pos.line) = true)
    (h : PySem.wpAt M A cd (attributeBase o name env (eval o env)) (fun ov s₁ => wpAny M A (getMethod ov name (do return (← importBound o env).getD true)) (fun fx s₂ => wpAny M A (callWith pos fx.1 fx.2 (backTo pos (starEach args env)) []) Q E s₂) E s₁) E s) :
    PySem.wpAt M A cd (eval (.Call (.Attribute o name apos) args [] pos) env) Q E s := by
  have he : eval (.Call (.Attribute o name apos) args [] pos) env = (do
      let ov ← attributeBase o name env (eval o env)
      standAt apos.atName
      methodCall o name apos pos env ov (args.length + ([] : List Keyword).length) (backTo pos (starEach args env)) (backToKw pos (keywordEach [] env))) := by rfl
  rw [he]
  refine PySem.wpAt_bind (PySem.wpAt_mono h (fun ov s₁ h₁ => PySem.wpAt_of_wpAny (wpAny_bind (wpAny_standAt ?_))) fun _ _ x => x)
  have hpos : methodCallPos true o env apos pos = pure pos := by unfold methodCallPos; simp [hline]
  unfold methodCall
  rw [hfew]
  refine wpAny_bind (wpAny_holding ?_)
  show wpAny M A (getMethod ov name (do return (← importBound o env).getD true)) _ _ _
  refine wpAny_mono h₁ (fun fx s₂ h₂ => ?_) fun _ _ x => x
  exact wpAny_bind (wpAny_of_eq hpos h₂)
section
variable {CX : CXT} {P : Program} {w : World} {K : PySem.W.Frag} {mg : Str → Option Value} {base : Heap} {f D : Addr} {F : NF} {ps N : List Str} {k : Nat} {p0 p1 p2 p3 p4 p5 : Pos}
/-- self.f = x, .. of all parameters -/
def stored (H : Hp) (a C : Addr) (fs : List (Str × V)) (Q : VK) : Prop := ∀ dx, H dx = none → dx ≠ a → Q .non (upd (upd H dx (exd dx fs)) a (exo a C (some dx)))
/-- what such an __init__ does -/
def spX (K : PySem.W.Frag) (D : Addr) (np : Nat) (fs : List V → List (Str × V)) : Sp := fun vs H Q _ => ∃ a ys, vs = .ref a :: ys ∧ ys.length = np ∧ H a = some (exo a D none) ∧ stored H a D (fs ys) Q
theorem fn_xinit (hline : (p2.endLine == p4.line) = true) {np : Nat} {fs : List V → List (Str × V)} {m : Str} {kk : Nat} {rest : List Stmt} (h : XIn P K f F D ps N) (hp : ps.length = np + 1)
    (hb : F.body = .Expr (.Call (.Attribute (.Call (.Name "super" p0) [] [] p1) "__init__" p2) [.Constant (.str m) kk p3] [] p4) p5 :: rest)
    {oc : Value} {od : Option Addr} {osl : Array (Option Value)} {doc pm ctv : Value} (lk : K.lookup f = some ⟨oc, od, .func (F.fd doc pm ctv), osl⟩)
    (hrest : ∀ (A : Around) (outer : List PySem.Env) (s : Shared) (H : Hp) (a : Addr) (ys : List V) (Q : VK) (E : XK), ys.length = np → H a = some (exo a D none) → stored H a D (fs ys) Q →
      ∃ t, PSs (ncx CX P w K mg base N F f A outer s H E) rest t ∧ t { nx := fun _ H' => Q .non H', rt := Q } (startF N (.ref a :: ys) [some (.ref D)]) H) :
    FnOk P w K mg base CX (k + 1) f (F.fd doc pm ctv) ps (spX K D np fs) := by
  refine ⟨fun vs H Q E ⟨a, ys, e, hy, _⟩ => by rw [e, List.length_cons, hy, hp], fun A outer s H args us vs Q E hr e0 hbd r ⟨a, ys, e, hy, hexo, hq⟩ => ?_⟩
  subst e
  obtain ⟨cc, cl, cld, csl, hcl', hcell⟩ := h.cell
  obtain ⟨ccl, cdd, vs, ccs, file, tf, hcode, hvs, hfile⟩ := h.file
  obtain ⟨ar, har, pr, eps⟩ := h.fst
  have KX : K.In s.heap := e0.mod.kin.keeps fun b o e => (e0.bs b o e).1
  have lim : s.heap.NoLimit := e0.mod.nolimit.keeps fun b o e => (e0.bs b o e).1
  have C0 : CellsAt F.cl ["__class__"] [some (.ref D)] s.heap H := by
    rw [hcl']
    have one : ∀ y c, List.lookup y [(("__class__" : Str), cc)] = some c → y = "__class__" ∧ c = cc := fun y c e => by
      rw [List.lookup_cons] at e
      split at e
      · rename_i h1
        cases e
        exact ⟨by simpa using h1, rfl⟩
      · cases e
    refine ⟨rfl, fun y c e => ?_, fun x y c e1 e2 => by rw [(one x c e1).1, (one y c e2).1], fun i y e => ?_⟩
    · obtain ⟨_, rfl⟩ := one y c e
      exact ⟨(e0.bs _ _ (e0.mod.kin _ _ hcell)).2, _, _, KX _ _ hcell, rfl⟩
    · cases i with
      | zero =>
        cases e
        exact ⟨cc, by rw [List.lookup_cons]; simp, fun v e => by cases e; exact ⟨.ref D, rfl, _, KX _ _ hcell, rfl⟩⟩
      | succ i => cases e
  have hl : (V.ref a :: ys).length = ps.length := by rw [List.length_cons, hy, hp]
  refine PySem.ks_codeAny_call_defAt hr.depth (KX _ _ lk) rfl lim (PySem.W.codeRec_of KX h.cd) rfl hbd h.sc.nocell (fun ⟨n, _⟩ hy => h.sc.par n (List.of_mem_zip hy).1) (fun h₁ hns kp => ?_) h.sc.co h.sc.gen h.sc.kind
  have I : Inv (ncx CX P w K mg base N F f A outer s H E) [] (startF N (.ref a :: ys) [some (.ref D)]) H { s with heap := h₁, toks := s.toks + (ps.zip us).length } := inv_startN h.sc hr.hd e0 hl r C0 hns kp
  obtain ⟨t, ht, hq'⟩ := hrest A outer s H a ys Q E hy hexo hq
  have fin : ∀ s1, Inv (ncx CX P w K mg base N F f A outer s H E) [] (startF N (.ref a :: ys) [some (.ref D)]) H s1 → wpAny (model P w) (A.deeper (envF F f s.heap.objs.size)) (execs rest (envF F f s.heap.objs.size))
      (fun fl s' => CR CX outer P w H s Q E (.ok (.ret (match fl with | .ret v => v | _ => .none))) s')
      (fun e s' => wpAny (model P w) (A.deeper (envF F f s.heap.objs.size)) (leaving (envF F f s.heap.objs.size) e) (fun _ s'' => CR CX outer P w H s Q E (.error e) s'') (fun e' s'' => CR CX outer P w H s Q E (.error e') s'') s') s1 := fun s1 J => by
    refine wpAny_mono (ht.run [] _ (startF N (.ref a :: ys) [some (.ref D)]) H _ J hq') (fun fl s' hs => ?_) fun e s' hs => hs
    have fin : ∀ {σ' : L2.St} {H' : Hp} {v : V} {u : Value}, Inv (ncx CX P w K mg base N F f A outer s H E) [] σ' H' s' → L2.RelV v u → Q v H' → CE outer P w H s Q u s' :=
      fun {σ' H' v u} J rv q => ⟨v, H', J.os, J.bare, J.base, J.hok, rv, q⟩
    cases fl with
    | ret u =>
      obtain ⟨v, σ', H', J, rv, q⟩ := hs
      exact fin J rv q
    | next =>
      obtain ⟨σ', H', J, q⟩ := hs
      exact fin (v := V.non) (u := Value.none) J rfl q
    | brk =>
      obtain ⟨_, _, _, q⟩ := hs
      exact False.elim q
    | cont =>
      obtain ⟨_, _, _, q⟩ := hs
      exact False.elim q
  show PySem.wpAt (model P w) (A.deeper (envF F f s.heap.objs.size)) (.func F.body (envF F f s.heap.objs.size)) (execs F.body (envF F f s.heap.objs.size)) _ _ _
  have ksup : (envF F f s.heap.objs.size).kindOf "super" = some .globalImplicit := h.sup
  have kcls : (envF F f s.heap.objs.size).kindOf "__class__" = some .free := h.sc.frk _ (by simp)
  have kself : (envF F f s.heap.objs.size).kindOf ar.arg = some .local := h.sc.par _ (by rw [eps]; exact List.mem_cons_self ..)
  have kfun : (envF F f s.heap.objs.size).scope.kind = .function := h.sc.kind
  have hxC : a ≠ D := fun z => by
    obtain ⟨t1, ho⟩ := exo_at e0.hok hexo
    obtain ⟨nm, q, N, bs, bm, sn, sub, ab, col, dd, k0, k1, k2, k3, k5, hC, hbm⟩ := h.cls.cls
    have := KX _ _ hC
    rw [← z, ho] at this
    cases this
  rw [hb]
  obtain ⟨t1, hoa⟩ := exo_at I.hok hexo
  obtain ⟨nm, q, Ns, bs, bm, sn, sub, ab, col, dd, k0, k1, k2, k3, k5, hC, hbm⟩ := h.cls.cls
  have hcl : PySem.W.clsIn K D = some { name := nm, bases := bs, mro := .ref D :: bm, ns := Ns, qualname := q, hasDict := true, slotNames := sn, subclasses := sub, abstract := ab, collection := col, hasDel := false } := by unfold PySem.W.clsIn; rw [hC] <;> rfl
  refine PySem.ks_wpAt_execs_cons (PySem.ks_wpAt_Expr_any (at_mcall rfl hline (PySem.ks_wpAt_super_base ksup kcls (by decide) rfl (I.kIn _ _ lk) rfl har rfl (I.kIn _ _ hcode) rfl hvs hfile h.top ?_)) I.quiet rfl)
  obtain ⟨mb, b1, b2⟩ := I.mod.blt
  have hmg : mg "super" = none := PySem.W.mg_none_of e0.mod.kin e0.mod.glob h.mg
  refine PySem.W.ks_loadName_global kfun ksup (Calls.loadGlobal_builtin (env := envF F f s.heap.objs.size) (I.mod.glob.keeps I.bk) hmg (b1.keeps I.bk) ((b2 "super" (by decide)).trans (show bootBuiltins "super" = some (.type "super") by first | boot_by_name | rfl | kernel_rfl)) ⟨rfl, ?_⟩)
  refine wpAny_loadName_free kfun kcls (c := cc) (by show F.cl.lookup _ = _; rw [hcl']; rfl) ⟨_, I.kIn _ _ hcell, rfl⟩ ?_
  obtain ⟨mL, hnL, hlL⟩ := I.loc
  have hN0 : N[0]? = some ar.arg := by
    have := h.sc.pre
    rw [eps, List.cons_append] at this
    cases N with
    | nil => simp at this
    | cons n N => rw [List.take_cons (by simp)] at this; injection this with h1 h2; rw [h1]; rfl
  obtain ⟨u0, ru, lu⟩ := hlL 0 ar.arg (.ref a) hN0 rfl (.inl kself)
  obtain rfl : u0 = Value.ref a := ru
  have hma : mL ar.arg = some (.ref a) := by
    rcases lu with ⟨_, e⟩ | ⟨z, _⟩
    · exact e
    · have z : (envF F f s.heap.objs.size).kindOf ar.arg = some .cell ∨ (envF F f s.heap.objs.size).kindOf ar.arg = some .free := z
      rw [kself] at z
      rcases z with z | z <;> cases z
  refine wpAny_loadName_local kfun kself hnL hma ?_
  refine PySem.ks_wpAny_isType_cls (I.kIn _ _ hC) rfl ⟨rfl, ?_⟩
  refine PySem.ks_wpAny_call_super (I.kIn _ _ hC) rfl hoa rfl (fun c e => nomatch e) (PySem.W.looks_mroIn I.kIn h.own) (fun h' e k => ?_)
  have I2 := I.kept (t' := s.toks + (ps.zip us).length) k
  have IA : PySem.W.InstAt h' a { cls := .ref D, data := .fields #[.ref t1, .none, .none, .none, .bool false, .none] } D none := ⟨k _ _ hoa, rfl, rfl, trivial⟩
  have hI : PySem.W.Looks (model P w) h' (isInstance (.ref a) (.type "ValueError")) true := IA.type.andThen (PySem.W.looks_subIn I2.kIn h.vE)
  have hm : PySem.W.alongIn K "__init__" (((Value.ref D :: bm).dropWhile (· != .ref D)).drop 1) = some (some (.builtin "ValueError.__init__")) := by
    have := h.nxt
    unfold PySem.W.ks_superIn at this
    rw [hcl] at this
    exact this
  refine PySem.W.kxs_getMethod PySem.W.kxs_ValueError e (PySem.W.looks_opaque I2.kIn h.opq) (l₀ := .ref D :: bm) (fun A Q E s k q => wpAny_bind ((PySem.W.looks_clsIn I2.kIn hcl) A _ E s k (wpAny_pure q))) rfl I2.kIn hm hI hxC (by decide) ?_
  have J2 : Inv (ncx CX P w K mg base N F f A outer s H E) [(h'.objs.size, PySem.W.kxs_mw "ValueError.__init__" a)] (startF N (.ref a :: ys) [some (.ref D)]) H { s with heap := h'.push (PySem.W.kxs_mw "ValueError.__init__" a), toks := s.toks + (ps.zip us).length + 1 } :=
    ClX.pin_new (s := { s with heap := h', toks := s.toks + (ps.zip us).length }) (h' := h'.push (PySem.W.kxs_mw "ValueError.__init__" a)) I2 (t' := s.toks + (ps.zip us).length + 1) (fun b o q => Heap.get?_push_of_some _ q) (Nat.le_refl _) (Heap.get?_push_at rfl rfl) (fun v e => nomatch e)
  refine PySem.W.kxs_callWith (i := "ValueError.__init__") (x := a) rfl (Calls.evalArgs_plain ?_)
  have ha : PA (ncx CX P w K mg base N F f A outer s H E) [.Constant (.str m) kk p3] (tCons (tC (.str m)) tNil) := pa_cons pe_str pa_nil
  refine wpAny_mono (ha.run p4 _ _ _ H (fun vs H1 => vs = [V.str m] ∧ H1 = H) J2 ⟨rfl, rfl⟩) (fun us2 s2 ⟨vs2, H2, J3, rv, ev, eH⟩ => ?_) fun e s' hs => hs
  subst ev
  subst eH
  have hu3 := (J3.pin _ (List.mem_append_right _ (List.mem_cons_self ..))).1
  have J4 := J3.pins_of (pins' := []) (fun p hp => absurd hp (by simp))
  refine ⟨hu3, run_bound h.cls J4 hexo hu3 (by show us2.length ≤ sizeLine; rw [← rv.length, sizeLine_eq]; show 1 ≤ 16777216; decide) fun s' J5 => ?_⟩
  exact PySem.wpAt_of_wpAny (fin s' J5)
/-- one field -/
theorem fn_x1 (hline : (p2.endLine == p4.line) = true) {m : Str} {kk : Nat} {pn n1 fl : Str} {q0 q1 q2 q3 : Pos} (h : XIn P K f F D [pn, n1] [pn, n1, "__class__"]) (hn : PySem.W.findIn K (.ref D) fl = some none)
    (hb : F.body = [.Expr (.Call (.Attribute (.Call (.Name "super" p0) [] [] p1) "__init__" p2) [.Constant (.str m) kk p3] [] p4) p5, .Assign [.Attribute (.Name pn q0) fl q1] (.Name n1 q2) q3])
    (hd : ∀ x ∈ [pn, n1], (x == ("__debug__" : Str)) = false ∧ (x == ("__classdict__" : Str)) = false)
    {oc : Value} {od : Option Addr} {osl : Array (Option Value)} {doc pm ctv : Value} (lk : K.lookup f = some ⟨oc, od, .func (F.fd doc pm ctv), osl⟩) :
    FnOk P w K mg base CX (k + 1) f (F.fd doc pm ctv) [pn, n1] (spX K D 1 fun ys => match ys with | [y] => [(fl, y)] | _ => []) := by
  refine fn_xinit hline h rfl hb lk fun A outer s H a ys Q E hy ha hq => ?_
  obtain ⟨y, rfl⟩ : ∃ y, ys = [y] := by
    match ys, hy with
    | [y], _ => exact ⟨y, rfl⟩
  have v1 : Vis F.scope pn := .inl (h.sc.par _ (by simp))
  have v2 : Vis F.scope n1 := .inl (h.sc.par _ (by simp))
  refine ⟨_, pss_cons (ps_ost (pe_var (i := 0) rfl v1 (hd _ (by simp)).1 (hd _ (by simp)).2) (pe_var (i := 1) rfl v2 (hd _ (by simp)).1 (hd _ (by simp)).2)) pss_nil, ?_⟩
  refine ⟨y, rfl, .ref a, rfl, a, D, rfl, h.cls, hn, .inl ⟨ha, fun dx n ne => ?_⟩⟩
  exact hq dx n ne
/-- two fields -/
theorem fn_x2 (hline : (p2.endLine == p4.line) = true) {m : Str} {kk : Nat} {pn n1 n2 f1 f2 : Str} {q0 q1 q2 q3 r0 r1 r2 r3 : Pos} (h : XIn P K f F D [pn, n1, n2] [pn, n1, n2, "__class__"]) (hn1 : PySem.W.findIn K (.ref D) f1 = some none) (hn2 : PySem.W.findIn K (.ref D) f2 = some none)
    (hb : F.body = [.Expr (.Call (.Attribute (.Call (.Name "super" p0) [] [] p1) "__init__" p2) [.Constant (.str m) kk p3] [] p4) p5, .Assign [.Attribute (.Name pn q0) f1 q1] (.Name n1 q2) q3, .Assign [.Attribute (.Name pn r0) f2 r1] (.Name n2 r2) r3])
    (hd : ∀ x ∈ [pn, n1, n2], (x == ("__debug__" : Str)) = false ∧ (x == ("__classdict__" : Str)) = false)
    {oc : Value} {od : Option Addr} {osl : Array (Option Value)} {doc pm ctv : Value} (lk : K.lookup f = some ⟨oc, od, .func (F.fd doc pm ctv), osl⟩) :
    FnOk P w K mg base CX (k + 1) f (F.fd doc pm ctv) [pn, n1, n2] (spX K D 2 fun ys => match ys with | [y, z] => [(f2, z), (f1, y)] | _ => []) := by
  refine fn_xinit hline h rfl hb lk fun A outer s H a ys Q E hy ha hq => ?_
  obtain ⟨y, z, rfl⟩ : ∃ y z, ys = [y, z] := by
    match ys, hy with
    | [y, z], _ => exact ⟨y, z, rfl⟩
  have v1 : Vis F.scope pn := .inl (h.sc.par _ (by simp))
  have v2 : Vis F.scope n1 := .inl (h.sc.par _ (by simp))
  have v3 : Vis F.scope n2 := .inl (h.sc.par _ (by simp))
  refine ⟨_, pss_cons (ps_ost (pe_var (i := 0) rfl v1 (hd _ (by simp)).1 (hd _ (by simp)).2) (pe_var (i := 1) rfl v2 (hd _ (by simp)).1 (hd _ (by simp)).2))
    (pss_cons (ps_ost (pe_var (i := 0) rfl v1 (hd _ (by simp)).1 (hd _ (by simp)).2) (pe_var (i := 2) rfl v3 (hd _ (by simp)).1 (hd _ (by simp)).2)) pss_nil), ?_⟩
  refine ⟨y, rfl, .ref a, rfl, a, D, rfl, h.cls, hn1, .inl ⟨ha, fun dx n ne => ?_⟩⟩
  refine ⟨z, rfl, .ref a, rfl, a, D, rfl, h.cls, hn2, .inr ⟨dx, _, upd_same, by rw [upd_ne ne, upd_same], by simp, ?_⟩⟩
  have e : upd (upd (upd H dx (exd dx [(f1, y)])) a (exo a D (some dx))) dx (exd dx [(f2, z), (f1, y)]) = upd (upd H dx (exd dx [(f2, z), (f1, y)])) a (exo a D (some dx)) := by
    funext b
    by_cases h1 : b = dx
    · subst h1
      rw [upd_same, upd_ne ne, upd_same]
    · rw [upd_ne h1]
      by_cases h2 : b = a
      · rw [h2, upd_same, upd_same]
      · rw [upd_ne h2, upd_ne h1, upd_ne h2, upd_ne h1]
  show Q .non _
  rw [e]
  exact hq dx n ne
end
end Rx
end
section
set_option Elab.async false
set_option linter.all false
set_option maxRecDepth 100000
set_option maxHeartbeats 1000000
/-! Rx try: raise, try .. except X as e. -/
namespace Rx
open PySem PySem.Spec PyProof.Rows L2
section
variable {X : L2.Cx} {c : Ec} {x : Sx} {O' : Nat → Bool} {e : Expr} {es : List Expr} {r : Env → Wd → R (List Val)} {re : Env → Wd → R Val} {pos p : Pos}
/-- an exception class of the number k, by its name -/
structure XAt (X : L2.Cx) (c : Ec) (n : Str) (k : Nat) : Prop where
  mg : X.mg n = some (.ref (c.N.cls k))
  oex : OexC X.K (c.N.cls k)
  ini : ∃ fI j fd ps, PySem.W.findIn X.K (.ref (c.N.cls k)) "__init__" = some (some (.ref fI)) ∧ PySem.W.typeIn X.K (.ref fI) = some (.type "function") ∧ Binds X.K fd ps [] ∧ Room (j + 1) X.A ∧
    FnOk X.prog X.w X.K X.mg X.base (L2.CX X.prog X.w) j fI fd ps (spX X.K (c.N.cls k) (c.N.xfl k).length fun ys => (c.N.xfl k).zip ys.reverse)
def rseR (k n : Nat) (r : Env → Wd → R (List Val)) : Env → Wd → Out := fun ρ W => (r ρ W).go ρ fun vs w => match valsD vs with
  | some ds => if Nat.beq ds.length n then .ex k ds.reverse ρ w else .st
  | none => .st
theorem valsD_len : ∀ {xs : List Val} {ps : List PV}, valsD xs = some ps → xs.length = ps.length
  | [], ps, e => by cases e; rfl
  | .d p :: xs, ps, e => by
    rw [valsD] at e
    obtain ⟨qs, e1, rfl⟩ := Option.map_eq_some_iff.mp e
    rw [List.length_cons, List.length_cons, valsD_len e1]
  | .o _ :: _, ps, e => by cases e
  | .x _ _ :: _, ps, e => by cases e
  | .f _ _ :: _, ps, e => by cases e
theorem js_rse (G : Gd X c) (hh : c.hot = false) (htr : ∀ Oe, x.tr = some Oe → Oe = c.O) {n : Str} {k : Nat} {p2 : Pos} (F : XAt X c n k) (hg : Gl X n) (hd : (n == ("__debug__" : Str)) = false) (hn : (c.N.xfl k).length ≤ 900) (ha : JA X c (e :: es) r) (hst : isStar e = false) (hst2 : anyStar es = false) :
    JS X c x O' (.Raise (some (.Call (.Name n p) (e :: es) [] p2)) none pos) (rseR k (c.N.xfl k).length r) := by
  obtain ⟨fI, j, fd, ps, i1, i2, i3, i4, i5⟩ := F.ini
  refine ps_mono (ps_raise (G.calm hh) G.tk (pmk_oex F.oex i1 i2 i5 i4 i3 .nil (fun pins σ H s e s' I cx => passes_call G.tk (fun _ _ _ _ h => h.elim) pins σ H s e s' I cx) hg F.mg ha hd (starEach_no hst) (by rw [starEach_any, hst2]))) ?_
  rintro D σ H ⟨ρ, μ, W, hF, hW, hS, h⟩
  refine ⟨ρ, μ, W, hF, hW, ?_⟩
  refine OutOk.go (rep := fun H μ vs us => RepVL X.K c.N H μ c.pn vs us) htr hF hW hS (show OutOk X c x O' H D ((r ρ W).go ρ _) from h) fun vs W1 us H1 μ1 _ f1 _ w1 s1 rv h1 => ?_
  cases eo : valsD vs with
  | none => rw [eo] at h1; exact h1.elim
  | some ds =>
    rw [eo] at h1
    simp only at h1
    split at h1
    · rename_i hl
      have hl := Nat.eq_of_beq_eq_true hl
      have rl := rv.data eo
      have lu : us.length = (c.N.xfl k).length := by rw [← rl.length]; exact hl
      refine ⟨by omega, fun a ha => ⟨a, us, by rw [List.append_nil], lu, upd_same, fun dx hdx ne => ⟨rfl, dx, _, upd_same, by rw [upd_ne ne, upd_same], ?_, ?_⟩⟩⟩
      · rw [upd_ne ne] at hdx; exact hdx
      · have hdx : H1 dx = none := by rw [upd_ne ne] at hdx; exact hdx
        have eH : upd (del (upd (upd (upd H1 a (exo a (c.N.cls k) none)) dx (exd dx ((c.N.xfl k).zip us.reverse))) a (exo a (c.N.cls k) (some dx))) a) dx (.xd ((c.N.xfl k).zip us.reverse)) = upd H1 dx (.xd ((c.N.xfl k).zip us.reverse)) := by
          funext b
          by_cases h1 : b = dx
          · subst h1
            rw [upd_same, upd_same]
          · rw [upd_ne h1, upd_ne h1]
            by_cases h2 : b = a
            · rw [h2, del_same, ha]
            · rw [del_ne h2, upd_ne h2, upd_ne h1, upd_ne h2]
        rw [eH]
        have st : Stp μ1 μ1 H1 (upd H1 dx (.xd ((c.N.xfl k).zip us.reverse))) := Stp.new hdx
        refine h1 dx us.reverse σ _ μ1 (fun Oe he => by rw [htr Oe he]; exact f1.step st w1) (w1.new hdx) (s1.trans st) st.ext upd_same (RepL.mono st.ext _ _ rl.reverse) (by rw [List.length_reverse]; exact hl.symm) (fun hm => w1.there _ hm hdx)
    · exact h1.elim
/-! ### try .. except X as e -/
def isX : Val → Bool
  | .x _ _ => true
  | _ => false
def tryR (sub : Nat → Option Bool) (i : Nat) (rb rh : Env → Wd → Out) : Env → Wd → Out := fun ρ W => match rb ρ W with
  | .ex k fs ρ1 W1 => match sub k with
    | some true => match rh (setv ρ1 i (some (.x k fs))) W1 with
      | .nx ρ2 W2 => .nx (cleanX (setv ρ2 i none)) W2
      | .br ρ2 W2 => .br (cleanX (setv ρ2 i none)) W2
      | .rt v W2 => if isX v then .st else .rt v W2
      | _ => .st
    | some false => .ex k fs ρ1 W1
    | none => .st
  | o => o
theorem RepV.unx {K : PySem.W.Frag} {N : Nm} {H : Hp} {μ : List Addr} {pn pn' : List (Addr × Obj)} : ∀ {x : Val} {v : V}, isX x = false → RepV K N H μ pn x v → RepV K N H μ pn' x v
  | .d _, _, _, h => h
  | .o _, _, _, h => h
  | .x _ _, _, e, _ => by cases e
  | .f _ _, _, _, h => h
theorem FR.uncatch {K : PySem.W.Frag} {N : Nm} {H0 H : Hp} {μ : List Addr} {pn : List (Addr × Obj)} {O : Nat → Bool} {σ : L2.St} {ρ : Env} (f : FR K N H0 H μ pn O σ ρ) (i : Nat) : FR K N H0 H μ [] O (σ.set i none) (cleanX (setv ρ i none)) := by
  have key : ∀ j v, getv (cleanX (setv ρ i none)) j = some v → j ≠ i ∧ getv ρ j = some v ∧ isX v = false := fun j v h => by
    obtain ⟨h1, h2⟩ := cleanX_get _ j v h
    have hj : j ≠ i := fun e => by
      subst e
      cases getv_setv_self ρ j none _ h1
    rw [getv_setv_ne ρ i j _ (fun e => hj e.symm)] at h1
    refine ⟨hj, h1, ?_⟩
    cases v <;> first | rfl | exact absurd rfl (h2 _ _)
  have ne : ∀ j, j ≠ i → (σ.set i none)[j]? = σ[j]? := fun j hj => by rw [List.getElem?_set_ne (fun e => hj e.symm)]
  have some' : ∀ j, getv (cleanX (setv ρ i none)) j ≠ none → j ≠ i ∧ getv ρ j ≠ none := fun j h => by
    cases e : getv (cleanX (setv ρ i none)) j with
    | none => exact absurd e h
    | some v =>
      obtain ⟨h1, h2, _⟩ := key j v e
      exact ⟨h1, by rw [h2]; exact nofun⟩
  refine ⟨fun j v h h2 => ?_, fun j v h h2 => ?_, fun j k a h1 h2 h3 h4 h5 h6 => ?_, by rw [cleanX_len, setv_len, List.length_set]; exact f.len⟩
  · obtain ⟨hj, h1, hx⟩ := key j v h
    obtain ⟨u, e, q⟩ := f.slot j v h1 h2
    exact ⟨u, by rw [ne j hj]; exact e, q.unx hx⟩
  · obtain ⟨hj, h1, hx⟩ := key j v h
    obtain ⟨p, a, e1, e2, q⟩ := f.own j v h1 h2
    exact ⟨p, a, e1, by rw [ne j hj]; exact e2, q⟩
  · obtain ⟨a1, a2⟩ := some' j h3
    obtain ⟨b1, b2⟩ := some' k h4
    rw [ne j a1] at h5
    rw [ne k b1] at h6
    exact f.apart j k a h1 h2 a2 b2 h5 h6
theorem setv_out : ∀ (ρ : Env) (i : Nat) (v : Option Val), ρ.length ≤ i → setv ρ i v = ρ
  | [], i, v, _ => by rw [setv]
  | a :: r, 0, v, h => by simp at h
  | a :: r, i + 1, v, h => by rw [setv, setv_out r i v (by simpa using h)]
theorem FR.catch {K : PySem.W.Frag} {N : Nm} {H0 H : Hp} {μ : List Addr} {pn : List (Addr × Obj)} {O : Nat → Bool} {σ : L2.St} {ρ : Env} (f : FR K N H0 H μ [] O σ ρ) {i : Nat} {x : Val} {v : V} (ho : O i = false) (r : RepV K N H μ pn x v) :
    FR K N H0 H μ pn O (σ.set i (some v)) (setv ρ i (some x)) := by
  have f' : FR K N H0 H μ pn O σ ρ := ⟨fun j v h h2 => by
    obtain ⟨u, e, q⟩ := f.slot j v h h2
    exact ⟨u, e, q.pn0⟩, f.own, f.apart, f.len⟩
  by_cases hi : i < σ.length
  · exact f'.set hi ho r
  · have h1 := f.len
    rw [setv_out ρ i _ (by omega), List.set_eq_of_length_le (by omega)]
    exact f'
theorem js_try {tb : List Stmt} {b₀ : Stmt} {hs : List Stmt} {n m : Str} {cc : Value} {i : Nat} {sub : Nat → Option Bool} {rb rh : Env → Wd → Out} {np pos' : Pos} (G : Gd X c) (hh : c.hot = false) (hpn : c.pn = []) (htr : ∀ Oe, x.tr = some Oe → Oe = c.O)
    (hst : X.stack = X.env :: X.outer) (hf : X.env.frame = some X.env.locals) (hi : X.N[i]? = some m) (hl : X.env.kindOf m = some .local) (hc : Names X n cc) (ho : c.O i = false)
    (hsub : ∀ k b, sub k = some b → PySem.W.exmOne X.K (.ref (c.N.cls k)) cc = some b)
    (hb : ∀ W pn xe, Gd (X.tr pn xe) { c with Wx := W } → PassesOwn (model X.prog X.w) X.A X.env xe → JSs (X.tr pn xe) { c with Wx := W } { x with tr := some c.O } O' tb rb)
    (hu : ∀ a oe pn, Gd (X.suite a ((a, oe) :: pn)) { c with Wx := fun _ _ _ _ => False, hot := true, pn := [(a, oe)] } → JSs (X.suite a ((a, oe) :: pn)) { c with Wx := fun _ _ _ _ => False, hot := true, pn := [(a, oe)] } { x with tr := none } O' (b₀ :: hs) rh) :
    JS X c x O' (.Try tb [.ExceptHandler (some (.Name n np)) (some m) (b₀ :: hs) pos'] [] [] pos) (tryR sub i rb rh) := by
  have P := ps_try_as (X := X) (np := np) (pos := pos) (pos' := pos') (tb := fun W => tS X { c with Wx := W } { x with tr := some c.O } O' rb)
    (ts := fun a cls d => fun D σ H => ∀ oe, Zc cls d oe → (∃ vs, oe.data = .fields vs) → tS X { c with Wx := fun _ _ _ _ => False, hot := true, pn := [(a, oe)] } { x with tr := none } O' rh D σ H) (Wout := c.Wx)
    hst hf G.nd hi hl hc G.tk
    (fun W pn xe tk ps => hb W pn xe ⟨G.calm, G.nd, fun q hq => absurd (show q ∈ c.pn from hq) (by rw [hpn]; simp), G.hu, tk⟩ ps)
    (fun a oe cls d pn hz hd => pss_mono (hu a oe pn ⟨fun z => (Bool.noConfusion z), G.nd, fun q hq => by
        have hq : q ∈ [(a, oe)] := hq
        rw [List.mem_singleton] at hq
        rw [hq]
        exact List.mem_cons_self .., G.hu, fun u s' ⟨_, _, _, _, _, _, _, _, _, _, _, _, _, _, _, _, z⟩ => z⟩) fun D σ H h => h oe hz hd)
  refine ⟨fun pins s σ H D I ⟨ρ, μ, W, hF, hW, hS, h⟩ => P.run pins s σ H D I ⟨ρ, μ, W, hF, hW, hS, ?_⟩⟩
  have hlen := len_lt I.len hi
  have h : OutOk X c x O' H D (tryR sub i rb rh ρ W) := h
  unfold tryR at h
  cases e : rb ρ W with
  | nx ρ1 W1 => rw [e] at h; exact h
  | rt v W1 => rw [e] at h; exact h
  | br ρ1 W1 => rw [e] at h; exact h
  | st => rw [e] at h; exact h
  | ex k fs ρ1 W1 =>
    rw [e] at h
    simp only at h
    intro d vs σ1 H1 μ1 f1 w1 s1 e1 hd rl hl1 hdm
    have f1 := f1 c.O rfl
    cases es : sub k with
    | none => rw [es] at h; exact h.elim
    | some b =>
      rw [es] at h
      refine ⟨b, hsub k b es, fun hb' a ha oe hz hdat => ?_, fun hb' => ?_⟩
      · subst hb'
        simp only at h
        have f2 : FR X.K c.N c.H0 H1 μ1 [(a, oe)] c.O (σ1.set i (some (.ref a))) (setv ρ1 i (some (.x k fs))) := by
          rw [hpn] at f1
          refine f1.catch ho ⟨a, oe, d, vs, rfl, List.mem_singleton.mpr rfl, hz, hdat, hd, rl, hl1⟩
        refine ⟨_, μ1, W1, f2, w1, s1, ?_⟩
        cases eh : rh (setv ρ1 i (some (.x k fs))) W1 with
        | nx ρ2 W2 =>
          rw [eh] at h
          exact fun σ2 H2 μ2 f w s ex => h _ H2 μ2 (by rw [hpn]; exact f.uncatch i) w s (e1.trans ex)
        | br ρ2 W2 =>
          rw [eh] at h
          exact fun σ2 H2 μ2 f w s ex => h _ H2 μ2 (by rw [hpn]; exact f.uncatch i) w s (e1.trans ex)
        | rt v W2 =>
          rw [eh] at h
          simp only at h
          split at h
          · exact h.elim
          · rename_i hx
            exact fun u H2 μ2 w s ex r => h u H2 μ2 w s (e1.trans ex) (r.unx (by simpa using hx))
        | ex _ _ _ _ => rw [eh] at h; exact h.elim
        | st => rw [eh] at h; exact h.elim
      · subst hb'
        exact h d vs σ1 H1 μ1 (fun Oe he => by rw [htr Oe he]; exact f1) w1 s1 e1 hd rl hl1 hdm
end
end Rx
end
section
set_option Elab.async false
set_option linter.all false
set_option maxRecDepth 100000
set_option maxHeartbeats 1000000
/-! Rx try: a caught exception's fields. -/
namespace Rx
open PySem PySem.Spec PyProof.Rows L2
section
variable {X : L2.Cx} {c : Ec} {e : Expr} {re : Env → Wd → R Val} {pos : Pos}
def xfR (fx : Nat → Option Nat) (re : Env → Wd → R Val) : Env → Wd → R Val := fun ρ W => (re ρ W).bind fun v w => match v with
  | .x k fs => (match fx k with
    | some j => R.of ((nthO fs j).map .d) w
    | none => .st)
  | _ => .st
theorem zip_lookup : ∀ {ns : List Str} {vs : List V} {j : Nat} {n : Str} {v : V}, ns.Nodup → ns[j]? = some n → vs[j]? = some v → (ns.zip vs).lookup n = some v
  | [], _, _, _, _, _, h, _ => by cases h
  | _ :: _, [], _, _, _, _, _, h => by cases h
  | a :: ns, b :: vs, 0, n, v, nd, h1, h2 => by
    cases h1
    cases h2
    rw [List.zip_cons_cons, List.lookup_cons]
    simp
  | a :: ns, b :: vs, j + 1, n, v, nd, h1, h2 => by
    have hne : (n == a) = false := by
      have := (List.nodup_cons.mp nd).1
      simp
      intro z
      exact this (z ▸ List.mem_of_getElem? h1)
    rw [List.zip_cons_cons, List.lookup_cons, hne]
    exact zip_lookup (List.nodup_cons.mp nd).2 h1 h2
theorem je_xf (G : Gd X c) {n : Str} {fx : Nat → Option Nat} (hf : ∀ k j, fx k = some j → XfC X.K (c.N.cls k) ∧ PySem.W.findIn X.K (.ref (c.N.cls k)) n = some none ∧ (c.N.xfl k)[j]? = some n ∧ (c.N.xfl k).Nodup) (hs : notSuper e = true) (he : JE X c .z e re) :
    JE X c .z (.Attribute e n pos) (xfR fx re) := by
  refine ⟨fun pins s σ H Q I ⟨ρ, μ, W, hF, hW, hA⟩ => ?_⟩
  have base : tE X c .z re σ H fun v H1 => ∃ (a : Addr) (oe : Obj) (d C : Addr) (fs : List (Str × V)) (u : V), v = .ref a ∧ (a, oe) ∈ X.pn ∧ Zc (.ref C) (some d) oe ∧ (∃ xs, oe.data = .fields xs) ∧ XfC X.K C ∧ PySem.W.findIn X.K (.ref C) n = some none ∧ H1 d = some (.xd fs) ∧ fs.lookup n = some u ∧ Q u H1 := by
    refine ⟨ρ, μ, W, hF, hW, Ans.bind (rep1 := repV X c .z H) hA fun v W1 _ b H1 μ1 s1 w1 r1 hA1 => ?_⟩
    cases v with
    | x k fs =>
      cases ef : fx k with
      | none => simp only [ef] at hA1; exact hA1.elim
      | some j =>
        simp only [ef] at hA1
        obtain ⟨v, ev, hA1⟩ := hA1.ofo
        obtain ⟨p, ep, rfl⟩ := Option.map_eq_some_iff.mp ev
        obtain ⟨T, hno, hj, nd⟩ := hf k j ef
        obtain ⟨a, oe, d, vs, rfl, h2, h3, h4, h5, h6, h7⟩ := r1
        rw [nthO_get] at ep
        obtain ⟨u, eu, ru⟩ := h6.get ep
        exact ⟨a, oe, d, _, _, u, rfl, G.pnI _ h2, h3, h4, T, hno, h5, zip_lookup nd hj eu, hA1.here w1 ru⟩
    | _ => exact hA1.elim
  refine attr_of (attrBase_of hs) (thn (he.run pins s σ H _ I base) fun u s1 ⟨x, H1, I1, rx, a, oe, d, C, fs, v, ex, hp, hz, ⟨vs, hd⟩, T, hno, ea, l, q⟩ => ?_)
  subst ex
  obtain rfl : u = Value.ref a := rx
  obtain ⟨ha, _⟩ := I1.pin (a, oe) (List.mem_append_left _ hp)
  have hx : ObjOk X.prog X.w H1 s1.heap d (.xd fs) := I1.hok d _ ea
  obtain ⟨mA, hns, hr⟩ := hx
  obtain ⟨od, ho, hl⟩ := lookIn_ns hns
  obtain ⟨u, hu, ru⟩ := RelO.some_of (v := v) (o := mA n) (by rw [← l]; exact hr n)
  have J : PySem.W.InstAt s1.heap a oe C (some od) := ⟨ha, hz.1, by unfold PySem.W.notCls; rw [hd] <;> rfl, by rw [hz.2]; exact ho⟩
  exact HandSPX.exc_get I1.kIn J T.ga T.gg T.exC (PySem.W.findObj_own T.hdC hno rfl (by rw [hl, hu])) (handed_of ru) ⟨v, H1, I1.tok _, ru, q⟩
end
end Rx
end
section
set_option Elab.async false
set_option linter.all false
set_option maxRecDepth 100000
set_option maxHeartbeats 1000000
/-! Rx par: several names at once. -/
namespace Rx
open PySem PySem.Spec PyProof.Rows L2
section
variable {X : L2.Cx} {c : Ec} {x : Sx} {a b d : Expr} {ra rb rd : Env → Wd → R Val} {pos : Pos}
/-- own: new; else: for good -/
def flO (o : Bool) : Fl := if o then .f else .z
def newO (o : Bool) : Val → Bool
  | .d p => !o || isNew p
  | _ => !o
theorem FR.setF {H0 H Hs : Hp} {μ : List Addr} {O O' : Nat → Bool} {σ : L2.St} {ρ : Env} {i : Nat} {o : Bool} {y : Val} {v : V} (f : FR X.K c.N H0 H μ c.pn O σ ρ) (hi : i < σ.length) (hO : ∀ j, j ≠ i → O' j = O j) (ho : O' i = o) (hz : o = false → O i = false)
    (hnw : newO o y = true) (r : repV X c (flO o) Hs H μ y v) (h0 : ∀ a, Hs a = none → H0 a = none) (hn : ∀ a, o = true → v = .ref a → Hs a = none → ∀ j w, getv ρ j = some w → O j = true → j ≠ i → σ[j]? ≠ some (some (V.ref a))) :
    FR X.K c.N H0 H μ c.pn O' (σ.set i (some v)) (setv ρ i (some y)) := by
  cases o with
  | false =>
    have e : O' = O := by
      funext j
      by_cases z : j = i
      · rw [z, ho, hz rfl]
      · exact hO j z
    rw [e]
    exact f.set hi (hz rfl) (repV_z r)
  | true =>
    cases y with
    | d p =>
      obtain ⟨q, rfl, n0, hm, ro⟩ := new_at (show isNew p = true by simpa [newO] using hnw) (show RepF X.K Hs .f H μ p v from r)
      exact f.setO hi hO ho ro hm (h0 q n0) (hn q rfl rfl n0)
    | _ => cases hnw
/-- a thing kept a step on, of its kind -/
theorem repV_on {o : Bool} {Hs H H' : Hp} {μ μ' : List Addr} {W : Wd} {y : Val} {v : V} (s : Stp μ μ' H H') (w : WR X.K c.N H μ W) (hnw : newO o y = true) (r : repV X c (flO o) Hs H μ y v) : repV X c (flO o) Hs H' μ' y v := by
  cases o with
  | false => exact repV_zz (fl := .z) (RepV.step s w (repV_z r))
  | true =>
    cases y with
    | d p =>
      obtain ⟨q, rfl, n0, hm, ro⟩ := new_at (show isNew p = true by simpa [newO] using hnw) (show RepF X.K Hs .f H μ p v from r)
      obtain ⟨ob, ho⟩ := RepO.ex ro
      have ro' := RepO.mono s.ext (fun o h => s.keep q o h hm) ro
      cases p with
      | lst xs => exact ⟨q, rfl, n0, s.nin ho hm, ro'⟩
      | dct xs => exact ⟨q, rfl, n0, s.nin ho hm, ro'⟩
      | _ => exact ro'.elim
    | _ => cases hnw
def par2R (i j : Nat) (o1 o2 : Bool) (ra rb : Env → Wd → R Val) : Env → Wd → Out := fun ρ W => (ra ρ W).go ρ fun u w => if newO o1 u then (rb ρ w).go ρ fun v w => if newO o2 v then .nx (setv (setv ρ i (some u)) j (some v)) w else .st else .st
theorem js_par2 (G : Gd X c) (hh : c.hot = false) (htr : ∀ Oe, x.tr = some Oe → Oe = c.O) {O1 O2 : Nat → Bool} {i j : Nat} {n m : Str} {o1 o2 : Bool} {px py pt pt2 : Pos} {kt k2 : Nat} (hi : X.N[i]? = some n) (hj : X.N[j]? = some m) (hij : i ≠ j)
    (hx : X.env.scope.names.lookup n = some .local) (hy : X.env.scope.names.lookup m = some .local) (hO1 : ∀ k, k ≠ i → O1 k = c.O k) (hO2 : ∀ k, k ≠ j → O2 k = O1 k) (e1 : O1 i = o1) (e2 : O2 j = o2) (z1 : o1 = false → c.O i = false) (z2 : o2 = false → c.O j = false)
    (hw : swappedStores [.Tuple [.Name n px, .Name m py] kt pt] (.Tuple [a, b] k2 pt2) X.env = pure (some [n, m])) (hs : swapsWithSole [.Tuple [.Name n px, .Name m py] kt pt] (.Tuple [a, b] k2 pt2) pos.line X.env = pure false)
    (ha : JE X c (flO o1) a ra) (hb : JE X c (flO o2) b rb) (s1 : isStar a = false) (s2 : isStar b = false) : JS X c x O2 (.Assign [.Tuple [.Name n px, .Name m py] kt pt] (.Tuple [a, b] k2 pt2) pos) (par2R i j o1 o2 ra rb) := by
  refine ⟨fun pins s σ H D I ⟨ρ, μ, W, hF, hW, hS, h⟩ => (ps_par (G.calm hh) G.nd hi hj hij hx hy (pa_cons ha (pa_cons hb pa_nil (starEach_no s2)) (starEach_no s1)) hw hs).run pins s σ H D I ?_⟩
  have li := len_lt I.len hi
  have lj := len_lt I.len hj
  refine ⟨ρ, μ, W, hF, hW, ?_⟩
  refine OutOk.go (rep := repV X c (flO o1) H) htr hF hW hS (show OutOk X c x O2 H D ((ra ρ W).go ρ _) from h) fun u W1 u' H1 μ1 _ f1 st1 w1 t1 q1 h1 => ?_
  split at h1
  · rename_i n1
    refine ⟨ρ, μ1, W1, f1, w1, ?_⟩
    refine OutOk.go (rep := repV X c (flO o2) H1) htr f1 w1 t1 h1 fun v W2 v' H2 μ2 _ f2 st2 w2 t2 q2 h2 => ?_
    split at h2
    · rename_i n2
      refine ⟨u', v', rfl, ?_⟩
      have g1 : FR X.K c.N c.H0 H2 μ2 c.pn O1 (σ.set i (some u')) (setv ρ i (some u)) := f2.setF (Hs := H) li hO1 e1 z1 n1 (repV_on st2 w1 n1 q1) (fun a e => hS.free0 e) (fun a _ _ n0 k w g1 g2 _ z => by
        obtain ⟨y, p', _, g4, r, _⟩ := hF.own k w g1 g2
        rw [g4] at z
        cases z
        obtain ⟨o, ho⟩ := RepO.ex r
        rw [ho] at n0
        cases n0)
      have g2 : FR X.K c.N c.H0 H2 μ2 c.pn O2 ((σ.set i (some u')).set j (some v')) (setv (setv ρ i (some u)) j (some v)) := g1.setF (Hs := H1) (by rw [List.length_set]; exact lj) hO2 e2 (fun z => by rw [hO1 j (Ne.symm hij)]; exact z2 z) n2 q2 (fun a e => t1.free0 e) (fun a _ _ n0 k w g3 g4 _ z => by
        by_cases hk : k = i
        · subst hk
          rw [List.getElem?_set_self li] at z
          cases z
          cases getv_setv_self ρ k _ _ g3
          have eo : o1 = true := by rw [← e1]; exact g4
          subst eo
          cases u with
          | d p =>
            obtain ⟨q, eq, _, hm, ro⟩ := new_at (show isNew p = true by simpa [newO] using n1) (show RepF X.K H .f H1 μ1 p _ from q1)
            cases eq
            obtain ⟨o, ho⟩ := RepO.ex ro
            rw [ho] at n0
            cases n0
          | _ => cases n1
        · rw [getv_setv_ne ρ i k _ (fun z => hk z.symm)] at g3
          rw [List.getElem?_set_ne (fun z => hk z.symm)] at z
          rw [hO1 k hk] at g4
          obtain ⟨y, p', _, g5, r, _⟩ := f1.own k w g3 g4
          rw [g5] at z
          cases z
          obtain ⟨o, ho⟩ := RepO.ex r
          rw [ho] at n0
          cases n0)
      exact h2 _ H2 μ2 g2 w2 t2 (Ext.refl H2)
    · exact h2.elim
  · exact h1.elim
/-- the own things stand at H -/
def OE (H : Hp) (O : Nat → Bool) (σ : L2.St) (ρ : Env) : Prop := ∀ k w a, getv ρ k = some w → O k = true → σ[k]? = some (some (V.ref a)) → H a ≠ none
theorem FR.oe {H0 H : Hp} {μ : List Addr} {O : Nat → Bool} {σ : L2.St} {ρ : Env} (f : FR X.K c.N H0 H μ c.pn O σ ρ) : OE H O σ ρ := fun k w a g1 g2 g3 => by
  obtain ⟨y, p', _, g4, r, _⟩ := f.own k w g1 g2
  rw [g4] at g3
  cases g3
  obtain ⟨o, ho⟩ := RepO.ex r
  rw [ho]
  exact nofun
theorem OE.set {H : Hp} {O O' : Nat → Bool} {σ : L2.St} {ρ : Env} (h : OE H O σ ρ) {i : Nat} {v : V} {y : Val} (hi : i < σ.length) (hO : ∀ j, j ≠ i → O' j = O j) (hv : O' i = true → ∀ a, v = .ref a → H a ≠ none) : OE H O' (σ.set i (some v)) (setv ρ i (some y)) := fun k w a g1 g2 g3 => by
  by_cases hk : k = i
  · subst hk
    rw [List.getElem?_set_self hi] at g3
    cases g3
    exact hv g2 a rfl
  · rw [getv_setv_ne ρ i k _ (fun z => hk z.symm)] at g1
    rw [List.getElem?_set_ne (fun z => hk z.symm)] at g3
    rw [hO k hk] at g2
    exact h k w a g1 g2 g3
theorem new_there {o : Bool} {Hs H : Hp} {μ : List Addr} {y : Val} {v : V} (ho : o = true) (hnw : newO o y = true) (r : repV X c (flO o) Hs H μ y v) : ∀ a, v = .ref a → H a ≠ none := fun a e => by
  subst ho
  cases y with
  | d p =>
    obtain ⟨q, eq, _, _, ro⟩ := new_at (show isNew p = true by simpa [newO] using hnw) (show RepF X.K Hs .f H μ p v from r)
    rw [eq] at e
    cases e
    obtain ⟨ob, ho⟩ := RepO.ex ro
    rw [ho]
    exact nofun
  | _ => cases hnw
theorem Stp.some {μ μ' : List Addr} {H H' : Hp} (s : Stp μ μ' H H') {a : Addr} (h : H a ≠ none) : H' a ≠ none := fun e => h (s.free0 e)
def par3R (i j l : Nat) (o1 o2 o3 : Bool) (ra rb rd : Env → Wd → R Val) : Env → Wd → Out := fun ρ W => (ra ρ W).go ρ fun u w => if newO o1 u then (rb ρ w).go ρ fun v w => if newO o2 v then (rd ρ w).go ρ fun z w => if newO o3 z then .nx (setv (setv (setv ρ i (some u)) j (some v)) l (some z)) w else .st else .st else .st
theorem js_par3 (G : Gd X c) (hh : c.hot = false) (htr : ∀ Oe, x.tr = some Oe → Oe = c.O) {O1 O2 O3 : Nat → Bool} {i j l : Nat} {n m q : Str} {o1 o2 o3 : Bool} {px py pz pt pt2 : Pos} {kt k2 : Nat} (hi : X.N[i]? = some n) (hj : X.N[j]? = some m) (hl : X.N[l]? = some q) (hij : i ≠ j) (hil : i ≠ l) (hjl : j ≠ l)
    (hx : X.env.scope.names.lookup n = some .local) (hy : X.env.scope.names.lookup m = some .local) (hz : X.env.scope.names.lookup q = some .local) (hO1 : ∀ k, k ≠ i → O1 k = c.O k) (hO2 : ∀ k, k ≠ j → O2 k = O1 k) (hO3 : ∀ k, k ≠ l → O3 k = O2 k)
    (e1 : O1 i = o1) (e2 : O2 j = o2) (e3 : O3 l = o3) (z1 : o1 = false → c.O i = false) (z2 : o2 = false → c.O j = false) (z3 : o3 = false → c.O l = false)
    (hw : swappedStores [.Tuple [.Name n px, .Name m py, .Name q pz] kt pt] (.Tuple [a, b, d] k2 pt2) X.env = pure (some [n, m, q])) (hs : swapsWithSole [.Tuple [.Name n px, .Name m py, .Name q pz] kt pt] (.Tuple [a, b, d] k2 pt2) pos.line X.env = pure false)
    (ha : JE X c (flO o1) a ra) (hb : JE X c (flO o2) b rb) (hd : JE X c (flO o3) d rd) (s1 : isStar a = false) (s2 : isStar b = false) (s3 : isStar d = false) :
    JS X c x O3 (.Assign [.Tuple [.Name n px, .Name m py, .Name q pz] kt pt] (.Tuple [a, b, d] k2 pt2) pos) (par3R i j l o1 o2 o3 ra rb rd) := by
  refine ⟨fun pins s σ H D I ⟨ρ, μ, W, hF, hW, hS, h⟩ => (ps_par3 (G.calm hh) G.nd hi hj hl hij hil hjl hx hy hz (pa_cons ha (pa_cons hb (pa_cons hd pa_nil (starEach_no s3)) (starEach_no s2)) (starEach_no s1)) hw hs).run pins s σ H D I ?_⟩
  have li := len_lt I.len hi
  have lj := len_lt I.len hj
  have ll := len_lt I.len hl
  refine ⟨ρ, μ, W, hF, hW, ?_⟩
  refine OutOk.go (rep := repV X c (flO o1) H) htr hF hW hS (show OutOk X c x O3 H D ((ra ρ W).go ρ _) from h) fun u W1 u' H1 μ1 _ f1 st1 w1 t1 q1 h1 => ?_
  split at h1
  · rename_i n1
    refine ⟨ρ, μ1, W1, f1, w1, ?_⟩
    refine OutOk.go (rep := repV X c (flO o2) H1) htr f1 w1 t1 h1 fun v W2 v' H2 μ2 _ f2 st2 w2 t2 q2 h2 => ?_
    split at h2
    · rename_i n2
      refine ⟨ρ, μ2, W2, f2, w2, ?_⟩
      refine OutOk.go (rep := repV X c (flO o3) H2) htr f2 w2 t2 h2 fun z W3 z' H3 μ3 _ f3 st3 w3 t3 q3 h3 => ?_
      split at h3
      · rename_i n3
        refine ⟨u', v', z', rfl, ?_⟩
        have g1 : FR X.K c.N c.H0 H3 μ3 c.pn O1 (σ.set i (some u')) (setv ρ i (some u)) := f3.setF (Hs := H) li hO1 e1 z1 n1 (repV_on st3 w2 n1 (repV_on st2 w1 n1 q1)) (fun a e => hS.free0 e) (fun a _ _ n0 k w g1 g2 _ z => hF.oe k w a g1 g2 z n0)
        have oe1 : OE H1 O1 (σ.set i (some u')) (setv ρ i (some u)) := f1.oe.set li hO1 fun eo => new_there (e1 ▸ eo) n1 q1
        have oe2 : OE H2 O2 ((σ.set i (some u')).set j (some v')) (setv (setv ρ i (some u)) j (some v)) :=
          OE.set (fun k w a h1 h2 h3 => st2.some (oe1 k w a h1 h2 h3)) (by rw [List.length_set]; exact lj) hO2 fun eo => new_there (e2 ▸ eo) n2 q2
        have g2 : FR X.K c.N c.H0 H3 μ3 c.pn O2 ((σ.set i (some u')).set j (some v')) (setv (setv ρ i (some u)) j (some v)) := g1.setF (Hs := H1) (by rw [List.length_set]; exact lj) hO2 e2 (fun z => by rw [hO1 j (Ne.symm hij)]; exact z2 z) n2 (repV_on st3 w2 n2 q2)
          (fun a e => t1.free0 e) (fun a _ _ n0 k w g1 g2 _ z => oe1 k w a g1 g2 z n0)
        have g3 : FR X.K c.N c.H0 H3 μ3 c.pn O3 (((σ.set i (some u')).set j (some v')).set l (some z')) (setv (setv (setv ρ i (some u)) j (some v)) l (some z)) := g2.setF (Hs := H2) (by rw [List.length_set, List.length_set]; exact ll) hO3 e3
          (fun z => by rw [hO2 l (Ne.symm hjl), hO1 l (Ne.symm hil)]; exact z3 z) n3 q3 (fun a e => t2.free0 e) (fun a _ _ n0 k w g1 g2 _ z => oe2 k w a g1 g2 z n0)
        exact h3 _ H3 μ3 g3 w3 t3 (Ext.refl H3)
      · exact h3.elim
    · exact h2.elim
  · exact h1.elim
/-! ### a, b = e -/
theorem js_tup (G : Gd X c) (hh : c.hot = false) (htr : ∀ Oe, x.tr = some Oe → Oe = c.O) {es : List (Str × Pos)} {is : List Nat} {kt : Nat} {pt : Pos} (h : NmOk X c es is) (he : JE X c .z a ra)
    (hs : swapsWithSole [.Tuple (nms es) kt pt] a pos.line X.env = pure false) (hw : swappedStores [.Tuple (nms es) kt pt] a X.env = pure none) (h1 : (assignEach [.Tuple (nms es) kt pt] X.env).map (·.2) = [assign (.Tuple (nms es) kt pt) X.env]) :
    JS X c x c.O (.Assign [.Tuple (nms es) kt pt] a pos) (fun ρ W => (dat (ra ρ W)).go ρ fun v w => match bindT ρ (.tp is) v with | some ρ => .nx ρ w | none => .st) := by
  refine ps_mono (ps_asg he (jg_tp G hh h) hs hw h1) ?_
  rintro D σ H ⟨ρ, μ, W, hF, hW, hS, h⟩
  refine ⟨ρ, μ, W, hF, hW, OutOk.goD (x := x) (Hs := H) htr hF hW hS h fun v W1 b H1 μ1 _ f1 st w s1 q h1 => ?_⟩
  cases e : bindT ρ (.tp is) v with
  | none => rw [e] at h1; exact h1.elim
  | some ρ' =>
    rw [e] at h1
    exact ⟨v, ρ, μ1, W1, ρ', f1, w, q, e, fun σ' f => h1 σ' H1 μ1 f w s1 (Ext.refl H1)⟩
end
end Rx
end
section
set_option Elab.async false
set_option linter.all false
set_option maxRecDepth 100000
set_option maxHeartbeats 1000000
/-! Rx setc: a comprehension that is stored to a name at once. -/
namespace Rx
open PySem PySem.Spec PyProof.Rows L2
section
variable {X : L2.Cx} {c : Ec} {x : Sx} {O' : Nat → Bool}
def isNewV : Val → Bool
  | .d p => isNew p
  | _ => false
def setcR (i : Nat) (r : Env → Wd → R Val) : Env → Wd → Out := fun ρ W => (r ρ W).go ρ fun v w => if isNewV v then .nx (setv ρ i (some v)) w else .st
theorem getv_setv_at : ∀ (ρ : Env) (i : Nat) (v : Option Val), i < ρ.length → getv (setv ρ i v) i = v
  | [], i, v, h => by simp at h
  | a :: r, 0, v, h => by rw [setv, getv]
  | a :: r, i + 1, v, h => by rw [setv, getv]; exact getv_setv_at r i v (by simpa using h)
theorem getv_out : ∀ (ρ : Env) (i : Nat), ρ.length ≤ i → getv ρ i = none
  | [], i, _ => by rw [getv]
  | a :: r, 0, h => by simp at h
  | a :: r, i + 1, h => by rw [getv]; exact getv_out r i (by simpa using h)
theorem frz_fr {O O1 : Nat → Bool} {i : Nat} {y : PV} {pins : List (Addr × Obj)} {σ : L2.St} {H : Hp} {s : Shared} {ρ : Env} {μ μ0 : List Addr} {W : Wd} (I : Inv X pins σ H s) (hF : FR X.K c.N c.H0 H μ c.pn O σ ρ) (hW : WR X.K c.N H μ W) (hS : Stp μ0 μ c.H0 H)
    (hi : O i = true) (e : getv ρ i = some (.d y)) (h1 : O1 i = false) (hO : ∀ j, j ≠ i → O1 j = O j) : ∃ H2, Inv X pins σ H2 s ∧ FR X.K c.N c.H0 H2 μ c.pn O1 σ ρ ∧ WR X.K c.N H2 μ W ∧ Stp μ0 μ c.H0 H2 ∧ Ext H H2 := by
  obtain ⟨a, e2, r, hm, h0⟩ := hF.own' hi e
  obtain ⟨o', od, I2, rz⟩ : ∃ o' od, Inv X pins σ (upd H a (.frz od o')) s ∧ Rep X.K (upd H a (.frz od o')) y (.ref a) := by
    cases y with
    | lst xs =>
      obtain ⟨vs, e3, q, hz⟩ := r
      obtain ⟨od, I'⟩ := I.lock e3 trivial
      exact ⟨_, od, I', a, vs, rfl, ⟨od, upd_same⟩, RepL.mono (ext_own (.inl ⟨_, e3⟩)) xs vs q, hz⟩
    | dct xs =>
      obtain ⟨ks, e3, q, hz⟩ := r
      obtain ⟨od, I'⟩ := I.lock e3 trivial
      exact ⟨_, od, I', a, od, ks, rfl, upd_same, RepK.mono (ext_own (.inr ⟨_, e3⟩)) xs ks q, hz⟩
    | _ => exact r.elim
  have ext : Ext H (upd H a (.frz od o')) := ext_own r.mt
  refine ⟨_, I2, ⟨fun j v h2 h3 => ?_, fun j v h2 h3 => ?_, fun j k b h2 h3 h4 h5 => ?_, hF.len⟩, hW.upd r hm, hS.upd r h0, ext⟩
  · by_cases z : j = i
    · subst z
      rw [e] at h2
      cases h2
      exact ⟨_, e2, rz⟩
    · obtain ⟨u, e3, q⟩ := hF.slot j v h2 (by rw [← hO j z]; exact h3)
      exact ⟨u, e3, q.upd r.mt⟩
  · by_cases z : j = i
    · rw [z] at h3
      rw [show O1 i = true from h3] at h1
      cases h1
    · obtain ⟨y', b, e1, e3, r', hm', h0'⟩ := hF.own j v h2 (by rw [← hO j z]; exact h3)
      have hab : b ≠ a := fun z' => z (hF.apart j i a (by rw [← hO j z]; exact h3) hi (by rw [h2]; exact nofun) (by rw [e]; exact nofun) (by rw [← z']; exact e3) e2)
      exact ⟨y', b, e1, e3, RepO.mono ext (fun o' z => by rw [upd_ne hab]; exact z) r', hm', h0'⟩
  · have hj : ∀ j, O1 j = true → O j = true := fun j hj => by
      by_cases z : j = i
      · rw [z, h1] at hj; cases hj
      · rw [← hO j z]; exact hj
    exact hF.apart j k b (hj j h2) (hj k h3) h4 h5
theorem js_setc (G : Gd X c) (hh : c.hot = false) (htr : ∀ Oe, x.tr = some Oe → Oe = c.O) {i : Nat} {n : Str} {py spos : Pos} {o : Bool} (hi' : X.N[i]? = some n) (hyl : X.env.scope.names.lookup n = some .local) (hO : ∀ j, j ≠ i → O' j = c.O j) (ho : O' i = o) (hz : o = false → c.O i = false)
    {kd : Kd} {scope : Scope} {own : List (Str × Nat)} {pos : Pos} {src leaf : Env → Wd → R (List PV)} {g : Gn} {gs : List Gn}
    (hsw : swapsWith (kd.ex (cls ((g :: gs).map (·.cl))) scope pos) (some (.Name n py)) spos.line X.env = pure true)
    (hi : JI X c g.cl.tg g.cl.iter src) (ok : BlkOk X.N X.env.scope scope own) (hs : ∀ x, foldedSetIterable g.cl.iter X.env x = pure x)
    (b1 : BlkR X c scope fun X' c' => GnOk X' c' g) (b2 : ∀ h ∈ gs, BlkR X c scope fun X' c' => GnOk X' c' h ∧ GnIn X' c' h) (b3 : BlkR X c scope fun X' c' => LfOk X' c' kd leaf) (hap : Apart (g :: gs)) (hown : ∀ h ∈ g :: gs, ∀ i ∈ tgS h.t, i ∈ own.map (·.2)) :
    JS X c x O' (.Assign [.Name n py] (kd.ex (cls ((g :: gs).map (·.cl))) scope pos) spos) (setcR i (compR src leaf g gs (own.map (·.2)) kd.fin)) := by
  refine ⟨fun pins s σ H D I ⟨ρ, μ, W, hF, hW, hS, h⟩ => ?_⟩
  have li := len_lt I.len hi'
  have hE : tE X c .f (compR src leaf g gs (own.map (·.2)) kd.fin) σ H fun b H1 => ∃ p μ1 W1, isNew p = true ∧ FR X.K c.N c.H0 H1 μ1 c.pn c.O σ ρ ∧ WR X.K c.N H1 μ1 W1 ∧ Stp x.μ0 μ1 c.H0 H1 ∧ RepF X.K H .f H1 μ1 p b ∧ OutOk X c x O' H1 D (.nx (setv ρ i (some (.d p))) W1) := by
    refine ⟨ρ, μ, W, hF, hW, ?_⟩
    refine OutOk.go (rep := repV X c .f H) htr hF hW hS (show OutOk X c x O' H D ((compR src leaf g gs (own.map (·.2)) kd.fin ρ W).go ρ _) from h) fun v W1 b H1 μ1 _ f1 st w1 s1 q h1 => ?_
    split at h1
    · rename_i hn
      cases v with
      | d p => exact ⟨p, μ1, W1, hn, f1, w1, s1, q, h1⟩
      | _ => cases hn
    · exact h1.elim
  rw [exec_Assign_Name_used _ _ _ _ hsw]
  refine wpAny_bind (wpAny_standAt (wpAny_bind ?_))
  have core := comp_core G hh (pos := pos) (pos' := firstIterPos (cls ((g :: gs).map (·.cl))) pos) (use := some (assign (.Name n py) X.env)) (Qf := fun _ s' => SP X pins D .next s') I hi ok hs b1 b2 b3 hap hown hE fun L C s' m H' I' q hn f => ?_
  · have go : wpAny (model X.prog X.w) X.A (comprehension (kd.ex (cls ((g :: gs).map (·.cl))) scope pos) scope X.env (firstIterPos (cls ((g :: gs).map (·.cl))) pos) kd.acc false (eval g.cl.iter X.env) (some (assign (.Name n py) X.env)))
        (fun _ s' => wpAny (model X.prog X.w) X.A (pure ()) (fun _ s' => wpAny (model X.prog X.w) X.A (pure Flow.next) (fun f s2 => SP X pins D f s2) X.xe s') X.xe s') X.xe s := wpAny_mono core (fun _ s' hq => wpAny_pure (wpAny_pure hq)) fun _ _ z => z
    cases kd with
    | lst e => exact wpAny_bind go
    | dct a b => exact wpAny_bind go
  · show wpAny _ _ (assign (.Name n py) X.env (.ref L)) _ _ _
    refine wpAny_assign_Name (store_ok2 (v := V.ref L) I' G.nd hi' (.inl hyl) rfl (fun s2 I2 ⟨a, sb, ha⟩ => ?_) (.inr hyl))
    obtain ⟨f0, f1, f2, f3, f4, f5⟩ := f
    have haC : C ≠ a := by
      rcases ha with z | z
      · rw [z]; exact f1
      · exact fun e => f4 n a z e.symm
    refine ⟨m, hn.sameBut sb haC, fun h3 sb3 => ?_⟩
    have I3 := I2.turned (t' := s2.toks) (fun b o hb e => (sb3.2 b hb).trans e) f0 f1 f3 f4 f5
    obtain ⟨p, μ1, W1, hnw, g1, g2, g3, g4, g5⟩ := q
    cases o with
    | true =>
      obtain ⟨q', eq, n0, hm, ro⟩ := new_at hnw g4
      cases eq
      refine ⟨_, H', I3, g5 _ H' μ1 (g1.setO li hO ho ro hm (hS.free0 n0) fun j w h1 h2 _ z => hF.oe j w L h1 h2 z n0) g2 g3 (Ext.refl H')⟩
    | false =>
      have e : O' = c.O := by
        funext j
        by_cases z : j = i
        · rw [z, ho, hz rfl]
        · exact hO j z
      obtain ⟨q', eq, n0, hm, ro⟩ := new_at hnw g4
      cases eq
      have fo := g1.setO (O' := fun j => if j = i then true else c.O j) li (fun j hj => if_neg hj) (if_pos rfl) ro hm (hS.free0 n0) fun j w h1 h2 _ z => hF.oe j w L h1 h2 z n0
      by_cases hlen : i < ρ.length
      · obtain ⟨H2, I4, f4, w4, s4, ext⟩ := frz_fr (O1 := O') I3 fo g2 g3 (if_pos rfl) (getv_setv_at ρ i _ hlen) ho (fun j hj => by rw [hO j hj, if_neg hj])
        exact ⟨_, H2, I4, g5 _ H2 μ1 f4 w4 s4 ext⟩
      · refine ⟨_, H', I3, g5 _ H' μ1 ?_ g2 g3 (Ext.refl H')⟩
        rw [setv_out ρ i _ (by omega), e]
        rw [setv_out ρ i _ (by omega)] at fo
        have gn : getv ρ i = none := getv_out ρ i (by omega)
        have ne : ∀ j v, getv ρ j = some v → j ≠ i := fun j v h z => by rw [z, gn] at h; cases h
        refine ⟨fun j v h1 h2 => fo.slot j v h1 (by rw [if_neg (ne j v h1)]; exact h2), fun j v h1 h2 => fo.own j v h1 (by rw [if_neg (ne j v h1)]; exact h2), fun j k a h1 h2 h3 h4 => ?_, fo.len⟩
        exact fo.apart j k a (by show (if j = i then true else c.O j) = true; split; rfl; exact h1) (by show (if k = i then true else c.O k) = true; split; rfl; exact h2) h3 h4
end
end Rx
end
section
set_option Elab.async false
set_option linter.all false
set_option maxRecDepth 100000
set_option maxHeartbeats 1000000
/-! Rx wput: a list of the world is stored to; ghosts of the world. -/
namespace Rx
open PySem PySem.Spec PyProof.Rows L2
section
variable {X : L2.Cx} {c : Ec} {x : Sx} {e f : Expr} {re rf : Env → Wd → R Val} {pos pos' p : Pos} {i : Nat} {m : Str}
theorem setN_get {α : Type} : ∀ (l : List α) (n k : Nat) (v : α), (setN l n v)[k]? = if k = n then (l[n]?).map fun _ => v else l[k]?
  | [], n, k, v => by rw [setN]; split <;> simp
  | a :: r, 0, 0, v => by simp [setN]
  | a :: r, 0, k + 1, v => by simp [setN]
  | a :: r, n + 1, 0, v => by simp [setN]
  | a :: r, n + 1, k + 1, v => by
    rw [setN, List.getElem?_cons_succ, List.getElem?_cons_succ, setN_get r n k v, List.getElem?_cons_succ]
    by_cases h : k = n
    · rw [if_pos h, if_pos (by omega)]
    · rw [if_neg h, if_neg (by omega)]
theorem setN_len {α : Type} : ∀ (l : List α) (n : Nat) (v : α), (setN l n v).length = l.length
  | [], n, v => by rw [setN]
  | a :: r, 0, v => by simp [setN]
  | a :: r, n + 1, v => by rw [setN, List.length_cons, List.length_cons, setN_len r n v]
/-- what may stand in the world -/
def flatV : Val → Bool
  | .d _ => true
  | .o _ => true
  | _ => false
theorem RepVL.set {K : PySem.W.Frag} {N : Nm} {H : Hp} {μ : List Addr} : ∀ {xs : List Val} {vs : List V} {j : Nat} {y : Val} {v : V}, RepVL K N H μ [] xs vs → RepV K N H μ [] y v → RepVL K N H μ [] (setN xs j y) (vs.set j v)
  | [], [], j, y, v, h, _ => by rw [setN]; exact h
  | a :: xs, b :: vs, 0, y, v, h, r => by rw [setN, List.set_cons_zero]; exact ⟨r, h.2⟩
  | a :: xs, b :: vs, j + 1, y, v, h, r => by rw [setN, List.set_cons_succ]; exact ⟨h.1, RepVL.set h.2 r⟩
theorem ext_lst {H : Hp} {a : Addr} {vs : List V} {o : HO} (e : H a = some (.lst vs)) : Ext H (upd H a o) := ext_own (.inl ⟨_, e⟩)
/-- a list of the world is written -/
theorem wr_put {K : PySem.W.Frag} {N : Nm} {H : Hp} {μ : List Addr} {W : Wd} (w : WR K N H μ W) {n : Nat} {a : Addr} {xs : List Val} {vs : List V} {j : Nat} {y : Val} {v : V} (hn : μ[n]? = some a) (hw : W[n]? = some (.ls xs)) (e : H a = some (.lst vs)) (r : RepV K N H μ [] y v) :
    WR K N (L2.upd H a (.lst (vs.set j v))) μ (setN W n (.ls (setN xs j y))) := by
  have ex := ext_lst (o := .lst (vs.set j v)) e
  refine ⟨by rw [setN_len]; exact w.len, w.nd, fun k b o h1 h2 => ?_⟩
  rw [setN_get] at h2
  by_cases hk : k = n
  · rw [if_pos hk, hw] at h2
    cases h2
    subst hk
    rw [hn] at h1
    cases h1
    obtain ⟨us, q1, q2, q3⟩ := w.at_ k a _ hn hw
    rw [e] at q1
    cases q1
    exact ⟨_, upd_same, RepVL.mono0 ex (fun _ _ z => z) (RepVL.set q2 r), by rw [setN_len]; exact q3⟩
  · rw [if_neg hk] at h2
    have hba : b ≠ a := fun z => by
      subst z
      have h3 := (List.getElem?_eq_some_iff.mp hn)
      have h4 := (List.getElem?_eq_some_iff.mp h1)
      obtain ⟨l1, e1⟩ := h3
      obtain ⟨l2, e2⟩ := h4
      exact hk ((List.getElem_inj w.nd).mp (e2.trans e1.symm))
    have q := w.at_ k b o h1 h2
    cases o with
    | ls ys =>
      obtain ⟨us, q1, q2, q3⟩ := q
      exact ⟨us, by rw [upd_ne hba]; exact q1, RepVL.mono0 ex (fun _ _ z => z) q2, q3⟩
    | ins cc fs =>
      obtain ⟨dx, gs, q1, q2, q3, q4⟩ := q
      refine ⟨dx, gs, by rw [upd_ne hba]; exact q1, q2, q3, fun f v hf => ?_⟩
      obtain ⟨u, z1, z2⟩ := q4 f v hf
      exact ⟨u, z1, RepV.mono0 ex (fun _ _ z => z) z2⟩
    | dc _ => exact q
theorem stp_wput {μ : List Addr} {H : Hp} {a : Addr} {vs : List V} {o : HO} (hm : a ∈ μ) (e : H a = some (.lst vs)) : Stp μ μ H (upd H a o) :=
  ⟨fun b o' h hb => by rw [upd_ne (fun z => hb (by rw [z]; exact hm))]; exact h, ext_lst e, fun b _ h => by
    by_cases z : b = a
    · rw [z, upd_same]; exact nofun
    · rw [upd_ne z]; exact h, [], by simp, fun _ h => by simp at h⟩
def wputO (n : Nat) (k : PV) (v : Val) (w : Wd) : Option Wd :=
  match nthO w n, k with
  | some (.ls xs), .int j => if flatV v then (place j xs.length).map fun m => setN w n (.ls (setN xs m v)) else none
  | _, _ => none
def wputR (i : Nat) (rf re : Env → Wd → R Val) : Env → Wd → Out := fun ρ W => (re ρ W).go ρ fun v w => match getv ρ i with
  | some (.o n) => (dat (rf ρ w)).go ρ fun k w => (match wputO n k v w with | some w => .nx ρ w | none => .st)
  | _ => .st
def isSliceE : Expr → Bool
  | .Slice _ _ _ _ => true
  | _ => false
theorem assign_sub {o : Expr} (h : isSliceE f = false) (v : Value) : assign (.Subscript o f pos') X.env v = (do
      let ov ← holding [v] (eval o X.env)
      let iv ← holding [v, ov] (eval f X.env)
      standAt pos'
      holding [v, ov, iv] (setItem ov iv v)
      release [v, ov, iv] []) := by
  cases f <;> first | rfl | cases h
theorem js_wput (G : Gd X c) (htr : ∀ Oe, x.tr = some Oe → Oe = c.O) (hi : X.N[i]? = some m) (hv : Vis X.env.scope m) (h1 : (m == ("__debug__" : Str)) = false) (h2 : (m == ("__classdict__" : Str)) = false) (ho : c.O i = false)
    (hsl : isSliceE f = false) (hs : swapsWithSole [.Subscript (.Name m p) f pos'] e pos.line X.env = pure false) (hw : swappedStores [.Subscript (.Name m p) f pos'] e X.env = pure none) (hf : JE X c .z f rf) (he : JE X c .z e re) :
    JS X c x c.O (.Assign [.Subscript (.Name m p) f pos'] e pos) (wputR i rf re) := by
  refine ps_mono (ps_asg he (pg_sub (pe_var hi hv h1 h2) hf set_list (assign_sub hsl)) hs hw rfl) ?_
  rintro D σ H ⟨ρ, μ, W, hF, hW, hS, h⟩
  refine ⟨ρ, μ, W, hF, hW, OutOk.go (rep := repV X c .z H) htr hF hW hS (show OutOk X c x c.O H D ((re ρ W).go ρ _) from h) fun v W1 b H1 μ1 _ f1 st1 w1 s1 q h1 => ?_⟩
  split at h1
  · rename_i n eg
    obtain ⟨u, e2, q2⟩ := f1.slot i _ eg ho
    refine ⟨u, e2, ρ, μ1, W1, f1, w1, OutOk.goD (x := x) (Hs := H1) htr f1 w1 s1 h1 fun k W2 y H2 μ2 _ f2 st2 w2 s2 qk h2 => ?_⟩
    cases eo : wputO n k v W2 with
    | none => rw [eo] at h2; exact h2.elim
    | some W3 =>
      rw [eo] at h2
      simp only at h2
      unfold wputO at eo
      split at eo
      · rename_i xs j e0 _
        split at eo
        · rename_i hfl
          obtain ⟨jj, ej, rfl⟩ := Option.map_eq_some_iff.mp eo
          rw [nthO_get] at e0
          obtain ⟨a, g1, rfl⟩ := (show ∃ a, μ1[n]? = some a ∧ u = .ref a from q2)
          have g1 := st2.at g1
          obtain ⟨vs, k1, k2, k3⟩ := w2.at_ n a _ g1 e0
          have hm : a ∈ μ2 := List.mem_of_getElem? g1
          have rb : RepV X.K c.N H2 μ2 [] v b := by
            have r1 : RepV X.K c.N H2 μ2 c.pn v b := RepV.step st2 w1 (repV_z q)
            exact r1.unx (by cases v <;> first | rfl | cases hfl)
          refine ⟨a, vs, j, jj, rfl, qk, k1, by rw [← k2.length, ← place_ix]; exact ej, ?_⟩
          have st3 : Stp μ2 μ2 H2 (upd H2 a (.lst (vs.set jj b))) := stp_wput hm k1
          exact h2 σ _ μ2 (f2.step st3 w2) (wr_put w2 g1 e0 k1 rb) (s2.trans st3) st3.ext
        · cases eo
      · cases eo
  · exact h1.elim
end
end Rx
end
section
set_option Elab.async false
set_option linter.all false
set_option maxRecDepth 100000
set_option maxHeartbeats 1000000
/-! Rx fn: a def, from its body. -/
namespace Rx
open PySem PySem.Spec PyProof.Rows L2
/-- what a body's run is, told of the parameters' values -/
def spB (K : PySem.W.Frag) (N : Nm) (n : Nat) (bf : List Val → Wd → R Val) : Sp := fun vs H Q E => vs.length = n ∧ ∃ μ W uvs, WR K N H μ W ∧ RepVL K N H μ [] uvs vs ∧
  Ans K N (fun cls d _ H' => E cls d H') (fun H' μ' x v => RepV K N H' μ' [] x v) H μ [] (bf uvs W) Q
section
variable {P : Program} {w : World} {K : PySem.W.Frag} {mg : Str → Option Value} {base : Heap} {Nn : Nm} {G : Pg} {l : Nat} {fd : Fn} {a : Addr} {N ps : List Str}
theorem none_get : ∀ (n i : Nat), getv (none' n) i = none
  | 0, i => by rw [none', getv]
  | n + 1, 0 => by rw [none', getv]
  | n + 1, i + 1 => by rw [none', getv]; exact none_get n i
theorem none_len : ∀ n : Nat, (none' n).length = n
  | 0 => rfl
  | n + 1 => by rw [none', List.length_cons, none_len n]
theorem start_get : ∀ (us : List Val) (n i : Nat) (v : Val), getv (us.map some ++ none' n) i = some v → us[i]? = some v
  | [], n, i, v, h => by
    have h : getv (none' n) i = some v := h
    rw [none_get] at h
    cases h
  | u :: us, n, 0, v, h => by
    have h : getv (some u :: (us.map some ++ none' n)) 0 = some v := h
    rw [getv] at h
    rw [List.getElem?_cons_zero]
    exact h
  | u :: us, n, i + 1, v, h => by
    have h : getv (some u :: (us.map some ++ none' n)) (i + 1) = some v := h
    rw [getv] at h
    rw [List.getElem?_cons_succ]
    exact start_get us n i v h
/-- the frame at a def's entry -/
theorem FR.start {H : Hp} {μ : List Addr} {uvs : List Val} {vs : List V} {O : Nat → Bool} (r : RepVL K Nn H μ [] uvs vs) (hO : ∀ i, i < vs.length → O i = false) (hn : fd.nl ≤ N.length) (hl : vs.length ≤ N.length) : FR K Nn H H μ [] O (L2.start N vs) (Rx.start fd uvs) := by
  have len := r.length
  refine ⟨fun i v h1 h2 => ?_, fun i v h1 h2 => ?_, fun i j b h1 h2 h3 => ?_, ?_⟩
  · have e := start_get _ _ _ _ h1
    obtain ⟨u, e1, q⟩ := r.get e
    have hi : i < vs.length := (List.getElem?_eq_some_iff.mp e1).1
    refine ⟨u, ?_, q⟩
    unfold L2.start
    rw [List.getElem?_append_left (by rw [List.length_map]; exact hi), List.getElem?_map, e1]
    rfl
  · have e := start_get _ _ _ _ h1
    have hi : i < vs.length := by rw [← len]; exact (List.getElem?_eq_some_iff.mp e).1
    rw [hO i hi] at h2
    cases h2
  · exfalso
    cases e : getv (Rx.start fd uvs) i with
    | none => exact h3 e
    | some v =>
      have e := start_get _ _ _ _ e
      have hi : i < vs.length := by rw [← len]; exact (List.getElem?_eq_some_iff.mp e).1
      rw [hO i hi] at h1
      cases h1
  · unfold L2.start Rx.start
    rw [List.length_append, List.length_append, List.length_map, List.length_map, none_len, List.length_replicate]
    omega
/-- a def's promise, from its body -/
theorem fn_body {name qual : Str} {params : Arguments} {body : List Stmt} {scope : Scope} {dV kV doc pm cdv ct oc : Value} {an od : Option Addr} {osl : Array (Option Value)}
    (lk : K.lookup a = some ⟨oc, od, .func (PySem.W.fnOf name qual params body scope dV kV doc pm an cdv ct), osl⟩) (hcd : PySem.W.codeIn K cdv qual = true) (S : FnScope N ps scope)
    {O O' : Nat → Bool} (hO : ∀ i, i < ps.length → O i = false) (hn : fd.nl ≤ N.length)
    (hj : ∀ (A : Around) (outer : List PySem.Env) (s : Shared) (H : Hp) (E : XK) (μ : List Addr), Room l (A.deeper (envOfC qual scope s.heap.objs.size a cdv)) →
      JSs (cxOf (L2.CX P w) P w K mg base N qual scope a cdv A outer s H E) { N := Nn, O := O, H0 := H, Wx := fun cls d _ H' => E cls d H' } { μ0 := μ, tr := none, Ob := fun _ => false } O' body (fun ρ W => evSs (G.cx (callF G l)) ρ fd.body W)) :
    FnOk P w K mg base (L2.CX P w) (l + 1) a (PySem.W.fnOf name qual params body scope dV kV doc pm an cdv ct) ps (spB K Nn ps.length (bodyAt G (l + 1) fd)) := by
  refine fn_of lk hcd S (fun vs H Q E h => h.1) fun A outer s H vs Q E hr ⟨hl, μ, W, uvs, hW, rv, hA⟩ => ?_
  have hpl : ps.length ≤ N.length := by have := congrArg List.length S.pre; rw [List.length_take] at this; omega
  refine ⟨_, hj A outer s H E μ hr, Rx.start fd uvs, μ, W, FR.start rv (fun i hi => hO i (by rw [← hl]; exact hi)) hn (by rw [hl]; exact hpl), hW, Stp.refl _ _, ?_⟩
  rw [bodyAt_succ] at hA
  simp only
  cases e : evSs (G.cx (callF G l)) (Rx.start fd uvs) fd.body W with
  | nx ρ W1 =>
    rw [e] at hA
    exact fun σ H1 μ1 f w1 s1 ex => hA .non H1 μ1 s1 w1 rfl
  | rt v W1 =>
    rw [e] at hA
    exact fun u H1 μ1 w1 s1 ex r => hA u H1 μ1 s1 w1 r
  | br ρ W1 => rw [e] at hA; exact hA.elim
  | st => rw [e] at hA; exact hA.elim
  | ex k fs ρ W1 =>
    rw [e] at hA
    exact fun d vs' σ H1 μ1 f w1 s1 ex h1 h2 h3 h4 => hA d vs' H1 μ1 s1 w1 h1 h2 h3 h4
theorem RepVL.app {H : Hp} {μ : List Addr} {pn : List (Addr × Obj)} : ∀ {xs ys : List Val} {vs us : List V}, RepVL K Nn H μ pn xs vs → RepVL K Nn H μ pn ys us → RepVL K Nn H μ pn (xs ++ ys) (vs ++ us)
  | [], _, [], _, _, h => h
  | _ :: _, _, _ :: _, _, h, g => ⟨h.1, RepVL.app h.2 g⟩
/-- a def called with some or all of its parameters, the others' values written -/
theorem fn_call {fdd : FuncData} {f : Nat} (hf : G.fn f = some fd) (hva : fd.va = false) (hnp : fd.np = ps.length) (F : FnOk P w K mg base (L2.CX P w) (l + 1) a fdd ps (spB K Nn ps.length (bodyAt G (l + 1) fd)))
    (hb : ∀ j, j ≤ fd.dfl.length → ∃ ds dvs, Binds K fdd ps ds ∧ Vals dvs ds ∧ (∀ H μ, RepVL K Nn H μ [] ((fd.dfl.drop j).map .d) dvs)) :
    FnR P w K mg base (L2.CX P w) (l + 1) a (spR K Nn (callF G (l + 1) f)) := by
  intro A outer s H us vs Q E hr e0 r ⟨μ, W, pvs, hW, rv, hA⟩
  unfold callF at hA
  rw [hf] at hA
  simp only at hA
  have hl := rv.length
  cases eb : bindA fd pvs with
  | none => rw [eb] at hA; exact hA.elim
  | some uvs =>
    rw [eb] at hA
    unfold bindA at eb
    rw [hva, if_neg Bool.false_ne_true] at eb
    split at eb
    · rename_i hc
      cases eb
      obtain ⟨ds, dvs, b1, b2, b3⟩ := hb (pvs.length + fd.dfl.length - fd.np) (by omega)
      have rA := RepVL.app rv (b3 H μ)
      have hlen : (vs ++ dvs).length = ps.length := by
        rw [← rA.length, List.length_append, List.length_map, List.length_drop]
        omega
      exact F.raw b1 b2 A outer s H us vs Q E hr e0 r ⟨hlen, μ, W, _, hW, rA, hA⟩
    · cases eb
end
end Rx
end
section
set_option Elab.async false
set_option linter.all false
set_option maxRecDepth 100000
set_option maxHeartbeats 1000000
/-! Rx star: starred items; defs with a star parameter. -/
namespace Rx
open PySem PySem.Spec PyProof.Rows L2
section
variable {X : L2.Cx} {c : Ec} {a : Expr} {es : List Expr} {ra : Env → Wd → R Val} {r : Env → Wd → R (List Val)} {p : Pos}
def starR (ra : Env → Wd → R Val) (r : Env → Wd → R (List Val)) : Env → Wd → R (List Val) := fun ρ W => (dat (ra ρ W)).bind fun x w => match extL x with
  | some ys => (r ρ w).bind fun vs w => .ok (ys.map .d ++ vs) w
  | none => .st
theorem RepVL.ofD {K : PySem.W.Frag} {N : Nm} {H : Hp} {μ : List Addr} {pn : List (Addr × Obj)} : ∀ {ys : List PV} {us : List V}, RepL K H ys us → RepVL K N H μ pn (ys.map .d) us
  | [], [], _ => trivial
  | _ :: _, _ :: _, h => ⟨h.1, RepVL.ofD h.2⟩
theorem ja_star (ha : JE X c .b a ra) (hr : JA X c es r) : JA X c (.Starred a p :: es) (starR ra r) := by
  refine pa_mono (StX.pa_star ha hr rfl) fun σ H Q ⟨ρ, μ, W, hF, hW, hA⟩ => ⟨ρ, μ, W, hF, hW, ?_⟩
  refine hA.bindD fun x W1 v H1 μ1 _ s1 w1 r1 hA1 => ?_
  split at hA1
  · rename_i ys ey
    obtain ⟨b, us, rfl, hb, rb⟩ : ∃ b us, v = .ref b ∧ (SqT X.K H1 b us ∨ SqL X.K H1 b us) ∧ RepL X.K H1 ys us := by
      have q := RepF.toB r1
      cases x with
      | lst zs => cases ey; obtain ⟨b', us, rfl, h1, h2, _⟩ := q; exact ⟨b', us, rfl, .inr (.inl h1), h2⟩
      | tup zs => cases ey; obtain ⟨b', us, rfl, h1, h2, _⟩ := q; exact ⟨b', us, rfl, .inl h1, h2⟩
      | _ => cases ey
    refine ⟨b, us, rfl, hb, ρ, μ1, W1, hF.step s1 hW, w1, ?_⟩
    refine Ans.bind (rep1 := fun H μ vs us => RepVL X.K c.N H μ c.pn vs us) hA1 fun xs W2 _ vs H2 μ2 s2 w2 r2 hA2 => ?_
    exact hA2.here w2 (RepVL.app (RepVL.ofD (RepL.mono s2.ext _ _ rb)) r2)
  · exact hA1.elim
end
end Rx
end
section
set_option Elab.async false
set_option linter.all false
set_option maxRecDepth 100000
set_option maxHeartbeats 1000000
/-! Rx disp: displays of dicts. -/
namespace Rx
open PySem PySem.Spec PyProof.Rows L2
section
variable {X : L2.Cx} {c : Ec} {pos : Pos}
theorem je_dnil : JE X c .f (.Dict [] [] pos) (fun _ W => .ok (.d (.dct [])) W) := by
  refine pe_mono pe_dnewK fun σ H Q ⟨ρ, μ, W, hF, hW, hA⟩ p hp => ?_
  have st := Stp.new (μ := μ) (o := .dK []) hp
  exact hA _ _ μ st (hW.new hp) (show RepF X.K H .f _ μ (.dct []) (.ref p) from ⟨p, rfl, hp, fun hm => hW.there p hm hp, [], upd_same, trivial, Nat.zero_le _⟩)
abbrev RP := (Env → Wd → R Val) × (Env → Wd → R Val)
def pairsR : List RP → Env → Wd → R (List (PV × PV))
  | [], _, W => .ok [] W
  | (rk, rv) :: r, ρ, W => (dat (rk ρ W)).bind fun k w => (dat (rv ρ w)).bind fun v w => (pairsR r ρ w).bind fun ps w => if keyable k then .ok ((k, v) :: ps) w else .st
def dispR (rs : List RP) : Env → Wd → R Val := fun ρ W => (pairsR rs ρ W).bind fun ps w => .ok (.d (.dct (dmerge [] ps))) w
def RepP (K : PySem.W.Frag) (H : Hp) : List (PV × PV) → List (V × V) → Prop
  | [], [] => True
  | (k, x) :: ps, (u, v) :: us => (∃ j, keyR k j ∧ u = kV j) ∧ Rep K H x v ∧ RepP K H ps us
  | _, _ => False
theorem RepP.mono {K : PySem.W.Frag} {H H' : Hp} (e : Ext H H') : ∀ {ps : List (PV × PV)} {us : List (V × V)}, RepP K H ps us → RepP K H' ps us
  | [], [], _ => trivial
  | (_, _) :: _, (_, _) :: _, h => ⟨h.1, Rep.mono e _ _ h.2.1, RepP.mono e h.2.2⟩
  | [], _ :: _, h => h.elim
  | _ :: _, [], h => h.elim
theorem pairs_imp {σ : L2.St} : ∀ {rs : List RP} {ρ : Env} {μ : List Addr} {W : Wd} {H : Hp} {Q : List (V × V) → Hp → Prop}, FR X.K c.N c.H0 H μ c.pn c.O σ ρ → WR X.K c.N H μ W → Ans X.K c.N c.Wx (fun H' _ ps us => RepP X.K H' ps us) H μ σ (pairsR rs ρ W) Q →
    tPairs (rs.map fun p => (tE X c .z p.1, tE X c .z p.2)) σ H Q
  | [], ρ, μ, W, H, Q, hF, hW, hA => hA.here hW trivial
  | (rk, rv) :: r, ρ, μ, W, H, Q, hF, hW, hA => by
    refine ⟨ρ, μ, W, hF, hW, hA.bindD (Hs := H) fun k W1 u H1 μ1 _ s1 w1 r1 hA1 => ⟨ρ, μ1, W1, hF.step s1 hW, w1, hA1.bindD (Hs := H1) fun x W2 v H2 μ2 _ s2 w2 r2 hA2 => ?_⟩⟩
    refine pairs_imp ((hF.step s1 hW).step s2 w1) w2 ?_
    refine Ans.bind (rep1 := fun H' _ ps us => RepP X.K H' ps us) hA2 fun ps W3 _ us H3 μ3 s3 w3 r3 hA3 => ?_
    split at hA3
    · rename_i hk
      exact hA3.here w3 ⟨keyable_R hk (show Rep X.K H1 k u from r1), Rep.mono s3.ext _ _ r2, r3⟩
    · exact hA3.elim
theorem RepP.keys {K : PySem.W.Frag} {H : Hp} : ∀ {ps : List (PV × PV)} {us : List (V × V)}, RepP K H ps us → ∃ kvs : List (Key × V), us = kvs.map (fun kv => (kV kv.1, kv.2)) ∧ RepK K H ps kvs
  | [], [], _ => ⟨[], rfl, trivial⟩
  | (k, x) :: ps, (u, v) :: us, ⟨⟨j, h1, h2⟩, h3, h4⟩ => by
    obtain ⟨kvs, e, q⟩ := RepP.keys h4
    exact ⟨(j, v) :: kvs, by rw [List.map_cons, e, h2], h1, h3, q⟩
  | [], _ :: _, h => h.elim
  | _ :: _, [], h => h.elim
theorem pairsR_len : ∀ (rs : List RP) (ρ : Env) (W W' : Wd) (ps : List (PV × PV)), pairsR rs ρ W = .ok ps W' → ps.length = rs.length
  | [], ρ, W, W', ps, h => by cases h; rfl
  | (rk, rv) :: r, ρ, W, W', ps, h => by
    unfold pairsR at h
    cases e1 : dat (rk ρ W) with
    | st => rw [e1] at h; cases h
    | ex _ _ _ => rw [e1] at h; cases h
    | ok k W1 =>
      rw [e1, R.bind_ok] at h
      cases e2 : dat (rv ρ W1) with
      | st => rw [e2] at h; cases h
      | ex _ _ _ => rw [e2] at h; cases h
      | ok v W2 =>
        rw [e2, R.bind_ok] at h
        cases e3 : pairsR r ρ W2 with
        | st => rw [e3] at h; cases h
        | ex _ _ _ => rw [e3] at h; cases h
        | ok qs W3 =>
          rw [e3, R.bind_ok] at h
          split at h
          · cases h
            rw [List.length_cons, List.length_cons, pairsR_len r ρ W2 _ qs e3]
          · cases h
theorem je_disp {rs : List RP} {keys : List (Option Expr)} {values : List Expr} (h : PPs X pos keys values (rs.map fun p => (tE X c .z p.1, tE X c .z p.2))) (hall : keys.all (·.isSome) = true) (hl : keys.length = values.length) (h0 : keys ≠ []) (h15 : keys.length ≤ 15) (hr : rs.length ≤ 15) :
    JE X c .f (.Dict keys values pos) (dispR rs) := by
  refine pe_mono (pe_disp h hall hl h0 h15) fun σ H Q ⟨ρ, μ, W, hF, hW, hA⟩ p hp => ?_
  have st := Stp.new (μ := μ) (o := .dK []) hp
  have hm : p ∉ μ := fun hm => hW.there p hm hp
  refine pairs_imp (hF.step st hW) (hW.new hp) ?_
  have hA : Ans X.K c.N c.Wx (repV X c .f H) H μ σ ((pairsR rs ρ W).bind fun ps w => .ok (.d (.dct (dmerge [] ps))) w) Q := hA
  cases e : pairsR rs ρ W with
  | st => rw [e] at hA; exact hA
  | ex k fs W1 =>
    rw [e] at hA
    exact fun d vs H' μ' s w e1 e2 e3 e4 => hA d vs H' μ' (st.trans s) w e1 e2 e3 e4
  | ok ps W1 =>
    rw [e] at hA
    intro us H2 μ2 s2 w2 r2
    have hd : H2 p = some (.dK []) := s2.keep p _ upd_same hm
    have hm2 : p ∉ μ2 := s2.nin upd_same hm
    obtain ⟨kvs, eu, rk⟩ := r2.keys
    have hlen : kvs.length ≤ 15 := by rw [← rk.length, pairsR_len rs ρ W W1 ps e]; exact hr
    refine ⟨hd, kvs, eu, hlen, ?_⟩
    have q0 : RepO X.K H2 (.dct []) p := ⟨[], hd, trivial, Nat.zero_le _⟩
    have ex := ext_own (a := p) (o := .dK (mergeK [] kvs)) q0.mt
    have hz : (dmerge [] ps).length ≤ sizeLine := by
      have := length_dmerge ps []
      have e5 := pairsR_len rs ρ W W1 ps e
      have : sizeLine = 16777216 := sizeLine_eq
      rw [List.length_nil] at *
      omega
    refine hA (.ref p) _ μ2 ((st.trans s2).upd q0 hp) (w2.upd q0 hm2) (show RepF X.K H .f _ μ2 (.dct (dmerge [] ps)) (.ref p) from ⟨p, rfl, hp, hm2, _, upd_same, ?_, hz⟩)
    exact RepK.merge (kvs := []) (ks := []) trivial List.nodup_nil (RepK.mono ex _ _ rk)
end
end Rx
end
section
set_option Elab.async false
set_option linter.all false
set_option maxRecDepth 100000
set_option maxHeartbeats 1000000
/-! Rx mrg: {**a, ..}. -/
namespace Rx
open PySem PySem.Spec PyProof.Rows
section
variable {prog : Program} {w : World} {K : Type} [DecidableEq K] {knd : KeyKind prog w K} {A : Around} {E : Value → Shared → Prop} {s : Shared}
theorem wpAny_dictPut_pairs {d : Addr} {kvs : List (K × Value)} {k : K} {key v : Value} {Q : Unit → Shared → Prop} (hkey : knd.is k key = true) (hm : s.heap.DictOf knd d kvs)
    (hQ : ∀ h', h'.DictOf knd d (PySem.stored kvs k v) → Heap.SameBut d s.heap h' → Q () { s with heap := h' })
    (hsz : kvs.length ≤ sizeLine) :
    wpAny (model prog w) A (dictPut d (knd.hash k) key v) Q E s := by
  obtain ⟨o, es, ep, ho, hc, hd, hk, hp, hn⟩ := hm
  have hes : es.size ≤ sizeLine := by have e1 := hp.length; have e2 : es.toList.length = es.size := by simp
                                      omega
  unfold dictPut
  refine wpAny_bind (wpAny_dictFind_of hkey ho hd hk ?_)
  have hidx : (es.findIdx? fun e => knd.is k e.key) = kvs.findIdx? fun kv => decide (kv.1 = k) := by
    rw [← hp.findIdx k]; obtain ⟨l⟩ := es; simp
  cases hi : es.findIdx? fun e => knd.is k e.key with
  | some i =>
    refine wpAny_updateDict ho hd (hQ _ ⟨_, _, ep, Heap.get?_update_self _ ho (Obj.isFreed_of_dict (Obj.data_mapDict hd _)),
      hc.mapDict _, Obj.data_mapDict hd _, hk.modify _ _, ?_, ?_⟩ (Heap.SameBut.update ..))
    · rw [PySem.stored, if_pos (any_of_findIdx_some (hidx ▸ hi))]
      have hl : (es.toList.findIdx? fun e => knd.is k e.key) = some i := by rw [← hi]; obtain ⟨l⟩ := es; simp
      have := hp.modify hn hl v
      obtain ⟨l⟩ := es
      simpa using this
    · rw [PySem.stored, if_pos (any_of_findIdx_some (hidx ▸ hi)), keys_map_store]; exact hn
  | none =>
    have hnot : k ∉ kvs.map (·.1) := not_mem_of_findIdx_none (hidx ▸ hi)
    have hany : ¬ (kvs.any fun kv => decide (kv.1 = k)) = true := by
      rw [List.any_eq_true]; rintro ⟨kv, hkv, he⟩
      exact hnot (List.mem_map.mpr ⟨kv, hkv, of_decide_eq_true he⟩)
    refine wpAny_updateDictKeys (hz := hes) ho hd (hQ _ ⟨_, _, ep + 1, Heap.get?_update_self _ ho (Obj.isFreed_of_dict (Obj.data_mapDictKeys hd _)),
      hc.mapDictKeys _, Obj.data_mapDictKeys hd _, hk.push hkey _, ?_, ?_⟩ (Heap.SameBut.update ..))
    · rw [PySem.stored, if_neg hany]
      have := hp.append hkey (knd.hash k) v
      obtain ⟨l⟩ := es
      simpa using this
    · rw [PySem.stored, if_neg hany, List.map_append, List.nodup_append]
      refine ⟨hn, by simp, ?_⟩
      intro a ha b hb
      simp only [List.map_cons, List.map_nil, List.mem_singleton] at hb
      subst hb
      exact fun e => hnot (e ▸ ha)
/-- a plain dict's items, put into another one; its keys ask no hashing -/
theorem wpAny_mergeMap {d o : Addr} {kvs more : List (K × Value)} {Q : Unit → Shared → Prop} (hdo : d ≠ o) (hoS : (o == sysModules) = false)
    (hd : s.heap.DictOf knd d kvs) (ho : s.heap.DictOf knd o more) (hflat : ∀ k v, knd.is k v = true → ∀ a, v ≠ .ref a)
    (hQ : ∀ h', h'.DictOf knd d (merged kvs more) → h'.DictOf knd o more → Heap.SameBut d s.heap h' → Q () { s with heap := h' })
    (hsz : kvs.length + more.length ≤ sizeLine) :
    wpAny (model prog w) A (mergeMapping d (.ref o) false) Q E s := by
  obtain ⟨od, esd, epd, hod, hcd, hdd, hkd, hpd, hnd⟩ := id hd
  obtain ⟨oo, eso, epo, hoo, hco, hdo', hko, hpo, hno⟩ := id ho
  have hlen : more.length = eso.size := by rw [← hpo.length]; simp
  have loop : wpAny (model prog w) A (do
      let l ← dictEntries o
      let epoch ← dictEpoch o
      forIn (List.range l.size) PUnit.unit fun i (_ : PUnit) => (do
          let l' ← dictEntries o
          match l'[i]? with
            | some e => do
              holding [e.key, e.val] (dictPut d e.hash e.key e.val)
              let ep' ← dictEpoch o
              if (ep' != epoch) = true then do
                  (unsupported "dict.changed-during-merge" : Sem PUnit)
                  pure (ForInStep.yield PUnit.unit)
                else pure (ForInStep.yield PUnit.unit)
            | _ => do
              (unsupported "dict.changed-during-merge" : Sem PUnit)
              pure (ForInStep.yield PUnit.unit) : Sem (ForInStep PUnit))
      pure ()) Q E s := by
    refine wpAny_bind (wpAny_dictEntries hoo hdo' ?_)
    refine wpAny_bind (wpAny_dictEpoch hoo hdo' ?_)
    refine wpAny_bind ?_
    rw [List.range_eq_range']
    refine wpAny_forIn_list _
      (fun rest _ s' => ∃ h' i, s' = { s with heap := h' } ∧ rest = List.range' i (eso.size - i) ∧ i ≤ eso.size ∧ h'.DictOf knd d (merged kvs (more.take i)) ∧ h'.get? o = some oo ∧ Heap.SameBut d s.heap h')
      _ ?_ ?_ _ _ ⟨s.heap, 0, rfl, by simp, Nat.zero_le _, by simpa [merged] using hd, hoo, Heap.SameBut.refl _ _⟩
    · rintro x rest b s' ⟨h', i, rfl, hr, hi, hd', hoo', hs'⟩
      have hlt : i < eso.size := by
        rcases Nat.lt_or_ge i eso.size with h | h
        · exact h
        · rw [Nat.sub_eq_zero_of_le h] at hr; simp at hr
      obtain ⟨rfl, hrest⟩ : x = i ∧ rest = List.range' (i + 1) (eso.size - (i + 1)) := by
        have e : eso.size - i = (eso.size - (i + 1)) + 1 := by omega
        rw [e, List.range'_succ] at hr
        injection hr with h1 h2
        exact ⟨h1, h2⟩
      refine wpAny_bind (wpAny_dictEntries hoo' hdo' ?_)
      rw [Array.getElem?_eq_getElem hlt]
      obtain ⟨kv, hkv⟩ : ∃ kv, more[x]? = some kv := ⟨more[x]'(by rw [hlen]; exact hlt), List.getElem?_eq_getElem _⟩
      obtain ⟨k, v⟩ := kv
      obtain ⟨hkey, hval⟩ := hpo.get? (e := eso[x]) (by simp [hlt]) hkv
      obtain ⟨k', hkey', hhash⟩ := hko eso[x] (Array.getElem_mem hlt)
      obtain rfl : k' = k := knd.inj _ _ _ hkey' hkey
      show wpAny _ _ (holding [eso[x].key, eso[x].val] (dictPut d eso[x].hash eso[x].key eso[x].val) >>= _) _ _ _
      rw [hhash, hval]
      have hmx : (merged kvs (more.take x)).length ≤ sizeLine := by
        have e1 := merged_length_le kvs (more.take x)
        have e2 : (more.take x).length ≤ more.length := by rw [List.length_take]; omega
        omega
      refine wpAny_bind (wpAny_holding (wpAny_dictPut_pairs (hsz := hmx) hkey hd' fun h'' hd'' hs'' => ?_))
      have hoo'' : h''.get? o = some oo := (hs''.2 o (Ne.symm hdo)).trans hoo'
      refine wpAny_bind (wpAny_dictEpoch hoo'' hdo' ?_)
      rw [if_neg (by simp)]
      exact wpAny_pure ⟨h'', x + 1, rfl, hrest, hlt, by rw [merged_take_succ kvs more x (k', v) hkv]; exact hd'', hoo'', hs'.trans hs''⟩
    · rintro b s' ⟨h', i, rfl, hr, hi, hd', hoo', hs'⟩
      have hin : i = eso.size := by
        rcases Nat.lt_or_ge i eso.size with h | h
        · have e : eso.size - i = (eso.size - (i + 1)) + 1 := by omega
          rw [e, List.range'_succ] at hr; exact nomatch hr
        · exact Nat.le_antisymm hi h
      refine wpAny_pure (hQ h' ?_ ⟨oo, eso, epo, hoo', hco, hdo', hko, hpo, hno⟩ hs')
      rw [hin, ← hlen, List.take_length] at hd'; exact hd'
  have hT : s.TypeIs (.ref o) "dict" := ho.typeIs
  unfold mergeMapping
  refine wpAny_bind (wpAny_isInstance hT isSubtype_dict_dict ?_)
  simp only [if_true]
  refine wpAny_bind (wpAny_specialOf hT F.slot_dict_iter.lookup (wpAny_bind (wpAny_pure ?_)))
  simp only [beq_self_eq_true]
  rw [if_neg (by rw [hoS]; exact Bool.false_ne_true)]
  refine wpAny_bind (wpAny_dictEntries hod hdd ?_)
  by_cases hem : esd.isEmpty = true
  · rw [if_pos hem]
    refine wpAny_bind (wpAny_dictEntries hoo hdo' (wpAny_bind ?_))
    rw [← Array.forIn_toList]
    refine wpAny_forIn_list _ (fun rest _ s' => s' = s ∧ ∀ e ∈ rest, ∀ a, e.key ≠ .ref a) _ ?_ ?_ _ _ ⟨rfl, fun e he a => ?_⟩
    · rintro x rest b s' ⟨rfl, hk⟩
      have hx := hk x List.mem_cons_self
      have hr : ∀ e ∈ rest, ∀ a, e.key ≠ .ref a := fun e he => hk e (List.mem_cons_of_mem _ he)
      split
      · rename_i a ea
        exact absurd ea (hx a)
      · exact wpAny_pure ⟨rfl, hr⟩
    · rintro b s' ⟨rfl, _⟩
      exact loop
    · obtain ⟨k, h1, _⟩ := hko e (by simpa using he)
      exact hflat k _ h1 a
  · rw [if_neg hem]
    exact loop
end
end Rx
end
section
set_option Elab.async false
set_option linter.all false
set_option maxRecDepth 100000
set_option maxHeartbeats 1000000
/-! Rx mrg: {**a, **b}, {**a, k: v}. -/
namespace Rx
open PySem PySem.Spec PyProof.Rows L2
section
variable {X : L2.Cx} {a b k v : Expr} {ta tb tk tv : TE} {pos : Pos}
/-- one more mapping into the new dict at p -/
def tInto (p : Addr) (kvs : List (Key × V)) (t : TE) (go : Hp → List (Key × V) → Prop) : L2.St → Hp → Prop := fun σ H => t σ H fun x H1 => ∃ q ks, x = .ref q ∧ Rd H1 q (.dK ks) ∧ H1 p = some (.dK kvs) ∧ q ≠ p ∧ kvs.length + ks.length ≤ sizeLine ∧ go (L2.upd H1 p (.dK (mergeK kvs ks))) (mergeK kvs ks)
/-- {**a, **b} -/
def tMrg2 (ta tb : TE) : TE := fun σ H Q => ∀ p, H p = none → tInto p [] ta (fun H1 kvs => tInto p kvs tb (fun H2 _ => Q (.ref p) H2) σ H1) σ (L2.upd H p (.dK []))
theorem into_ok {pins : List (Addr × Obj)} {σ : L2.St} {H1 : Hp} {s1 : Shared} {p q : Addr} {kvs ks : List (Key × V)} {A : Around} {E : Value → Shared → Prop} {Q : Unit → Shared → Prop} (I : Inv X pins σ H1 s1) (hq : Rd H1 q (.dK ks)) (hp : H1 p = some (.dK kvs)) (hne : q ≠ p) (hz : kvs.length + ks.length ≤ sizeLine)
    (h : ∀ s2, Inv X pins σ (L2.upd H1 p (.dK (mergeK kvs ks))) s2 → Q () s2) : wpAny (model X.prog X.w) A (mergeMapping p (.ref q) false) Q E s1 := by
  obtain ⟨z1, hd1, vs1, r1, d1⟩ := dk_of I.hok hp
  obtain ⟨z2, hd2, vs2, r2, d2⟩ := dk_rd I.hok hq
  refine wpAny_mergeMap (knd := mixKind X.prog X.w) (Ne.symm hne) hd2 d1 d2 (fun k v hk a e => ?_) (fun h' dd _ hs => h _ ?_) (by rw [← r1.length, ← r2.length]; exact hz)
  · subst e
    rcases keyIs_shape (show keyIs k (.ref a) = true from hk) with ⟨i, t, _, e⟩ | ⟨x, t, _, e⟩ <;> exact nomatch e
  · have he : ∃ q, h'.get? p = some q := let ⟨q, _, _, hq, _⟩ := dd; ⟨q, hq⟩
    exact d_write I (by rw [hp]; exact True.intro) hs he (dk_new (by have := length_mergeK ks kvs; omega) hd1 (KV.merge r2 r1) dd)
theorem into_step {x : Expr} {t : TE} {p : Addr} {kvs : List (Key × V)} {s1 : Shared} {H1 : Hp} {σ1 : L2.St} {pins1 : List (Addr × Obj)} {go : Hp → List (Key × V) → Prop} {k : Sem Value} {Q' : Value → Shared → Prop} (hx : PE X x t) (I1 : Inv X pins1 σ1 H1 s1) (h1 : tInto p kvs t go σ1 H1)
    (hk : ∀ s2 H2 kvs', Inv X pins1 σ1 H2 s2 → go H2 kvs' → wpAny (model X.prog X.w) X.A k Q' X.xe s2) :
    wpAny (model X.prog X.w) X.A (do
        let x_1 ← holding [Value.ref p] do
            let x ← eval x X.env
            standAt pos
            pure x
        (((holding [Value.ref p, x_1] (mergeMapping p x_1 false)).onRaise fun x_2 => do
                  let _ ← holding [Value.ref p, x_1, x_2] (runValue (Code.builtin "proto.let_go" { }))
                  pure ()).tryCatch
              fun e => do
              let __do_lift ← isInstance e (Value.type "AttributeError")
              if __do_lift = true then do
                  rule "dict.display.not-a-mapping"
                  let __do_lift ← typeNameOf x_1
                  raiseErrorMade "TypeError"
                      (toString "'" ++ toString __do_lift ++ toString "' object is not a mapping")
                  throw e
                else throw e).onRaise
          fun x_2 => do
          let _ ← holding [Value.ref p, x_2] (runValue (Code.builtin "proto.let_go" { }))
          pure ()
        k) Q' X.xe s1 := by
  refine wpAny_bind (wpAny_holding (wpAny_bind (thn (hx.run pins1 s1 σ1 H1 _ I1 h1) fun u s2 ⟨y, H2, I2, ry, q, ks, ey, e1, e2, e3, e4, g⟩ => wpAny_bind (wpAny_standAt (wpAny_pure ?_)))))
  subst ey
  obtain rfl : u = Value.ref q := ry
  exact wpAny_bind (wpAny_onRaise (wpAny_tryCatch (wpAny_onRaise (wpAny_holding (into_ok I2 e1 e2 e3 e4 fun s3 I3 => hk s3 _ _ I3 g)))))
theorem pe_mrg2 (ha : PE X a ta) (hb : PE X b tb) : PE X (.Dict [none, none] [a, b] pos) (tMrg2 ta tb) := by
  refine ⟨fun pins s σ H Q I q => ?_⟩
  have hn := I.hok.fresh (Nat.le_refl s.heap.objs.size)
  have I1 := I.laid (a := s.heap.objs.size) (o := .dK []) (h' := s.heap.push { cls := .type "dict", data := .dict #[] }) (t' := s.toks) (fun _ _ q => Heap.get?_push_of_some _ q) (Nat.le_refl _) (dk_empty s.heap I.big)
  have q := q _ hn
  show wpAny _ _ (do standAt pos; dictDisplay [(none, do let x ← eval a X.env; standAt pos; pure x), (none, do let x ← eval b X.env; standAt pos; pure x)]) _ _ _
  refine wpAny_bind (wpAny_standAt ?_)
  unfold dictDisplay
  simp only [List.forIn_cons, List.forIn_nil, List.isEmpty_nil, if_true, pure_bind, bind_assoc]
  refine wpAny_bind (wpAny_alloc ?_)
  refine into_step ha I1 q fun s2 H2 kvs2 I2 q2 => ?_
  refine into_step hb I2 q2 fun s3 H3 kvs3 I3 q3 => ?_
  exact wpAny_pure ⟨.ref s.heap.objs.size, H3, I3, rfl, q3⟩
end
end Rx
end
section
set_option Elab.async false
set_option linter.all false
set_option maxRecDepth 100000
set_option maxHeartbeats 1000000
/-! Rx mrg3: {**a, **b} as an expression's rule. -/
namespace Rx
open PySem PySem.Spec PyProof.Rows L2
section
variable {K : PySem.W.Frag} {N : Nm} {H0 H H1 : Hp} {μ μ0 : List Addr} {pn : List (Addr × Obj)} {O : Nat → Bool} {σ : L2.St} {ρ : Env}
/-- a frame beside a new thing that is written -/
theorem FR.side (f0 : FR K N H0 H μ0 pn O σ ρ) (f : FR K N H0 H1 μ pn O σ ρ) {p : Addr} {o : HO} (hp : H p = none) (m : (∃ vs, H1 p = some (.lst vs)) ∨ ∃ ks, H1 p = some (.dK ks)) : FR K N H0 (L2.upd H1 p o) μ pn O σ ρ := by
  refine ⟨fun i v h1 h2 => ?_, fun i v h1 h2 => ?_, f.apart, f.len⟩
  · obtain ⟨u, e, q⟩ := f.slot i v h1 h2
    exact ⟨u, e, q.upd m⟩
  · obtain ⟨x, a, e, e1, q, hm, h0⟩ := f.own i v h1 h2
    obtain ⟨x', a', _, e1', q', _, _⟩ := f0.own i v h1 h2
    rw [e1] at e1'
    cases e1'
    have hne : a ≠ p := fun z => by
      obtain ⟨o', ho⟩ := RepO.ex q'
      rw [z, hp] at ho
      cases ho
    exact ⟨x, a, e, e1, RepO.mono (ext_own m) (fun o' z => by rw [upd_ne hne]; exact z) q, hm, h0⟩
end
section
variable {X : L2.Cx} {c : Ec} {a b : Expr} {ra rb : Env → Wd → R Val} {pos : Pos}
def mrg2R (ra rb : Env → Wd → R Val) : Env → Wd → R Val := fun ρ W => (dat (ra ρ W)).bind fun x w => match x with
  | .dct xs => (dat (rb ρ w)).bind fun y w => match y with
    | .dct ys => if fits (xs.length + ys.length) then .ok (.d (.dct (dmerge (dmerge [] xs) ys))) w else .st
    | _ => .st
  | _ => .st
theorem je_mrg2 (ha : JE X c .z a ra) (hb : JE X c .z b rb) : JE X c .f (.Dict [none, none] [a, b] pos) (mrg2R ra rb) := by
  refine pe_mono (pe_mrg2 ha hb) fun σ H Q ⟨ρ, μ, W, hF, hW, hA⟩ p hp => ?_
  have st := Stp.new (μ := μ) (o := .dK []) hp
  have hm : p ∉ μ := fun hm => hW.there p hm hp
  refine ⟨ρ, μ, W, hF.step st hW, hW.new hp, ?_⟩
  have hA : Ans X.K c.N c.Wx (repV X c .f H) H μ σ ((dat (ra ρ W)).bind fun x w => match x with
    | .dct xs => (dat (rb ρ w)).bind fun y w => match y with
      | .dct ys => if fits (xs.length + ys.length) then .ok (.d (.dct (dmerge (dmerge [] xs) ys))) w else .st
      | _ => .st
    | _ => .st) Q := hA
  cases e1 : ra ρ W with
  | st => rw [e1] at hA; exact hA
  | ex k fs W1 =>
    rw [e1] at hA
    exact fun d vs H' μ' s w q1 q2 q3 q4 => hA d vs H' μ' (st.trans s) w q1 q2 q3 q4
  | ok v W1 =>
    rw [e1] at hA
    cases v with
    | d x =>
      cases x with
      | dct xs =>
        intro v1 H1 μ1 s1 w1 r1
        obtain ⟨q, od, ks, rfl, hq, rk, hz⟩ := (show ∃ a o ks, v1 = .ref a ∧ H1 a = some (.frz o (.dK ks)) ∧ RepK X.K H1 xs ks ∧ xs.length ≤ sizeLine from r1)
        have hp1 : H1 p = some (.dK []) := s1.keep p _ upd_same hm
        have hm1 : p ∉ μ1 := s1.nin upd_same hm
        have hne : q ≠ p := fun z => by rw [z, hp1] at hq; cases hq
        have q0 : RepO X.K H1 (.dct []) p := ⟨[], hp1, trivial, Nat.zero_le _⟩
        have el := rk.length
        refine ⟨q, ks, rfl, .inr ⟨od, hq⟩, hp1, hne, (by rw [List.length_nil]; omega), ?_⟩
        have st2 : Stp μ μ1 H (L2.upd H1 p (.dK (mergeK [] ks))) := (st.trans s1).upd q0 hp
        have f1 := (hF.step st hW).step s1 (hW.new hp)
        refine ⟨ρ, μ1, W1, FR.side hF f1 hp (.inr ⟨_, hp1⟩), w1.upd q0 hm1, ?_⟩
        have hA : Ans X.K c.N c.Wx (repV X c .f H) H μ σ ((dat (rb ρ W1)).bind fun y w => match y with
          | .dct ys => if fits (xs.length + ys.length) then .ok (.d (.dct (dmerge (dmerge [] xs) ys))) w else .st
          | _ => .st) Q := hA
        cases e2 : rb ρ W1 with
        | st => rw [e2] at hA; exact hA
        | ex k fs W2 =>
          rw [e2] at hA
          exact fun d vs H' μ' s w q1 q2 q3 q4 => hA d vs H' μ' (st2.trans s) w q1 q2 q3 q4
        | ok v W2 =>
          rw [e2] at hA
          cases v with
          | d y =>
            cases y with
            | dct ys =>
              intro v2 H2 μ2 s2 w2 r2
              obtain ⟨q2, od2, ks2, rfl, hq2, rk2, hz2⟩ := (show ∃ a o ks, v2 = .ref a ∧ H2 a = some (.frz o (.dK ks)) ∧ RepK X.K H2 ys ks ∧ ys.length ≤ sizeLine from r2)
              have hp2 : H2 p = some (.dK (mergeK [] ks)) := s2.keep p _ upd_same hm1
              have hm2 : p ∉ μ2 := s2.nin upd_same hm1
              have hne2 : q2 ≠ p := fun z => by rw [z, hp2] at hq2; cases hq2
              have hA : Ans X.K c.N c.Wx (repV X c .f H) H μ σ (if fits (xs.length + ys.length) then .ok (.d (.dct (dmerge (dmerge [] xs) ys))) W2 else .st) Q := hA
              split at hA
              · rename_i hf
                have hf := fits_le hf
                have el2 := rk2.length
                have l1 := length_mergeK ks []
                have l2 := length_mergeK ks2 (mergeK [] ks)
                rw [List.length_nil] at l1
                refine ⟨q2, ks2, rfl, .inr ⟨od2, hq2⟩, hp2, hne2, by omega, ?_⟩
                have k1 : RepK X.K (L2.upd H1 p (.dK (mergeK [] ks))) (dmerge [] xs) (mergeK [] ks) := RepK.merge (kvs := []) (ks := []) trivial List.nodup_nil (RepK.mono (ext_own q0.mt) _ _ rk)
                have k2 : RepK X.K H2 (dmerge [] xs) (mergeK [] ks) := RepK.mono s2.ext _ _ k1
                have q02 : RepO X.K H2 (.dct (dmerge [] xs)) p := ⟨_, hp2, k2, by rw [k2.length]; omega⟩
                have k3 := RepK.merge k2 (mergeK_nd (ks := []) List.nodup_nil) rk2
                refine hA (.ref p) _ μ2 ((st2.trans s2).upd q02 hp) (w2.upd q02 hm2) ⟨p, rfl, hp, hm2, _, upd_same, RepK.mono (ext_own q02.mt) _ _ k3, ?_⟩
                rw [k3.length]
                omega
              · exact hA.elim
            | _ => exact (show False from hA).elim
          | _ => exact (show False from hA).elim
      | _ => exact (show False from hA).elim
    | _ => exact (show False from hA).elim
end
end Rx
end
section
set_option Elab.async false
set_option linter.all false
set_option maxRecDepth 100000
set_option maxHeartbeats 1000000
/-! Rx new: a list of the world is made. -/
namespace Rx
open PySem PySem.Spec PyProof.Rows L2
section
variable {K : PySem.W.Frag} {N : Nm} {H : Hp} {μ : List Addr} {W : Wd}
theorem Stp.snoc {p : Addr} {o : HO} (h : H p = Option.none) : Stp μ (μ ++ [p]) H (L2.upd H p o) := by
  have s := Stp.new (μ := μ) (o := o) h
  exact ⟨s.keep, s.ext, s.wld, [p], rfl, fun a ha => by rw [List.mem_singleton] at ha; rw [ha]; exact h⟩
theorem get_snoc {μ : List Addr} {p a : Addr} {n : Nat} (h : (μ ++ [p])[n]? = Option.some a) : μ[n]? = Option.some a ∨ (n = μ.length ∧ a = p) := by
  by_cases hn : n < μ.length
  · rw [List.getElem?_append_left hn] at h
    exact .inl h
  · rw [List.getElem?_append_right (by omega)] at h
    by_cases e : n - μ.length = 0
    · rw [e] at h
      cases h
      exact .inr ⟨by omega, rfl⟩
    · obtain ⟨k, hk⟩ := Nat.exists_eq_succ_of_ne_zero e
      rw [hk] at h
      cases h
theorem WR.snoc (w : WR K N H μ W) {p : Addr} {xs : List Val} {vs : List V} (hp : H p = Option.none) (r : RepVL K N H μ [] xs vs) (hz : xs.length ≤ sizeLine) : WR K N (L2.upd H p (.lst vs)) (μ ++ [p]) (W ++ [.ls xs]) := by
  have w' := w.new (o := .lst vs) hp
  have st := Stp.snoc (μ := μ) (o := .lst vs) hp
  have m : ∀ (n : Nat) (a : Addr), μ[n]? = Option.some a → (μ ++ [p])[n]? = Option.some a := fun n a h => st.at h
  have hm : p ∉ μ := fun z => by obtain ⟨o, e, _⟩ := w.some z; rw [hp] at e; cases e
  refine ⟨by rw [List.length_append, List.length_append, w.len]; rfl, ?_, fun n a o h1 h2 => ?_⟩
  · rw [List.nodup_append]
    exact ⟨w.nd, List.nodup_cons.mpr ⟨by simp, List.nodup_nil⟩, fun a ha b hb e => by rw [List.mem_singleton] at hb; rw [← hb, ← e] at hm; exact hm ha⟩
  · rcases get_snoc h1 with h1 | ⟨rfl, rfl⟩
    · have hn : n < W.length := by rw [w.len]; exact (List.getElem?_eq_some_iff.mp h1).1
      rw [List.getElem?_append_left hn] at h2
      have q := w'.at_ n a o h1 h2
      cases o with
      | ls ys =>
        obtain ⟨us, q1, q2, q3⟩ := q
        exact ⟨us, q1, RepVL.mono0 (Ext.refl _) m q2, q3⟩
      | ins cc fs =>
        obtain ⟨dx, gs, q1, q2, q3, q4⟩ := q
        refine ⟨dx, gs, q1, q2, q3, fun f v hf => ?_⟩
        obtain ⟨u, z1, z2⟩ := q4 f v hf
        exact ⟨u, z1, RepV.mono0 (Ext.refl _) m z2⟩
      | dc _ => exact q
    · rw [← w.len, List.getElem?_append_right (Nat.le_refl _), Nat.sub_self] at h2
      cases h2
      exact ⟨vs, upd_same, RepVL.mono0 st.ext m r, hz⟩
end
section
variable {X : L2.Cx} {c : Ec} {x : Sx} {es : List Expr} {r : Env → Wd → R (List Val)} {pos pos' lp : Pos} {i : Nat} {n : Str}
def wnewR (i : Nat) (r : Env → Wd → R (List Val)) : Env → Wd → Out := fun ρ W => (r ρ W).go ρ fun vs w => if vs.all flatV && fits vs.length then .nx (setv ρ i (some (.o w.length))) (w ++ [.ls vs]) else .st
theorem RepVL.unx {K : PySem.W.Frag} {N : Nm} {H : Hp} {μ : List Addr} {pn : List (Addr × Obj)} : ∀ {xs : List Val} {vs : List V}, RepVL K N H μ pn xs vs → xs.all flatV = true → RepVL K N H μ [] xs vs
  | [], [], _, _ => trivial
  | x :: xs, v :: vs, h, e => by
    rw [List.all_cons, Bool.and_eq_true] at e
    exact ⟨h.1.unx (by cases x <;> first | rfl | cases e.1), RepVL.unx h.2 e.2⟩
theorem js_wnew (G : Gd X c) (htr : ∀ Oe, x.tr = some Oe → Oe = c.O) (hi : X.N[i]? = some n) (hx : Loc X.env.scope n) (hf : X.fn n = true ∨ X.env.scope.names.lookup n = some .local) (ho : c.O i = false)
    (hs : swapsWith (.List es lp) (some (.Name n pos')) pos.line X.env = pure false) (ha : JA X c es r) : JS X c x c.O (.Assign [.Name n pos'] (.List es lp) pos) (wnewR i r) := by
  refine ⟨fun pins s σ H D I ⟨ρ, μ, W, hF, hW, hS, h⟩ => (ps_set G.nd hi hx (pe_lst ha) hs hf).run pins s σ H D I ⟨ρ, μ, W, hF, hW, ?_⟩⟩
  refine OutOk.go (rep := fun H μ vs us => RepVL X.K c.N H μ c.pn vs us) htr hF hW hS (show OutOk X c x c.O H D ((r ρ W).go ρ _) from h) fun xs W1 us H1 μ1 _ f1 st1 w1 s1 q h1 => ?_
  split at h1
  · rename_i hc
    rw [Bool.and_eq_true] at hc
    have hz := fits_le hc.2
    refine ⟨by rw [← q.length]; exact hz, fun p hp => ?_⟩
    have st := Stp.snoc (μ := μ1) (o := .lst us) hp
    have w2 := w1.snoc hp (q.unx hc.1) hz
    refine h1 _ _ (μ1 ++ [p]) ((f1.step st w1).set (len_lt I.len hi) ho ?_) w2 (s1.trans st) st.ext
    exact ⟨p, by rw [w1.len, List.getElem?_append_right (Nat.le_refl _), Nat.sub_self]; rfl, rfl⟩
  · exact h1.elim
end
end Rx
end
section
set_option Elab.async false
set_option linter.all false
set_option maxRecDepth 100000
set_option maxHeartbeats 1000000
/-! Rx fn2: defs by plain functions; a star parameter. -/
namespace Rx
open PySem PySem.Spec PyProof.Rows L2
/-- a body's run: nl slots -/
def runB (nl : Nat) (b : Env → Wd → Out) (us : List Val) (w : Wd) : R Val := endO' (b (us.map some ++ none' (nl - us.length)) w)
/-- n parameters -/
def fixR (n nl : Nat) (b : Env → Wd → Out) (vs : List Val) (w : Wd) : R Val := if Nat.beq vs.length n then runB nl b vs w else .st
/-- n parameters, and what is left -/
def starF (n nl : Nat) (b : Env → Wd → Out) (vs : List Val) (w : Wd) : R Val := if Nat.ble n vs.length then (match valsD (vs.drop n) with
  | some ds => if fits ds.length then runB nl b (vs.take n ++ [.d (.tup ds)]) w else .st
  | none => .st) else .st
section
variable {P : Program} {w : World} {K : PySem.W.Frag} {mg : Str → Option Value} {base : Heap} {Nn : Nm} {l nl : Nat} {a : Addr} {N ps : List Str} {b : Env → Wd → Out}
/-- what is to be shown of a body -/
def BodyOk (P : Program) (w : World) (K : PySem.W.Frag) (mg : Str → Option Value) (base : Heap) (Nn : Nm) (l : Nat) (N : List Str) (qual : Str) (scope : Scope) (a : Addr) (cdv : Value) (body : List Stmt) (O : Nat → Bool) (b : Env → Wd → Out) : Prop :=
  ∀ (A : Around) (outer : List PySem.Env) (s : Shared) (H : Hp) (E : XK) (μ : List Addr), Room l (A.deeper (envOfC qual scope s.heap.objs.size a cdv)) → ∃ O',
    JSs (cxOf (L2.CX P w) P w K mg base N qual scope a cdv A outer s H E) { N := Nn, O := O, H0 := H, Wx := fun cls d _ H' => E cls d H' } { μ0 := μ, tr := none, Ob := fun _ => false } O' body b
theorem body_end {X : L2.Cx} {Nn : Nm} {O O' : Nat → Bool} {H : Hp} {E : XK} {μ : List Addr} {W : Wd} {Q : VK} {ρ : Env} {b : Env → Wd → Out} (hK : X.K = K)
    (hA : Ans K Nn (fun cls d _ H' => E cls d H') (fun H' μ' x v => RepV K Nn H' μ' [] x v) H μ [] (endO' (b ρ W)) Q) :
    OutOk X { N := Nn, O := O, H0 := H, Wx := fun cls d _ H' => E cls d H' } { μ0 := μ, tr := none, Ob := fun _ => false } O' H { nx := fun _ H' => Q .non H', rt := Q } (b ρ W) := by
  subst hK
  cases e : b ρ W with
  | nx ρ W1 =>
    rw [e] at hA
    exact fun σ H1 μ1 f w1 s1 ex => hA .non H1 μ1 s1 w1 rfl
  | rt v W1 =>
    rw [e] at hA
    exact fun u H1 μ1 w1 s1 ex r => hA u H1 μ1 s1 w1 r
  | br ρ W1 => rw [e] at hA; exact hA.elim
  | st => rw [e] at hA; exact hA.elim
  | ex k fs ρ W1 =>
    rw [e] at hA
    exact fun d vs' σ H1 μ1 f w1 s1 ex h1 h2 h3 h4 => hA d vs' H1 μ1 s1 w1 h1 h2 h3 h4
theorem fr_start {H : Hp} {μ : List Addr} {uvs : List Val} {vs : List V} {O : Nat → Bool} (r : RepVL K Nn H μ [] uvs vs) (hO : ∀ i, i < vs.length → O i = false) (hn : nl ≤ N.length) (hl : vs.length ≤ N.length) : FR K Nn H H μ [] O (L2.start N vs) (uvs.map some ++ none' (nl - uvs.length)) :=
  FR.start (fd := ⟨0, [], false, nl, .nil⟩) r hO hn hl
/-- a def's promise, from its body -/
theorem fn_bodyS {name qual : Str} {params : Arguments} {body : List Stmt} {scope : Scope} {dV kV doc pm cdv ct oc : Value} {an od : Option Addr} {osl : Array (Option Value)}
    (lk : K.lookup a = some ⟨oc, od, .func (PySem.W.fnOf name qual params body scope dV kV doc pm an cdv ct), osl⟩) (hcd : PySem.W.codeIn K cdv qual = true) (S : FnScope N ps scope)
    {O : Nat → Bool} (hO : ∀ i, i < ps.length → O i = false) (hn : nl ≤ N.length) (hj : BodyOk P w K mg base Nn l N qual scope a cdv body O b) :
    FnOk P w K mg base (L2.CX P w) (l + 1) a (PySem.W.fnOf name qual params body scope dV kV doc pm an cdv ct) ps (spB K Nn ps.length (runB nl b)) := by
  refine fn_of lk hcd S (fun vs H Q E h => h.1) fun A outer s H vs Q E hr ⟨hl, μ, W, uvs, hW, rv, hA⟩ => ?_
  have hpl : ps.length ≤ N.length := by have := congrArg List.length S.pre; rw [List.length_take] at this; omega
  obtain ⟨O', hj⟩ := hj A outer s H E μ hr
  exact ⟨_, hj, _, μ, W, fr_start rv (fun i hi => hO i (by rw [← hl]; exact hi)) hn (by rw [hl]; exact hpl), hW, Stp.refl _ _, body_end rfl hA⟩
theorem fn_fix {fdd : FuncData} (F : FnOk P w K mg base (L2.CX P w) (l + 1) a fdd ps (spB K Nn ps.length (runB nl b))) (hb : Binds K fdd ps []) :
    FnR P w K mg base (L2.CX P w) (l + 1) a (spR K Nn (fixR ps.length nl b)) := by
  intro A outer s H us vs Q E hr e0 r ⟨μ, W, pvs, hW, rv, hA⟩
  unfold fixR at hA
  split at hA
  · rename_i hc
    have hc := Nat.eq_of_beq_eq_true hc
    have hl := rv.length
    refine F.raw hb .nil A outer s H us vs Q E hr e0 r ?_
    show spB K Nn ps.length (runB nl b) (vs ++ []) H Q E
    rw [List.append_nil]
    exact ⟨by omega, μ, W, pvs, hW, rv, hA⟩
  · exact hA.elim
theorem Ans.shift {α β : Type} {Wx : WX} {rep : Hp → List Addr → α → β → Prop} {H H1 : Hp} {μ μ1 : List Addr} {σ : L2.St} {r : R α} {Q : β → Hp → Prop} (h : Ans K Nn Wx rep H μ σ r Q) (st : Stp μ μ1 H H1) : Ans K Nn Wx rep H1 μ1 σ r Q := by
  cases r with
  | st => exact h
  | ex c fs W1 => exact fun d vs H' μ' s w q1 q2 q3 q4 => h d vs H' μ' (st.trans s) w q1 q2 q3 q4
  | ok a W1 => exact fun b H' μ' s w q => h b H' μ' (st.trans s) w q
theorem RepVL.take {H : Hp} {μ : List Addr} {pn : List (Addr × Obj)} : ∀ {xs : List Val} {vs : List V} (n : Nat), RepVL K Nn H μ pn xs vs → RepVL K Nn H μ pn (xs.take n) (vs.take n)
  | [], [], 0, _ => trivial
  | [], [], _ + 1, _ => trivial
  | _ :: _, _ :: _, 0, _ => trivial
  | _ :: _, _ :: _, n + 1, h => ⟨h.1, RepVL.take n h.2⟩
theorem RepVL.drop {H : Hp} {μ : List Addr} {pn : List (Addr × Obj)} : ∀ {xs : List Val} {vs : List V} (n : Nat), RepVL K Nn H μ pn xs vs → RepVL K Nn H μ pn (xs.drop n) (vs.drop n)
  | [], [], 0, h => h
  | [], [], _ + 1, h => h
  | _ :: _, _ :: _, 0, h => h
  | _ :: _, _ :: _, n + 1, h => RepVL.drop n h.2
/-- def f(a, .., *v) -/
theorem fn_starS {name qual : Str} {params : Arguments} {body : List Stmt} {scope : Scope} {dV kV doc pm cdv ct oc : Value} {an od : Option Addr} {osl : Array (Option Value)} {pv : Str}
    (lk : K.lookup a = some ⟨oc, od, .func (PySem.W.fnOf name qual params body scope dV kV doc pm an cdv ct), osl⟩) (hcd : PySem.W.codeIn K cdv qual = true) (S : FnScope N (ps ++ [pv]) scope)
    (hb : ∀ us rest : List Value, us.length = ps.length → bindArgs (PySem.W.fnOf name qual params body scope dV kV doc pm an cdv ct) ⟨us ++ rest, []⟩ = (newTuple rest >>= fun t => pure (ps.zip us ++ [(pv, t)])))
    {O : Nat → Bool} (hO : ∀ i, i < ps.length + 1 → O i = false) (hn : nl ≤ N.length) (hj : BodyOk P w K mg base Nn l N qual scope a cdv body O b) :
    FnR P w K mg base (L2.CX P w) (l + 1) a (spR K Nn (starF ps.length nl b)) := by
  have hpl : ps.length + 1 ≤ N.length := by
    have := congrArg List.length S.pre
    rw [List.length_take, List.length_append] at this
    have e : ([pv] : List Str).length = 1 := rfl
    omega
  have F := StX.fn_star (CX := L2.CX P w) (P := P) (w := w) (mg := mg) (base := base) (k := l) (sp := spB K Nn (ps.length + 1) (runB nl b)) lk hcd S StX.cxUp hb fun A outer s H vs Q E hr ⟨hl, μ, W, uvs, hW, rv, hA⟩ => ?_
  · intro A outer s H us vs Q E hr e0 r ⟨μ, W, pvs, hW, rv, hA⟩
    refine F A outer s H us vs Q E hr e0 r ?_
    unfold starF at hA
    split at hA
    · rename_i hc
      have hc := Nat.le_of_ble_eq_true hc
      have hl := rv.length
      split at hA
      · rename_i ds eds
        split at hA
        · rename_i hf
          have hf := fits_le hf
          have rd := (rv.drop ps.length).data eds
          refine ⟨vs.take ps.length, vs.drop ps.length, (List.take_append_drop _ _).symm, by rw [List.length_take]; omega, by rw [← rd.length]; exact hf, fun p hp => ?_⟩
          have st := Stp.new (μ := μ) (o := .tup (vs.drop ps.length)) hp
          refine ⟨by rw [List.length_append, List.length_take]; show min _ _ + 1 = _; omega, μ, W, _, hW.new hp, RepVL.app (RepVL.take ps.length (RepVL.mono0 st.ext (fun _ _ z => z) rv)) (RepVL.cons (x := .d (.tup ds)) (show Rep K _ (.tup ds) (.ref p) from ⟨p, _, rfl, .inl (.inl upd_same), RepL.mono st.ext _ _ rd, hf⟩) (xs := []) (vs := []) trivial), hA.shift st⟩
        · exact hA.elim
      · exact hA.elim
    · exact hA.elim
  · obtain ⟨O', hj⟩ := hj A outer s H E μ hr
    exact ⟨_, hj, _, μ, W, fr_start rv (fun i hi => hO i (by rw [← hl]; exact hi)) hn (by rw [hl]; exact hpl), hW, Stp.refl _ _, body_end rfl hA⟩
end
end Rx
end
section
set_option Elab.async false
set_option linter.all false
set_option maxRecDepth 100000
set_option maxHeartbeats 1000000
/-! Rx sort: sorted of texts, of whole numbers. -/
namespace Rx
open PySem PySem.Spec PyProof.Rows L2
/-! ### lists in order, in general -/
section
variable {α : Type} {le : α → α → Bool}
def insG (le : α → α → Bool) (x : α) : List α → List α
  | [] => [x]
  | y :: ys => if le x y then x :: y :: ys else y :: insG le x ys
def sortG (le : α → α → Bool) : List α → List α
  | [] => []
  | x :: xs => insG le x (sortG le xs)
theorem insG_perm (x : α) : ∀ l : List α, (insG le x l).Perm (x :: l)
  | [] => List.Perm.refl _
  | y :: ys => by
    unfold insG
    split
    · exact List.Perm.refl _
    · exact ((insG_perm x ys).cons y).trans (List.Perm.swap x y ys)
theorem sortG_perm : ∀ l : List α, (sortG le l).Perm l
  | [] => List.Perm.refl _
  | x :: xs => (insG_perm x _).trans ((sortG_perm xs).cons x)
structure Tot (le : α → α → Bool) : Prop where
  tot : ∀ x y, le x y = true ∨ le y x = true
  tr : ∀ x y z, le x y = true → le y z = true → le x z = true
  anti : ∀ x y, le x y = true → le y x = true → x = y
abbrev Ord (le : α → α → Bool) (l : List α) : Prop := l.Pairwise fun x y => le x y = true
theorem insG_ord (T : Tot le) (x : α) : ∀ l : List α, Ord le l → Ord le (insG le x l)
  | [], _ => List.pairwise_singleton _ _
  | y :: ys, h => by
    unfold insG
    obtain ⟨h1, h2⟩ := List.pairwise_cons.mp h
    split
    · rename_i hc
      refine List.pairwise_cons.mpr ⟨fun z hz => ?_, h⟩
      rcases List.mem_cons.mp hz with rfl | hz
      · exact hc
      · exact T.tr _ _ _ hc (h1 z hz)
    · rename_i hc
      have hyx : le y x = true := (T.tot x y).resolve_left hc
      refine List.pairwise_cons.mpr ⟨fun z hz => ?_, insG_ord T x ys h2⟩
      rcases List.mem_cons.mp ((insG_perm x ys).mem_iff.mp hz) with rfl | hz
      · exact hyx
      · exact h1 z hz
theorem sortG_ord (T : Tot le) : ∀ l : List α, Ord le (sortG le l)
  | [] => List.Pairwise.nil
  | x :: xs => insG_ord T x _ (sortG_ord T xs)
theorem ord_uniq (T : Tot le) : ∀ {l m : List α}, l.Perm m → Ord le l → Ord le m → l = m
  | [], m, p, _, _ => by rw [List.nil_perm.mp p]
  | x :: l, [], p, _, _ => absurd p.symm (by intro h; have := h.length_eq; simp at this)
  | x :: l, y :: m, p, h, k => by
    obtain ⟨h1, h2⟩ := List.pairwise_cons.mp h
    obtain ⟨k1, k2⟩ := List.pairwise_cons.mp k
    have e : x = y := by
      rcases List.mem_cons.mp (p.mem_iff.mp List.mem_cons_self) with e | hx
      · exact e
      · rcases List.mem_cons.mp (p.mem_iff.mpr List.mem_cons_self) with e | hy
        · exact e.symm
        · exact T.anti _ _ (h1 y hy) (k1 x hx)
    subst e
    rw [ord_uniq T (List.perm_cons x |>.mp p) h2 k2]
theorem sortG_of (T : Tot le) {l m : List α} (p : l.Perm m) (h : Ord le l) : l = sortG le m := ord_uniq T (p.trans (sortG_perm m).symm) h (sortG_ord T m)
end
/-! ### texts, numbers -/
def leN (a b : List Nat) : Bool := !ltN b a
theorem ltN_irr : ∀ a : List Nat, ltN a a = false
  | [] => rfl
  | a :: r => by rw [ltN, ltN_irr r, if_neg (by rw [Nat.blt_eq]; omega)]; split <;> rfl
theorem leN_cons (a b : Nat) (x y : List Nat) : leN (a :: x) (b :: y) = true ↔ a < b ∨ (a = b ∧ leN x y = true) := by
  unfold leN
  rw [ltN]
  by_cases h1 : b < a
  · rw [if_pos (by rw [Nat.blt_eq]; exact h1)]
    constructor
    · intro h; cases h
    · intro h; omega
  · rw [if_neg (by rw [Nat.blt_eq]; exact h1)]
    by_cases h2 : b = a
    · subst h2
      rw [if_pos (by rw [Nat.beq_eq])]
      constructor
      · exact fun h => .inr ⟨rfl, h⟩
      · rintro (h | h)
        · omega
        · exact h.2
    · rw [if_neg (by rw [Nat.beq_eq]; exact h2)]
      exact ⟨fun _ => .inl (by omega), fun _ => rfl⟩
theorem leN_nil (b : List Nat) : leN [] b = true := by cases b <;> rfl
theorem leN_cn (a : Nat) (x : List Nat) : leN (a :: x) [] = false := rfl
theorem leN_tot : Tot leN := by
  refine ⟨?_, ?_, ?_⟩
  · intro x
    induction x with
    | nil => exact fun y => .inl (leN_nil y)
    | cons a x ih =>
      intro y
      cases y with
      | nil => exact .inr (leN_nil _)
      | cons b y =>
        rw [leN_cons, leN_cons]
        rcases Nat.lt_trichotomy a b with h | h | h
        · exact .inl (.inl h)
        · rcases ih y with q | q
          · exact .inl (.inr ⟨h, q⟩)
          · exact .inr (.inr ⟨h.symm, q⟩)
        · exact .inr (.inl h)
  · intro x
    induction x with
    | nil => exact fun _ z _ _ => leN_nil z
    | cons a x ih =>
      intro y z h1 h2
      cases y with
      | nil => cases h1
      | cons b y =>
        cases z with
        | nil => cases h2
        | cons d z =>
          rw [leN_cons] at h1 h2 ⊢
          rcases h1 with h1 | ⟨h1, q1⟩
          · rcases h2 with h2 | ⟨h2, q2⟩
            · exact .inl (by omega)
            · exact .inl (by omega)
          · rcases h2 with h2 | ⟨h2, q2⟩
            · exact .inl (by omega)
            · exact .inr ⟨by omega, ih y z q1 q2⟩
  · intro x
    induction x with
    | nil =>
      intro y _ h
      cases y with
      | nil => rfl
      | cons b y => cases h
    | cons a x ih =>
      intro y h1 h2
      cases y with
      | nil => cases h1
      | cons b y =>
        rw [leN_cons] at h1 h2
        have e : a = b := by omega
        subst e
        rw [ih y (h1.elim (fun h => absurd h (Nat.lt_irrefl _)) (·.2)) (h2.elim (fun h => absurd h (Nat.lt_irrefl _)) (·.2))]
def leI (a b : Int) : Bool := decide (a ≤ b)
theorem leI_tot : Tot leI := ⟨fun x y => by simp only [leI, decide_eq_true_eq]; omega, fun x y z => by simp only [leI, decide_eq_true_eq]; omega, fun x y => by simp only [leI, decide_eq_true_eq]; omega⟩
def sortS : List (List Nat) → List (List Nat) := sortG leN
def sortI : List Int → List Int := sortG leI
theorem ltCps_ltN : ∀ a b : List Nat, ltCps a b = ltN a b
  | [], [] => rfl
  | [], _ :: _ => rfl
  | _ :: _, [] => rfl
  | a :: x, b :: y => by
    rw [ltCps, ltN, ltCps_ltN x y]
    by_cases h1 : a < b
    · rw [if_pos (by rw [Nat.blt_eq]; exact h1), decide_eq_true h1]; rfl
    · rw [if_neg (by rw [Nat.blt_eq]; exact h1), decide_eq_false h1]
      by_cases h2 : a = b
      · subst h2
        rw [if_pos (by rw [Nat.beq_eq])]
        simp
      · rw [if_neg (by rw [Nat.beq_eq]; exact h2)]
        simp [h2]
/-- rising: in order -/
theorem ord_rising : ∀ (p : Str) (l : List Str), risingS p l = true → Ord leN ((p :: l).map fun z => z.cps.toList)
  | p, [], _ => List.pairwise_singleton _ _
  | p, x :: r, h => by
    rw [risingS, Bool.and_eq_true] at h
    have ih := ord_rising x r h.2
    have h1 : leN p.cps.toList x.cps.toList = true := by
      unfold leN
      rw [← ltCps_ltN]
      exact h.1
    rw [List.map_cons] at ih ⊢
    refine List.pairwise_cons.mpr ⟨fun z hz => ?_, ih⟩
    rcases List.mem_cons.mp hz with rfl | hz
    · exact h1
    · exact leN_tot.tr _ _ _ h1 ((List.pairwise_cons.mp ih).1 z hz)
theorem ord_sortedS : ∀ l : List Str, sortedS l = true → Ord leN (l.map fun z => z.cps.toList)
  | [], _ => List.Pairwise.nil
  | x :: r, h => ord_rising x r h
theorem sortS_of {ys : List Str} {ss : List (List Nat)} (p : ys.Perm (ss.map tx)) (h : sortedS ys = true) : ys = (sortS ss).map tx := by
  have q := p.map fun z => z.cps.toList
  rw [List.map_map] at q
  have e : ∀ l : List (List Nat), l.map ((fun z : Str => z.cps.toList) ∘ tx) = l := fun l => by
    have : ((fun z : Str => z.cps.toList) ∘ tx) = id := by funext z; simp
    rw [this, List.map_id]
  rw [e] at q
  have r := sortG_of leN_tot q (ord_sortedS ys h)
  have f : ∀ l : List Str, (l.map fun z => z.cps.toList).map tx = l := fun l => by
    rw [List.map_map]
    have : (tx ∘ fun z : Str => z.cps.toList) = id := by funext z; exact tx_list z
    rw [this, List.map_id]
  rw [← f ys, r]
  rfl
theorem sortS_len (l : List (List Nat)) : (sortS l).length = l.length := (sortG_perm l).length_eq
theorem sortI_len (l : List Int) : (sortI l).length = l.length := (sortG_perm l).length_eq
/-- all are texts -/
def strsO : List PV → Option (List (List Nat))
  | [] => some []
  | .str s :: r => (strsO r).map (s :: ·)
  | _ :: _ => none
def keysS : List (PV × PV) → Option (List (List Nat))
  | [] => some []
  | (.str s, _) :: r => (keysS r).map (s :: ·)
  | _ :: _ => none
section
variable {K : PySem.W.Frag} {H : Hp}
theorem strsO_rep : ∀ {xs : List PV} {vs : List V} {ss : List (List Nat)}, RepL K H xs vs → strsO xs = some ss → vs = (ss.map tx).map V.str ∧ (∀ s ∈ ss, s.length ≤ sizeLine) ∧ xs.length = ss.length ∧ xs = ss.map .str
  | [], [], ss, _, e => by cases e; exact ⟨rfl, fun _ h => (nomatch h), rfl, rfl⟩
  | .str b :: xs, v :: vs, ss, h, e => by
    obtain ⟨cs, e1, rfl⟩ := Option.map_eq_some_iff.mp (show (strsO xs).map (b :: ·) = some ss from e)
    obtain ⟨h1, h2⟩ := h
    obtain ⟨rfl, hb⟩ := (show v = .str (tx b) ∧ b.length ≤ sizeLine from h1)
    obtain ⟨rfl, g2, g3, g4⟩ := strsO_rep h2 e1
    refine ⟨rfl, fun s hs => ?_, by rw [List.length_cons, List.length_cons, g3], by rw [g4]; rfl⟩
    rcases List.mem_cons.mp hs with rfl | hs
    · exact hb
    · exact g2 s hs
  | .non :: _, _ :: _, _, _, e => by cases e
  | .bl _ :: _, _ :: _, _, _, e => by cases e
  | .int _ :: _, _ :: _, _, _, e => by cases e
  | .tup _ :: _, _ :: _, _, _, e => by cases e
  | .lst _ :: _, _ :: _, _, _, e => by cases e
  | .dct _ :: _, _ :: _, _, _, e => by cases e
  | .set _ :: _, _ :: _, _, _, e => by cases e
theorem keysS_rep : ∀ {xs : List (PV × PV)} {ks : List (Key × V)} {ss : List (List Nat)}, RepK K H xs ks → keysS xs = some ss → ks.map (·.1) = (ss.map tx).map Sum.inr ∧ (∀ s ∈ ss, s.length ≤ sizeLine) ∧ xs.length = ss.length
  | [], [], ss, _, e => by cases e; exact ⟨rfl, fun _ h => (nomatch h), rfl⟩
  | (.str b, x) :: xs, (j, v) :: vs, ss, h, e => by
    obtain ⟨cs, e1, rfl⟩ := Option.map_eq_some_iff.mp (show (keysS xs).map (b :: ·) = some ss from e)
    obtain ⟨h1, _, h2⟩ := h
    obtain ⟨g1, g2, g3⟩ := keysS_rep h2 e1
    obtain ⟨k1, k2⟩ := h1
    have k1 : some (Sum.inr (tx b)) = some j := k1
    cases k1
    refine ⟨by rw [List.map_cons, g1]; rfl, fun s hs => ?_, by rw [List.length_cons, List.length_cons, g3]⟩
    rcases List.mem_cons.mp hs with rfl | hs
    · exact k2
    · exact g2 s hs
  | (.non, _) :: _, _ :: _, _, _, e => by cases e
  | (.bl _, _) :: _, _ :: _, _, _, e => by cases e
  | (.int _, _) :: _, _ :: _, _, _, e => by cases e
  | (.tup _, _) :: _, _ :: _, _, _, e => by cases e
  | (.lst _, _) :: _, _ :: _, _, _, e => by cases e
  | (.dct _, _) :: _, _ :: _, _, _, e => by cases e
  | (.set _, _) :: _, _ :: _, _, _, e => by cases e
theorem rep_strs : ∀ {ss : List (List Nat)}, (∀ s ∈ ss, s.length ≤ sizeLine) → RepL K H (ss.map .str) ((ss.map tx).map V.str)
  | [], _ => trivial
  | s :: ss, h => ⟨⟨rfl, h s List.mem_cons_self⟩, rep_strs fun z hz => h z (List.mem_cons_of_mem _ hz)⟩
theorem rep_ints : ∀ is : List Int, RepL K H (is.map .int) (is.map V.int)
  | [] => trivial
  | _ :: is => ⟨rfl, rep_ints is⟩
end
/-- sorted(x) -/
def sortP : PV → Option PV
  | .lst xs => match strsO xs with
    | some ss => if Nat.blt ss.length 64 then some (.lst ((sortS ss).map .str)) else none
    | none => (intsO xs).bind fun is => if Nat.blt is.length 64 then some (.lst ((sortI is).map .int)) else none
  | .dct kvs => (keysS kvs).bind fun ss => if Nat.blt ss.length 64 then some (.lst ((sortS ss).map .str)) else none
  | _ => none
section
variable {X : L2.Cx} {c : Ec} {a : Expr} {ra : Env → Wd → R Val} {pos : Pos}
def b1R (X : L2.Cx) (f : PV → Option PV) : List V → Hp → VK → Prop := fun xs H Q => ∃ px x pz μ, xs = [x] ∧ RepB X.K H px x ∧ f px = some pz ∧ (∀ a ∈ μ, H a ≠ none) ∧ New X.K H μ pz Q
/-- a built-in of one thing -/
theorem je_b1 {f : PV → Option PV} {fv : Value} {n : Str} {p : Pos} (hT : PE X (.Call (.Name n p) [a] [] pos) (tCB (b1R X f) (tCons (tE X c .b ra) tNil))) (ha : JE X c .b a ra) : JE X c .f (.Call (.Name n p) [a] [] pos) (ap1R f ra) := by
  refine je_ap1 (te := tE X c .b ra) ha ?_ rfl
  refine pe_mono hT fun σ H Q ⟨ρ, μ, W, hF, hW, hA⟩ => ⟨ρ, μ, W, hF, hW, ?_⟩
  cases e : ra ρ W with
  | st => rw [e] at hA; exact hA
  | ex _ _ _ => rw [e] at hA; exact hA
  | ok v W1 =>
    rw [e] at hA
    intro b' H' μ' s w q
    obtain ⟨px, pz, μ2, h1, h2, h3, h4⟩ := hA b' H' μ' s w q
    exact ⟨px, b', pz, μ2, rfl, h1, h2, h3, h4⟩
theorem sort_run (hc : X.calm = true) : CallR X (.builtin "sorted") (b1R X sortP) := by
  rintro pins s σ H xs us Q I r ⟨px, x, pz, μ, rfl, hx, e, hm, q⟩
  have hs : sizeLine = 16777216 := sizeLine_eq
  cases px with
  | lst ys =>
    obtain ⟨a, vs, rfl, h1, h2, hz⟩ := (show ∃ a vs, x = .ref a ∧ Rd H a (.lst vs) ∧ RepL X.K H ys vs ∧ ys.length ≤ sizeLine from hx)
    rw [sortP] at e
    split at e
    · rename_i ss es
      split at e
      · rename_i hl
        rw [Nat.blt_eq] at hl
        cases e
        obtain ⟨ev, g2, _, _⟩ := strsO_rep h2 es
        rw [ev] at h1
        refine call_run cr_sortedS I r ⟨a, ss.map tx, rfl, .inl h1, by rw [List.length_map]; exact hl, fun zs p hp ho hn => ?_⟩
        rw [sortS_of hp ho]
        refine q.list (rep_strs fun z hz => g2 z ((sortG_perm ss).mem_iff.mp hz)) (by rw [List.length_map, sortS_len]; omega) hm p hn
      · cases e
    · obtain ⟨is, e1, e2⟩ := Option.bind_eq_some_iff.mp e
      split at e2
      · rename_i hl
        rw [Nat.blt_eq] at hl
        cases e2
        rw [intsO_rep h2 e1] at h1
        refine call_run cr_sorted I r ⟨a, is, rfl, .inl h1, hl, fun zs p hp ho hn => ?_⟩
        have ez : zs = sortI is := sortG_of leI_tot hp (ho.imp fun h => decide_eq_true h)
        rw [ez]
        exact q.list (rep_ints _) (by rw [List.length_map, sortI_len]; omega) hm p hn
      · cases e2
  | dct ys =>
    obtain ⟨a, ks, rfl, h1, h2, hz⟩ := (show ∃ a ks, x = .ref a ∧ Rd H a (.dK ks) ∧ RepK X.K H ys ks ∧ ys.length ≤ sizeLine from hx)
    obtain ⟨ss, e1, e2⟩ := Option.bind_eq_some_iff.mp (show (keysS ys).bind _ = some pz from e)
    split at e2
    · rename_i hl
      rw [Nat.blt_eq] at hl
      cases e2
      obtain ⟨ev, g2, _⟩ := keysS_rep h2 e1
      refine call_run (call_sortedD hc) I r ⟨a, ks, ss.map tx, rfl, h1, ev, by rw [List.length_map]; exact hl, fun zs p hp ho hn => ?_⟩
      rw [sortS_of hp ho]
      refine q.list (rep_strs fun z hz => g2 z ((sortG_perm ss).mem_iff.mp hz)) (by rw [List.length_map, sortS_len]; omega) hm p hn
    · cases e2
  | _ => cases e
theorem je_sorted (G : Gd X c) (hh : c.hot = false) {p : Pos} (hg : Gl X "sorted") (hm : X.mg "sorted" = none) (ha : JE X c .b a ra) (hst : starEach [a] X.env = (false, eval a X.env) :: starEach [] X.env) : JE X c .f (.Call (.Name "sorted" p) [a] [] pos) (ap1R sortP ra) :=
  je_b1 (fv := .builtin "sorted") (pe_callB (sort_run (G.calm hh)) hg hm (by decide +kernel) (pa_cons ha pa_nil hst) (by decide) (by decide) hst rfl) ha
end
end Rx
end
section
set_option Elab.async false
set_option linter.all false
set_option maxRecDepth 100000
set_option maxHeartbeats 2000000
/-! Rx setT: sets of keys (texts, ints) made of lists; sorted of them. -/
namespace Rx
open PySem PySem.Spec PyProof.Rows L2
/-- an entry's key -/
def entK (e : Int × Value) : Key := match e.2 with
  | .int k _ => .inl k
  | .str x _ => .inr x
  | _ => .inl 0
def EntOk (P : Program) (w : World) (e : Int × Value) : Prop := ∃ k : Key, (mixKind P w).is k e.2 = true ∧ e.1 = (mixKind P w).hash k
/-- the set at a has just the keys ks, each once; it can be walked -/
def SetM (P : Program) (w : World) (h : Heap) (a : Addr) (ks : List Key) : Prop :=
  ∃ o es ep t, h.get? a = some o ∧ o.ExactSet ∧ o.data = .set es ep t ∧ (∀ e ∈ es.toList, EntOk P w e) ∧ (es.toList.map entK).Perm ks ∧ ks.Nodup ∧
    es.size < scanBound ∧ t.fits es.size = true ∧ Ris t.place.toList ∧ (w.params.followText "set-order" = true ∨ t.led = true)
section
variable {P : Program} {w : World} {h h' : Heap} {a : Addr} {ks : List Key}
theorem SetM.keep (R : SetM P w h a ks) (k : ∀ o, h.get? a = some o → h'.get? a = some o) : SetM P w h' a ks := by
  obtain ⟨o, es, ep, t, z, r⟩ := R
  exact ⟨o, es, ep, t, k o z, r⟩
theorem SetM.lt (R : SetM P w h a ks) : a < h.objs.size := by
  obtain ⟨o, es, ep, t, z, r⟩ := R
  exact Heap.lt_size z
theorem entK_of {k : Key} {e : Int × Value} (h : (mixKind P w).is k e.2 = true) : entK e = k := by
  obtain ⟨i, v⟩ := e
  rcases keyIs_shape (show keyIs k v = true from h) with ⟨i, t, rfl, rfl⟩ | ⟨x, t, rfl, rfl⟩ <;> rfl
theorem ent_is {e : Int × Value} (g : EntOk P w e) (k : Key) : (mixKind P w).is k e.2 = true ↔ entK e = k := by
  obtain ⟨k0, h1, _⟩ := g
  refine ⟨entK_of, fun q => ?_⟩
  rw [entK_of h1] at q
  rw [← q]
  exact h1
theorem ent_scan {e : Int × Value} (g : EntOk P w e) : e.2.scannable = true := by
  obtain ⟨k, h1, _⟩ := g
  exact key_scan (relV_key (show keyIs k e.2 = true from h1))
theorem ents_of {l : List (Int × Value)} (g : ∀ e ∈ l, EntOk P w e) : ElemsOf (mixKind P w) l := fun e he => ⟨g e he, ent_scan (g e he)⟩
theorem ents_mem {l : List (Int × Value)} (g : ∀ e ∈ l, EntOk P w e) (k : Key) : k ∈ l.map entK ↔ ∃ e ∈ l, (mixKind P w).is k e.2 = true := by
  rw [List.mem_map]
  exact ⟨fun ⟨e, he, q⟩ => ⟨e, he, (ent_is (g e he) k).2 q⟩, fun ⟨e, he, q⟩ => ⟨e, he, (ent_is (g e he) k).1 q⟩⟩
end
/-- the keys, one more at the end if it is new -/
def addK (ks : List Key) (k : Key) : List Key := if ks.any (fun j => decide (j = k)) = true then ks else ks ++ [k]
theorem any_mem {ks : List Key} {k : Key} : ks.any (fun j => decide (j = k)) = true ↔ k ∈ ks := by
  rw [List.any_eq_true]
  exact ⟨fun ⟨j, h, e⟩ => of_decide_eq_true e ▸ h, fun h => ⟨k, h, decide_eq_true rfl⟩⟩
theorem addK_nd {ks : List Key} (n : ks.Nodup) (k : Key) : (addK ks k).Nodup := by
  unfold addK
  split
  · exact n
  · rename_i h
    rw [List.nodup_append]
    exact ⟨n, List.nodup_cons.mpr ⟨by simp, List.nodup_nil⟩, fun a ha b hb e => by rw [List.mem_singleton] at hb; exact h (any_mem.mpr (by rw [← hb, ← e]; exact ha))⟩
theorem addK_len (ks : List Key) (k : Key) : (addK ks k).length ≤ ks.length + 1 := by
  unfold addK
  split
  · omega
  · rw [List.length_append]; exact Nat.le_refl _
section
variable {P : Program} {w : World} {A : Around} {E : Value → Shared → Prop} {s : Shared} {a : Addr} {ks : List Key}
theorem setM_tail {g : Bool → Sem Unit} (hg : ∀ (b : Bool) (s1 : Shared) (Q' : Unit → Shared → Prop), Q' () s1 → wpAny (model P w) A (g b) Q' E s1)
    {o : Obj} {es : Array (Int × Value)} {ep : Nat} {t : SetTable} (z : s.heap.get? a = some o) (xx : o.ExactSet) (zd : o.data = .set es ep t)
    {fs : Array (Int × Value)} {u : SetTable} {ls : List Key} (g1 : ∀ e ∈ fs.toList, EntOk P w e) (m1 : (fs.toList.map entK).Perm ls) (nd1 : ls.Nodup)
    (b1 : fs.size < scanBound) (f2 : u.fits fs.size = true) (r2 : Ris u.place.toList) (l2 : w.params.followText "set-order" = true ∨ u.led = true) {wasDummy : Bool} {R : Option Bool → Shared → Prop}
    (hR : ∀ h', Heap.SameBut a s.heap h' → SetM P w h' a ls → R (some true) { s with heap := h' }) :
    wpAny (model P w) A (do
        storeSet a fs u
        if (!wasDummy && u.tooFull) = true then do
            g (relayAll u fs (SetTable.grown fs.size)).2.2
            storeSet a (relayAll u fs (SetTable.grown fs.size)).1 (relayAll u fs (SetTable.grown fs.size)).2.1
            pure (some true)
          else pure (some true)) R E s := by
  refine wpAny_bind (wpAny_storeSet_of z zd ?_ (fits_of_scanBound b1))
  have z1 := store_at (es' := fs) (t' := u) z zd
  have sb1 := Heap.SameBut.update s.heap a (Obj.putSet fs u)
  split
  · have pm := relayAll_perm u fs (SetTable.grown fs.size)
    have f3 := relayAll_fits u fs (SetTable.grown fs.size)
    have r3 := relayAll_ris u fs (SetTable.grown fs.size)
    have l3 := relayAll_led u fs (SetTable.grown fs.size)
    generalize relayAll u fs (SetTable.grown fs.size) = Z at pm f3 r3 l3 ⊢
    obtain ⟨gs, v, gave⟩ := Z
    dsimp only at pm f3 r3 l3 ⊢
    have sz : gs.size = fs.size := by rw [← Array.length_toList, pm.length_eq, Array.length_toList]
    have b2 : gs.size < scanBound := sz ▸ b1
    refine wpAny_bind (hg _ _ _ (wpAny_bind (wpAny_storeSet_of z1 rfl (wpAny_pure (hR _ (sb1.trans (Heap.SameBut.update _ a _)) ?_)) (fits_of_scanBound b2))))
    have z2 := store_at (es' := gs) (t' := v) z1 rfl
    exact ⟨_, gs, _, v, z2, xx, rfl, fun e he => g1 e (pm.mem_iff.mp he), (pm.map entK).trans m1, nd1, b2, f3, r3, l2.imp id fun y => l3.trans y⟩
  · exact wpAny_pure (hR _ sb1 ⟨_, fs, _, u, z1, xx, rfl, g1, m1, nd1, b1, f2, r2, l2⟩)
theorem setM_add {k : Key} {x : Value} {Q : Bool → Shared → Prop} (hkey : (mixKind P w).is k x = true) (R : SetM P w s.heap a ks) (room : ks.length + 1 < scanBound)
    (hQ : ∀ h' b, Heap.SameBut a s.heap h' → SetM P w h' a (addK ks k) → Q b { s with heap := h' }) :
    wpAny (model P w) A (setAddHashed a x ((mixKind P w).hash k)) Q E s := by
  obtain ⟨o, es, ep, t, z, xx, zd, g, pk0, nd, hb, ff, hr, hl⟩ := R
  have hsc : x.scannable = true := key_scan (relV_key (show keyIs k x = true from hkey))
  have hel : ElemsOf (mixKind P w) es.toList := ents_of g
  unfold setAddHashed setAddHashedIn
  refine wpAny_holding (wpAny_bind (wpAny_setState_of z zd ff ?_))
  dsimp only
  rw [byScan_of hsc hb hel]
  simp only [↓reduceIte]
  unfold setAddByScan
  refine wpAny_bind (wpAny_bind (wpAny_rule (wpAny_bind (wpAny_setScan_of hkey z zd ff hel ?_))))
  cases hfi : List.findIdx? (fun e => (mixKind P w).is k e.2) es.toList with
  | some j =>
    dsimp only
    obtain ⟨hj, pj, _⟩ := List.findIdx?_eq_some_iff_getElem.mp hfi
    have hm : k ∈ ks := pk0.mem_iff.mp ((ents_mem g k).2 ⟨es.toList[j], List.getElem_mem hj, pj⟩)
    refine wpAny_pure (wpAny_pure (hQ s.heap _ (Heap.SameBut.refl a s.heap) ?_))
    unfold addK
    rw [if_pos (any_mem.mpr hm)]
    exact ⟨o, es, ep, t, z, xx, zd, g, pk0, nd, hb, ff, hr, hl⟩
  | none =>
    dsimp only
    have hnk : k ∉ ks := fun y => by
      obtain ⟨e, he, q⟩ := (ents_mem g k).1 (pk0.mem_iff.mpr y)
      have c := List.findIdx?_eq_none_iff.mp hfi e he
      rw [q] at c
      cases c
    have gw : ∀ (b : Bool) {s1 : Shared} {Q' : Unit → Shared → Prop}, Q' () s1 → wpAny (model P w) A (match b with | true => rule "set.scan.the-table-gave-way" | false => pure ()) Q' E s1 := fun b s1 Q' q => by
      cases b <;> first | exact wpAny_pure q | exact wpAny_rule q
    have pm := layNew_perm t es ((mixKind P w).hash k) x
    have f1 := layNew_fits t es ((mixKind P w).hash k) x
    have r1 := layNew_ris t es ((mixKind P w).hash k) x hr
    have l1 := layNew_led t es ((mixKind P w).hash k) x
    generalize layNew t es ((mixKind P w).hash k) x = Z at pm f1 r1 l1 ⊢
    obtain ⟨fs, u, wasDummy, gave⟩ := Z
    dsimp only at pm f1 r1 l1 ⊢
    rw [Array.toList_push] at pm
    have pc : fs.toList.Perm (((mixKind P w).hash k, x) :: es.toList) := pm.trans (List.perm_append_singleton _ _)
    have g1 : ∀ e ∈ fs.toList, EntOk P w e := fun e he => by
      rcases List.mem_cons.mp (pc.mem_iff.mp he) with y | y
      · rw [y]; exact ⟨k, hkey, rfl⟩
      · exact g e y
    have ek : entK ((mixKind P w).hash k, x) = k := entK_of (P := P) (w := w) hkey
    have m1 : (fs.toList.map entK).Perm (addK ks k) := by
      unfold addK
      rw [if_neg (fun y => hnk (any_mem.mp y))]
      have q := pm.map entK
      rw [List.map_append, List.map_cons, List.map_nil, ek] at q
      exact q.trans (List.Perm.append_right _ pk0)
    have nd1 : (addK ks k).Nodup := addK_nd nd k
    have sz : fs.size = es.size + 1 := by rw [← Array.length_toList, pc.length_eq, List.length_cons, Array.length_toList]
    have sn : es.size = ks.length := by rw [← pk0.length_eq, List.length_map, Array.length_toList]
    have b1 : fs.size < scanBound := by omega
    have hled : w.params.followText "set-order" = true ∨ u.led = true := hl.imp id fun y => l1.trans y
    refine wpAny_bind (gw _ ?_)
    split
    · refine wpAny_bind ?_
      rw [hashByValue_scannable 8 hsc]
      refine wpAny_pure ?_
      refine setM_tail ?_ z xx zd g1 m1 nd1 b1 ?_ ?_ ?_ ?_
      · intro b s1 Q' q; cases b <;> first | exact wpAny_pure q | exact wpAny_rule q
      · first | (split <;> first | exact f1 | exact SetTable.fits_plain_off f1) | exact f1
      · first | (split <;> exact r1) | exact r1
      · first | (split <;> exact hled) | exact hled
      · intro h' sb r; dsimp only; exact wpAny_pure (hQ h' _ sb r)
    · refine wpAny_bind (wpAny_pure ?_)
      simp only [↓reduceIte]
      refine setM_tail ?_ z xx zd g1 m1 nd1 b1 f1 r1 hled ?_
      · intro b s1 Q' q; cases b <;> first | exact wpAny_pure q | exact wpAny_rule q
      · intro h' sb r; dsimp only; exact wpAny_pure (hQ h' _ sb r)
end
def addsK : List Key → List Key → List Key
  | ks, [] => ks
  | ks, k :: r => addsK (addK ks k) r
theorem addsK_nd : ∀ (xs ks : List Key), ks.Nodup → (addsK ks xs).Nodup
  | [], _, n => n
  | k :: r, ks, n => addsK_nd r _ (addK_nd n k)
theorem addsK_len : ∀ (xs ks : List Key), (addsK ks xs).length ≤ ks.length + xs.length
  | [], ks => Nat.le_refl _
  | k :: r, ks => by
    have a := addsK_len r (addK ks k)
    have b := addK_len ks k
    rw [addsK, List.length_cons]
    omega
theorem addsK_snoc : ∀ (xs ks : List Key) (k : Key), addsK ks (xs ++ [k]) = addK (addsK ks xs) k
  | [], ks, k => rfl
  | x :: r, ks, k => addsK_snoc r (addK ks x) k
section
variable {prog : Program} {w : World} {A : Around} {R : Result → Shared → Prop} {I : Addr} {fp wr : List Addr} {G : Array GenState → Array GenState → Prop} {n : Nat} {Pv : Nat → Value → Prop} {St : Nat → Shared → Prop}
theorem loopM (W : WalksS prog w A.in1 I fp wr G n Pv St) (S : Addr) (hSf : S ∉ fp) (xs : List Key) (hsz : xs.length = n) (hn1 : n + 1 < scanBound)
    (hval : ∀ i v, Pv i v → ∃ k, xs[i]? = some k ∧ (mixKind prog w).is k v = true) :
    ∀ (c i : Nat) (s : Shared), n - i = c → i ≤ n → St i s → SetM prog w s.heap S (addsK [] (xs.take i)) →
      (∀ s', Moved (S :: wr) G s s' → SetM prog w s'.heap S (addsK [] xs) → R (.ok (.ret .none)) s') →
      codeAny (model prog w) A (.builtin "set.update.loop" ⟨[.ref S, .ref I], []⟩) R s := by
  have hSw : S ∉ wr := fun h => hSf (W.sub _ h)
  have up : ∀ b ∈ wr, b ∈ S :: wr := fun b hb => List.mem_cons_of_mem _ hb
  intro c
  induction c with
  | zero =>
    intro i s hk hi hst hS hR
    have hin : i = xs.length := by omega
    refine codeAny_builtin PyProof.Rows.F.entry_set_update_loop ?_
    rw [Around.under_plainId PyProof.Rows.F.plain_set_update_loop _]
    show wpAny _ A.in1 (pyNext (.ref I) >>= _) _ _ s
    refine wpAny_bind (W.done s _ _ (by rw [← hsz, ← hin]; exact hst) fun s' hm => ?_)
    show wpAny _ A.in1 (ret Value.none) _ _ s'
    refine wpAny_pure (hR s' (hm.mono up) (SetM.keep ?_ fun o z => hm.heap S _ hSw z))
    rw [hin, List.take_length] at hS
    exact hS
  | succ c ih =>
    intro i s hk hi hst hS hR
    have hlt : i < n := by omega
    refine codeAny_builtin PyProof.Rows.F.entry_set_update_loop ?_
    rw [Around.under_plainId PyProof.Rows.F.plain_set_update_loop _]
    show wpAny _ A.in1 (pyNext (.ref I) >>= _) _ _ s
    refine wpAny_bind (W.item i s _ _ hlt hst fun v s' hP hst' hm => ?_)
    obtain ⟨k, hk1, hk2⟩ := hval i v hP
    have hS' : SetM prog w s'.heap S (addsK [] (xs.take i)) := hS.keep fun o z => hm.heap S _ hSw z
    show wpAny _ A.in1 (holding [v] (setAdd S v) >>= _) _ _ s'
    refine wpAny_bind (wpAny_holding ?_)
    unfold setAdd
    have l1 := addsK_len (xs.take i) []
    have l2 : (xs.take i).length ≤ n := by rw [List.length_take]; omega
    refine wpAny_holding (wpAny_bind ((mixKind prog w).pyHash (k := k) hk2 (setM_add (s := { s' with toks := s'.toks + 1 }) hk2 hS' (by rw [List.length_nil] at l1; omega) fun h' b hsb hS2 => ?_)))
    have hSi : SetM prog w h' S (addsK [] (xs.take (i + 1))) := by
      rw [List.take_add_one, hk1]
      show SetM prog w h' S (addsK [] (xs.take i ++ [k]))
      rw [addsK_snoc]
      exact hS2
    refine wpAny_pure ⟨plainId_quiet PyProof.Rows.F.plain_set_update_loop _, ih (i + 1) _ (by omega) hlt (W.frame _ s' _ _ hst' (Nat.le_succ _) fun b hb o e => ?_) hSi fun s'' hm'' hS'' => ?_⟩
    · rw [hsb.2 b (fun y : b = S => hSf (y ▸ hb))]; exact e
    · refine hR s'' (Moved.trans W.gtrans ((hm.mono up).then_heap (Nat.le_succ _) fun b o hb e => ?_) hm'') hS''
      rw [hsb.2 b (fun y : b = S => hb (by rw [y]; exact List.mem_cons_self))]; exact e
end
end Rx
end
section
set_option Elab.async false
set_option linter.all false
set_option maxRecDepth 100000
set_option maxHeartbeats 3200000
/-! Rx setU: set(list of keys), sorted of it. -/
namespace Rx
open PySem PySem.Spec PyProof.Rows L2
/-- a set as it is made -/
abbrev obS (w : World) : Obj := { cls := .type "set", dict := none, data := .set #[] 0 (.fresh 0 0 (!w.params.followText "set-order")) }
section
variable {prog : Program} {w : World} {A : Around} {E : Value → Shared → Prop} {s : Shared}
theorem setM_fresh {P : Program} {h : Heap} {b : Addr} (e : h.get? b = some (obS w)) : SetM P w h b [] :=
  ⟨_, #[], 0, _, e, ⟨rfl, rfl, rfl⟩, rfl, (fun e he => by simp at he), (by simp), List.nodup_nil, (by decide), (by rfl), List.Pairwise.nil, by
    show _ ∨ (!w.params.followText "set-order") = true
    cases w.params.followText "set-order" <;> first | exact .inl rfl | exact .inr rfl⟩
theorem code_setM (x : Value) {Q1 : Value → Shared → Prop} (h : Q1 (.ref s.heap.objs.size) { s with heap := s.heap.push (obS w) }) :
    codeAny (model prog w) A (.call (.builtin "set.__new__") ⟨[.type "set", x], []⟩) (wants Q1 E) s := by
  refine codeAny_of_tree ?_
  show wpAny _ A.in1 (do checkBuiltinCall "set.__new__" ⟨[.type "set", x], []⟩; again (.builtin "set.__new__" ⟨[.type "set", x], []⟩)) _ _ s
  refine wpAny_bind (wpAny_of_eq (F.newCall_set_1 x) (wpAny_pure ⟨plainId_quiet F.plain_set_new _, codeAny_builtin F.entry_set_new ?_⟩))
  rw [Around.under_plainId F.plain_set_new _]; unfold Builtin.«set.__new__» Builtin.Frozenset.newClass
  have hsub := sub_set_self
  obtain ⟨hp, g, d, tk, os⟩ := s
  dsimp only
  wp_walk
  refine wpAny_askSetting (wpAny_pure ?_)
  dsimp only
  simp only [newObj]
  exact wpAny_bind (wpAny_alloc (wpAny_pure (wpAny_pure h)))
/-- set(list): a new set -/
theorem setM_call {l : Addr} {items : Array Value} {xs : List Key} {Q : Value → Shared → Prop} (hh : A.handled = none) (hl : s.heap.IsList l items) (hx : xs.length = items.size)
    (hi : ∀ (i : Nat) (v : Value), items[i]? = some v → ∃ k : Key, xs[i]? = some k ∧ (mixKind prog w).is k v = true) (hn : xs.length + 1 < scanBound)
    (h : ∀ (h' : Heap) (tk : Nat), SetM prog w h' s.heap.objs.size (addsK [] xs) → (∀ b o, b < s.heap.objs.size → s.heap.get? b = some o → h'.get? b = some o) → Q (.ref s.heap.objs.size) { s with heap := h', toks := tk }) :
    wpAny (model prog w) A (call (.type "set") [.ref l]) Q E s := by
  obtain ⟨cc, tl, hmro⟩ := PySem.F.called_set.mro
  have hmade := PySem.F.called_set.made; have hsub := PySem.F.called_set.sub
  refine wpAny_call (codeAny_of_tree ?_)
  show wpAny _ _ (callAny (.type "set") _) _ _ _
  refine wpAny_pure ⟨Code.quiet_builtin _ (by decide +kernel), codeAny_builtin PySem.F.entry_type_call ?_⟩
  rw [Around.under_plain (weight_type_call_type "set" [.ref l] []) rfl]
  have h1 := PySem.F.called_set.notType
  have h2 := PySem.F.called_set.canCreate
  have hct := PySem.F.typeCall_set_1 (.ref l)
  repeat (any_goals (first | assumption | wp_step))
  refine codeAny_mono (code_setM (.ref l) (E := E) (Q1 := fun obj s1 => obj = .ref s.heap.objs.size ∧ s1 = { s with heap := s.heap.push (obS w) }) ⟨rfl, rfl⟩) fun r s1 hr => ?_
  cases r with
  | error e => exact hr
  | ok fl =>
    cases fl with
    | ret obj =>
      obtain ⟨rfl, rfl⟩ := hr
      have hS : (s.heap.push (obS w)).get? s.heap.objs.size = some (obS w) := Heap.get?_push_size _ rfl
      have hT : Shared.TypeIs { s with heap := s.heap.push (obS w) } (.ref s.heap.objs.size) "set" := ⟨_, hS, rfl⟩
      have hli := PySem.F.called_set.init.lookup
      have hbi := PySem.F.called_set.init.bind (.ref s.heap.objs.size)
      repeat (any_goals (first | assumption | wp_step))
      refine codeAny_mono (codeAny_call_builtin (R := wants (fun r s2 => r = .none ∧ ∃ h' tk, s2 = { s with heap := h', toks := tk } ∧ SetM prog w h' s.heap.objs.size (addsK [] xs) ∧
          (∀ b o, b < s.heap.objs.size → s.heap.get? b = some o → h'.get? b = some o)) E) PySem.F.called_set.init.plain PySem.F.entry_set_init (check_set_init_1 hT ?_)) fun r2 s2 hr2 => ?_
      · obtain ⟨ol, hol, hcl, nl, hdl⟩ := hl
        obtain ⟨ocls, odict, odata, oslots⟩ := ol
        simp only at hcl hdl
        subst hcl; subst hdl
        have hol' : (s.heap.push (obS w)).get? l = some { cls := .type "list", dict := odict, data := .seq items nl, slots := oslots } := Heap.get?_push_of_some _ hol
        have hsls := PySem.F.sub_list_set; have hslf := PySem.F.sub_list_frozenset
        have hne : (Value.type "list" == Value.type "dict") = false := by decide
        have hl1 : (s.heap.push (obS w)).IsList l items := ⟨_, hol', rfl, nl, rfl⟩
        unfold Builtin.«set.__init__» noKeywords Builtin.Frozenset.updateFrom
        generalize hPI : pyIter = PI
        wp_walk
        subst hPI
        refine wpAny_pyIter_list hl1 (wpAny_bind (wpAny_runValue ?_))
        have hlS : l < s.heap.objs.size := Heap.lt_size hol
        have hh3 : A.in1.in1.in1.handled = none := by simp [hh]
        have hneI : l ≠ (s.heap.push (obS w)).objs.size := by rw [Heap.size_push]; exact Nat.ne_of_lt (Nat.lt_succ_of_lt hlS)
        have hSf : s.heap.objs.size ∉ [(s.heap.push (obS w)).objs.size, l] := by
          rw [Heap.size_push]
          simp only [List.mem_cons, List.mem_singleton, List.not_mem_nil, or_false, not_or]
          exact ⟨Nat.ne_of_lt (Nat.lt_succ_self _), Nat.ne_of_gt hlS⟩
        have hget : ((s.heap.push (obS w)).push { cls := .type "list_iterator", data := .fields #[.ref l, .int 0 0] }).get? s.heap.objs.size = some (obS w) := Heap.get?_push_of_some _ hS
        refine loopM ((Walks.list hh3 _ l hneI items).toS) s.heap.objs.size hSf xs hx (by rw [← hx]; exact hn) hi (items.size - 0) 0 _ rfl (Nat.zero_le _) ⟨⟨_, Heap.get?_push_size _ rfl, rfl, rfl⟩, (hl1.push _)⟩ (setM_fresh hget) fun s' hm hS' => ?_
        obtain ⟨h', g', d', tk', os'⟩ := s'
        have eg : g' = s.gens := hm.gens
        have ed : d' = s.drawn := hm.drawn
        have eo : os' = s.os := hm.os
        subst eg; subst ed; subst eo
        show wpAny _ _ _ _ _ _
        refine wpAny_pure ?_
        show wpAny _ _ (ret Value.none) _ _ _
        refine wpAny_pure ⟨rfl, h', tk', rfl, hS', fun b o hb e => ?_⟩
        refine hm.heap b o ?_ (Heap.get?_push_of_some _ (Heap.get?_push_of_some _ e))
        rw [Heap.size_push]
        simp only [List.mem_cons, List.mem_singleton, List.not_mem_nil, or_false, not_or]
        exact ⟨Nat.ne_of_lt hb, Nat.ne_of_lt (Nat.lt_succ_of_lt hb)⟩
      · cases r2 with
        | error e => exact hr2
        | ok fl2 =>
          cases fl2 with
          | ret r =>
            obtain ⟨rfl, h', tk, rfl, hS', hk'⟩ := hr2
            repeat (any_goals (first | assumption | wp_step))
            exact h _ _ hS' hk'
          | _ => exact hr2.elim
    | _ => exact hr.elim
/-- sorted(set of texts) -/
theorem setM_sorted {a : Addr} {ks : List Str} {Q : Value → Shared → Prop} (R : SetM prog w s.heap a (ks.map Sum.inr)) (hh : A.handled = none) (h64 : ks.length < 64)
    (hQ : ∀ s' p (out : Array Value) (c : Nat) (ys : List Str), (∀ b o, s.heap.get? b = some o → s'.heap.get? b = some o) → s'.gens = s.gens → s'.os = s.os → s.heap.objs.size ≤ p →
      s'.heap.get? p = some (seqObj "list" out c) → StrsAre out.toList ys → ys.Perm ks → sortedS ys = true → Q (.ref p) s') :
    wpAny (model prog w) A (call (.builtin "sorted") [.ref a]) Q E s := by
  obtain ⟨o, es, ep, t, z, xx, zd, g, pk, nd, hb, ff, hr, hl⟩ := R
  refine Calls.call_function_entry kind_sorted plain_sorted entry_sorted (args_sorted1 _) ?_
  unfold Builtin.«sorted»; refine wpAny_bind (m := checkCount "sorted" 1 1 _) (wpAny_pure ?_)
  refine wpAny_bind (collect_set (A := A.in1) hh ⟨o, z, xx.1, zd⟩ ff hb hr hl fun s1 vs k1 hz g1 o1 pm => ?_)
  have hvl : vs.length = ks.length := by
    rw [pm.length_eq, List.length_map, ← List.length_map (f := entK), pk.length_eq, List.length_map]
  obtain ⟨zs, hZ, pz⟩ : ∃ zs, StrsAre vs zs ∧ zs.Perm ks := by
    have q1 : ∀ v ∈ vs, ∃ x t, v = Value.str x t := fun v hv => by
      obtain ⟨e, he, q⟩ := List.mem_map.mp (pm.mem_iff.mp hv)
      obtain ⟨k, h1, _⟩ := g e he
      have hk : k ∈ ks.map Sum.inr := pk.mem_iff.mp (List.mem_map.mpr ⟨e, he, entK_of h1⟩)
      obtain ⟨y, _, ey⟩ := List.mem_map.mp hk
      subst ey
      obtain ⟨t, et⟩ := Value.isStrOf_shape (x := y) (v := e.2) h1
      exact ⟨y, t, by rw [← q]; exact et⟩
    have q2 : ∀ l : List Value, (∀ v ∈ l, ∃ x t, v = Value.str x t) → ∃ zs, StrsAre l zs ∧ zs.map Sum.inr = l.map fun v => entK (0, v) := fun l => by
      induction l with
      | nil => exact fun _ => ⟨[], .nil, rfl⟩
      | cons v l ih =>
        intro hv
        obtain ⟨zs, a1, a2⟩ := ih fun u hu => hv u (List.mem_cons_of_mem _ hu)
        obtain ⟨x, t, rfl⟩ := hv v List.mem_cons_self
        exact ⟨x :: zs, .cons x t a1, by rw [List.map_cons, List.map_cons, a2]; rfl⟩
    obtain ⟨zs, a1, a2⟩ := q2 vs q1
    refine ⟨zs, a1, ?_⟩
    have q3 := pm.map fun v => entK (0, v)
    rw [List.map_map] at q3
    have q4 : (zs.map (Sum.inr : Str → Key)).Perm (ks.map Sum.inr) := by
      rw [a2]
      exact q3.trans pk
    have q5 := q4.filterMap fun k : Key => match k with | .inr x => some x | .inl _ => none
    have q6 : ∀ l : List Str, (l.map (Sum.inr : Str → Key)).filterMap (fun k : Key => match k with | .inr x => some x | .inl _ => none) = l := fun l => by
      rw [List.filterMap_map]
      exact List.filterMap_some
    rw [q6, q6] at q5
    exact q5
  refine wpAny_bind (wpAny_newList ?_ (by rw [hvl, sizeLine_eq]; omega))
  have hoL : (s1.heap.push (seqObj "list" vs.toArray 0)).get? s1.heap.objs.size = some (seqObj "list" vs.toArray 0) := Heap.get?_push_size _ rfl
  refine wpAny_bind (wpAny_holding (wpAny_call_entry slot_list_sort ⟨_, hoL, rfl⟩ entry_list_sort
    (list_sort_treeK strKind_oneLt hoL hZ.keysOf (fun v1 v2 rest e => keyKind_strs (by rw [← e]; exact hZ)) (by rw [hvl]; exact h64) fun st' hp hs => ⟨_, rfl, ?_⟩) (args_list_sort _)))
  obtain ⟨ys, b1, b2, b3⟩ := sorted_out_str hZ hp hs
  obtain ⟨c, hc⟩ := sortedHeap_at (vs := vs) (out := (arrOf st').map (·.2)) hoL
  refine wpAny_pure ⟨_, rfl, hQ _ s1.heap.objs.size _ c ys (fun b u e => ?_) g1 o1 hz hc b1 (b2.trans pz) b3⟩
  have q := k1 b u e
  have hlt := Heap.lt_size q
  show (sortedHeap (s1.heap.push (seqObj "list" vs.toArray 0)) s1.heap.objs.size vs _).get? b = some u
  exact (sortedHeap_old (Nat.ne_of_lt hlt) (by rw [size_push']; exact Nat.lt_succ_of_lt hlt)).trans (Heap.get?_push_of_some _ q)
end
end Rx
end
section
set_option Elab.async false
set_option linter.all false
set_option maxRecDepth 100000
set_option maxHeartbeats 1000000
/-! Rx setV: sorted(set(list of texts)) as a rule. -/
namespace Rx
open PySem PySem.Spec PyProof.Rows L2
section
variable {X : L2.Cx} {c : Ec} {a : Expr} {ra : Env → Wd → R Val} {pos : Pos}
def SetMO (P : Program) (w : World) (a : Addr) (ks : List Key) : HO := .ext fun h => SetM P w h a ks
theorem setM_new {w : World} {P : Program} {H : Hp} {h : Heap} {a : Addr} {ks : List Key} (R : SetM P w h a ks) : ObjOk P w H h a (SetMO P w a ks) := by
  have ⟨o, _, _, _, ho, _⟩ := R
  exact ⟨R, ⟨o, ho⟩, fun h1 h2 p k => SetM.keep p k⟩
theorem setM_get {pins : List (Addr × Obj)} {σ : L2.St} {H : Hp} {s : Shared} {a : Addr} {ks : List Key} (I : Inv X pins σ H s) (ha : H a = some (SetMO X.prog X.w a ks)) : SetM X.prog X.w s.heap a ks := (I.hok a _ ha).1
theorem vals_ix : ∀ {xs : List V} {us : List Value}, Vals xs us → ∀ {i : Nat} {v : Value}, us[i]? = some v → ∃ x, xs[i]? = some x ∧ RelV x v
  | _, _, .nil, i, v, h => by cases h
  | _, _, .cons r t, 0, v, h => by
    rw [List.getElem?_cons_zero] at h
    cases h
    exact ⟨_, rfl, r⟩
  | _, _, .cons r t, i + 1, v, h => by
    rw [List.getElem?_cons_succ] at h
    exact vals_ix t h
def rSetM (P : Program) (w : World) (K : PySem.W.Frag) : List V → Hp → VK → Prop := fun xs H Q => ∃ (l : Addr) (ks : List Key), xs = [.ref l] ∧ SqL K H l (ks.map kV) ∧ ks.length + 1 < scanBound ∧ ∀ p, H p = none → Q (.ref p) (upd H p (SetMO P w p (addsK [] ks)))
theorem cr_setM (hc : X.calm = true) : CallR X (.type "set") (rSetM X.prog X.w X.K) := by
  intro pins s σ H vs us Q I r h
  obtain ⟨l, ks, rfl, hs, hn, q⟩ := h
  obtain ⟨its, rv, hl, _⟩ := I.list hs
  rw [Vals.ref1 r]
  have el := rv.length
  rw [List.length_map] at el
  refine setM_call (xs := ks) (I.ok.hd hc) hl.isList (by rw [List.size_toArray, el]) (fun i v hi => ?_) hn fun h' tk R kp => ?_
  · rw [List.getElem?_toArray] at hi
    obtain ⟨x, e1, e2⟩ := vals_ix rv hi
    rw [List.getElem?_map] at e1
    obtain ⟨k, e3, rfl⟩ := Option.map_eq_some_iff.mp e1
    exact ⟨k, e3, kV_is e2⟩
  · exact ⟨.ref s.heap.objs.size, _, I.laid (t' := tk) (fun b u e => kp b u (Heap.lt_size e) e) (Nat.le_refl _) (setM_new R), rfl, q _ (I.hok.fresh (Nat.le_refl _))⟩
def rSrtM (P : Program) (w : World) : List V → Hp → VK → Prop := fun vs H Q => ∃ (a : Addr) (ks : List Str), vs = [.ref a] ∧ H a = some (SetMO P w a (ks.map Sum.inr)) ∧ ks.length < 64 ∧
  ∀ (ys : List Str) (p : Addr), ys.Perm ks → sortedS ys = true → H p = none → Q (.ref p) (upd H p (.lst (ys.map V.str)))
theorem cr_srtM (hc : X.calm = true) : CallR X (.builtin "sorted") (rSrtM X.prog X.w) := by
  intro pins s σ H vs us Q I r h
  obtain ⟨a, ks, rfl, ha, h64, q⟩ := h
  rw [Vals.ref1 r]
  refine setM_sorted (setM_get I ha) (I.ok.hd hc) h64 fun s' p out cc ys kp g o hp hg hS pm hs => ?_
  have hlen : (ys.map V.str).length ≤ sizeLine := by rw [List.length_map, pm.length_eq, sizeLine_eq]; omega
  have hn : H p = none := I.hok.fresh hp
  have J : Inv X pins σ (upd H p (.lst (ys.map V.str))) { s with heap := s'.heap, gens := s'.gens, drawn := s'.drawn, toks := s'.toks } :=
    I.call (ch := []) (Un.laid kp hp hn) (I.hok.laid kp hp ⟨hlen, out.toList, cc, vals_of_strs hS, hg⟩) (by rw [g]; exact I.bare) (fun _ z => nomatch z)
  have e : s' = { s with heap := s'.heap, gens := s'.gens, drawn := s'.drawn, toks := s'.toks } := by
    cases s'; cases s; cases o; rfl
  rw [e]
  exact ⟨.ref p, _, J, rfl, q ys p pm hs hn⟩
/-! ### each once -/
def memS (x : List Nat) : List (List Nat) → Bool
  | [] => false
  | y :: r => eqN y x || memS x r
def dedS : List (List Nat) → List (List Nat)
  | [] => []
  | x :: r => if memS x r then dedS r else x :: dedS r
theorem memS_iff {x : List Nat} : ∀ {l : List (List Nat)}, memS x l = true ↔ x ∈ l
  | [] => by simp [memS]
  | y :: r => by
    rw [memS, Bool.or_eq_true, memS_iff, List.mem_cons, eqN_iff, decide_eq_true_eq]
    exact ⟨fun h => h.imp Eq.symm id, fun h => h.imp Eq.symm id⟩
theorem dedS_mem {x : List Nat} : ∀ {l : List (List Nat)}, x ∈ dedS l ↔ x ∈ l
  | [] => Iff.rfl
  | y :: r => by
    unfold dedS
    split
    · rename_i h
      rw [dedS_mem, List.mem_cons]
      refine ⟨.inr, fun q => q.elim (fun e => by rw [e]; exact memS_iff.mp h) id⟩
    · rw [List.mem_cons, List.mem_cons, dedS_mem]
theorem dedS_nd : ∀ l : List (List Nat), (dedS l).Nodup
  | [] => List.nodup_nil
  | y :: r => by
    unfold dedS
    split
    · exact dedS_nd r
    · rename_i h
      exact List.nodup_cons.mpr ⟨fun z => h (memS_iff.mpr (dedS_mem.mp z)), dedS_nd r⟩
theorem dedS_len : ∀ l : List (List Nat), (dedS l).length ≤ l.length
  | [] => Nat.le_refl _
  | y :: r => by
    have := dedS_len r
    unfold dedS
    split
    · rw [List.length_cons]; omega
    · rw [List.length_cons, List.length_cons]; omega
theorem addK_mem {ks : List Key} {k j : Key} : j ∈ addK ks k ↔ j ∈ ks ∨ j = k := by
  unfold addK
  split
  · rename_i h
    exact ⟨.inl, fun q => q.elim id fun e => by rw [e]; exact any_mem.mp h⟩
  · rw [List.mem_append, List.mem_singleton]
theorem addsK_mem {j : Key} : ∀ {xs ks : List Key}, j ∈ addsK ks xs ↔ j ∈ ks ∨ j ∈ xs
  | [], ks => by simp [addsK]
  | k :: r, ks => by
    rw [addsK, addsK_mem, addK_mem, List.mem_cons, or_assoc]
theorem addsK_inr : ∀ (ss : List Str) (ks : List Str), ∃ zs : List Str, addsK (ks.map Sum.inr) (ss.map Sum.inr) = zs.map Sum.inr
  | [], ks => ⟨ks, rfl⟩
  | s :: ss, ks => by
    rw [List.map_cons, addsK]
    have e : ∃ zs : List Str, addK (ks.map Sum.inr) (Sum.inr s) = zs.map Sum.inr := by
      unfold addK
      split
      · exact ⟨ks, rfl⟩
      · exact ⟨ks ++ [s], by rw [List.map_append]; rfl⟩
    obtain ⟨zs, e⟩ := e
    rw [e]
    exact addsK_inr ss zs
theorem ded_perm (ss : List (List Nat)) : ∃ zs : List Str, addsK [] ((ss.map tx).map Sum.inr) = zs.map Sum.inr ∧ zs.Perm ((dedS ss).map tx) := by
  obtain ⟨zs, e⟩ := addsK_inr (ss.map tx) []
  rw [List.map_nil] at e
  refine ⟨zs, e, ?_⟩
  have n1 : zs.Nodup := by
    have := addsK_nd ((ss.map tx).map Sum.inr) [] List.nodup_nil
    rw [e] at this
    exact List.Pairwise.imp (fun h e => h (congrArg _ e)) (List.pairwise_map.mp this)
  have n2 : ((dedS ss).map tx).Nodup := by
    refine List.Pairwise.map _ ?_ (dedS_nd ss)
    intro x y h q
    exact h (tx_inj q)
  refine (List.perm_ext_iff_of_nodup n1 n2).mpr fun z => ?_
  have q := addsK_mem (j := Sum.inr z) (xs := (ss.map tx).map Sum.inr) (ks := [])
  rw [e] at q
  have q2 : z ∈ zs ↔ z ∈ ss.map tx := by
    constructor
    · intro h
      rcases q.mp (List.mem_map.mpr ⟨z, h, rfl⟩) with h | h
      · cases h
      · obtain ⟨y, hy, ey⟩ := List.mem_map.mp h
        cases ey
        exact hy
    · intro h
      obtain ⟨y, hy, ey⟩ := List.mem_map.mp (q.mpr (.inr (List.mem_map.mpr ⟨z, h, rfl⟩)))
      cases ey
      exact hy
  rw [q2, List.mem_map, List.mem_map]
  exact ⟨fun ⟨x, h, e⟩ => ⟨x, dedS_mem.mpr h, e⟩, fun ⟨x, h, e⟩ => ⟨x, dedS_mem.mp h, e⟩⟩
/-- sorted(set(x)) -/
def srtSet : PV → Option PV
  | .lst xs => (strsO xs).bind fun ss => if Nat.blt ss.length 4000 && Nat.blt (dedS ss).length 64 then some (.lst ((sortS (dedS ss)).map .str)) else none
  | _ => none
theorem je_srtset (G : Gd X c) (hh : c.hot = false) {p p2 pos2 : Pos} (hg : Gl X "sorted") (hm : X.mg "sorted" = none) (hg2 : Gl X "set") (hm2 : X.mg "set" = none) (ha : JE X c .b a ra) (hst : starEach [a] X.env = (false, eval a X.env) :: starEach [] X.env)
    (hst2 : starEach [.Call (.Name "set" p2) [a] [] pos2] X.env = (false, eval (.Call (.Name "set" p2) [a] [] pos2) X.env) :: starEach [] X.env) :
    JE X c .f (.Call (.Name "sorted" p) [.Call (.Name "set" p2) [a] [] pos2] [] pos) (ap1R srtSet ra) := by
  have h1 := pe_callTy (p := p2) (pos := pos2) (cr_setM (X := X) (G.calm hh)) hg2 hm2 (by decide +kernel) (pa_cons ha pa_nil hst) (by decide) (by decide) hst rfl
  have h2 := pe_callB (p := p) (pos := pos) (cr_srtM (X := X) (G.calm hh)) hg hm (by decide +kernel) (pa_cons h1 pa_nil hst2) (by decide) (by decide) hst2 rfl
  refine pe_mono h2 fun σ H Q ⟨ρ, μ, W, hF, hW, hA⟩ => ⟨ρ, μ, W, hF, hW, hA.bindD fun px W1 x H1 μ1 _ s1 w1 r1 hA1 => ?_⟩
  obtain ⟨v, e, hA1⟩ := hA1.ofo
  obtain ⟨pz, e1, rfl⟩ := Option.map_eq_some_iff.mp e
  cases px with
  | lst ys =>
    have hb := RepF.toB r1
    obtain ⟨l, vs, rfl, k1, k2, hz⟩ := (show ∃ a vs, x = .ref a ∧ Rd H1 a (.lst vs) ∧ RepL X.K H1 ys vs ∧ ys.length ≤ sizeLine from hb)
    obtain ⟨ss, es, e2⟩ := Option.bind_eq_some_iff.mp (show (strsO ys).bind _ = some pz from e1)
    split at e2
    · rename_i hcond
      rw [Bool.and_eq_true, Nat.blt_eq, Nat.blt_eq] at hcond
      cases e2
      obtain ⟨ev, g2, _, _⟩ := strsO_rep k2 es
      have ev : vs = ((ss.map tx).map Sum.inr).map kV := by rw [ev, List.map_map (f := Sum.inr)]; rfl
      rw [ev] at k1
      obtain ⟨zs, ez, pz⟩ := ded_perm ss
      refine ⟨l, (ss.map tx).map Sum.inr, rfl, .inl k1, by rw [List.length_map, List.length_map]; have : scanBound = 4096 := rfl; omega, fun p hp => ?_⟩
      rw [ez]
      have l1 := pz.length_eq
      rw [List.length_map] at l1
      refine ⟨p, zs, rfl, upd_same, by omega, fun ys p3 hy ho hp3 => ?_⟩
      rw [sortS_of (hy.trans pz) ho]
      obtain ⟨st1, _⟩ := Stp.new' (o := SetMO X.prog X.w p (zs.map Sum.inr)) hp w1.there
      have w2 := w1.new (o := SetMO X.prog X.w p (zs.map Sum.inr)) hp
      obtain ⟨st2, _⟩ := Stp.new' (o := .lst (((sortS (dedS ss)).map tx).map V.str)) hp3 w2.there
      have hp4 : H p3 = none := s1.fresh (st1.fresh hp3)
      refine hA1 _ _ μ1 (st1.trans st2) (w2.new hp3) (show RepF X.K H .f _ μ1 (.lst ((sortS (dedS ss)).map .str)) _ from ⟨p3, rfl, hp4, fun z => w2.there p3 z hp3, _, upd_same, rep_strs fun z hz => g2 z (dedS_mem.mp ((sortG_perm _).mem_iff.mp hz)), ?_⟩)
      rw [List.length_map, sortS_len, sizeLine_eq]
      omega
    · cases e2
  | _ => cases e1
end
end Rx
end
section
set_option Elab.async false
set_option linter.all false
set_option maxRecDepth 100000
set_option maxHeartbeats 1000000
/-! Rx itm: what is made of d.items(). -/
namespace Rx
open PySem PySem.Spec PyProof.Rows L2
abbrev PairsAt (H : Hp) (ts : List Addr) (kvs : List (Key × V)) : Prop := Paired (fun (t : Addr) (q : Key × V) => H t = some (.tup [kV q.1, q.2])) ts kvs
section
variable {X : L2.Cx} {pins : List (Addr × Obj)} {σ : L2.St} {H : Hp} {s : Shared}
/-- the pairs that were made stand in a heap -/
theorem itm_laid {h' : Heap} {tk lo : Nat} {kvs : List (Key × V)} {vs : List (Key × Value)} {ts : List Addr} (I : Inv X pins σ H s) (kv : KV kvs vs) (hlo : s.heap.objs.size ≤ lo + 1)
    (hk : ∀ b o, s.heap.get? b = some o → h'.get? b = some o) (hl : ts.length = vs.length) (hG : PySem.W.KdxG (mixKind X.prog X.w) vs lo h' ts) :
    ∃ H' : Hp, (∀ b o, H b = some o → H' b = some o) ∧ (∀ t ∈ ts, H t = none) ∧ ts.Nodup ∧ (∀ b, b ∉ ts → H' b = H b) ∧ PairsAt H' ts kvs ∧ Inv X pins σ H' { s with heap := h', toks := tk } := by
  have lk : kvs.length = vs.length := Paired.length kv
  have up : ∀ t ∈ ts, s.heap.objs.size ≤ t := fun t ht => Nat.le_trans hlo (hG.above t ht)
  have nd : ts.Nodup := hG.rise.imp fun h => Nat.ne_of_lt h
  have new : ∀ t ∈ ts, H t = none := fun t ht => I.hok.fresh (up t ht)
  have atP := LiI.putT_at ts kvs H (by omega) nd
  have off : ∀ b, b ∉ ts → LiI.putT H ts kvs b = H b := fun b h1 => LiI.putT_off ts kvs _ h1
  have kp : ∀ b u, H b = some u → LiI.putT H ts kvs b = some u := fun b u e => (off b fun y => by rw [new b y] at e; cases e).trans e
  refine ⟨LiI.putT H ts kvs, kp, new, nd, off, atP, ?_⟩
  refine I.call' (ch := []) rfl ⟨fun b o q _ _ _ => hk b o q, fun b o q _ _ _ => ⟨o.slots, hk b o q⟩, fun b o q n _ => ?_, fun b o q _ => ⟨o, hk b o q⟩, fun b xs q => kp b _ q, fun b o u q => kp b _ q, fun b ps q => ⟨#[], by rw [kp b _ q]; simp⟩⟩ (fun b u q => ?_) I.bare fun b y => by simp at y
  · rw [off b fun y => absurd (Heap.lt_size q) (Nat.not_lt.mpr (up b y))]
    exact n
  · by_cases hb : b ∈ ts
    · obtain ⟨j, pk, e1, e2, e3⟩ := LiI.paired_ix atP hb
      rw [e3] at q
      cases q
      obtain ⟨key, k, x, f1, f2, f3⟩ := hG.pairs j b e1
      obtain ⟨qv, g1, g2, g3⟩ := LiI.paired_get kv e2
      rw [f1] at g1
      cases g1
      have rk : RelV (kV pk.1) key := by rw [g2]; exact relV_key (show keyIs k key = true from f2)
      exact ⟨by show 2 ≤ sizeLine; decide, [key, x], .cons rk (.cons g3 .nil), ⟨_, f3, rfl, _, rfl⟩⟩
    · rw [off b hb] at q
      exact (I.hok b u q).stay (fun d v _ y => hk d v y) (fun d y => kp d _ y) fun d xs y => kp d _ y
variable {e : Expr} {te : TE} {p apos cpos pos : Pos}
/-- e.items(): a view -/
theorem run_items {Z : Addr → List (Key × V) → Hp → Prop} {G : Value → Shared → Prop} (he : PE X e te) (I : Inv X pins σ H s) (hq : te σ H fun x H1 => ∃ d kvs, x = .ref d ∧ Rd H1 d (.dK kvs) ∧ Z d kvs H1)
    (k : ∀ (v d : Addr) (kvs : List (Key × V)) (H1 : Hp) (s1 : Shared) (vs : List (Key × Value)) (ep : Nat), Z d kvs H1 → kvs.length ≤ sizeLine → KV kvs vs → Inv X pins σ H1 s1 → s1.heap.IsItemsView v d → s1.heap.DictAt (mixKind X.prog X.w) d vs ep → G (.ref v) s1)
    (hbase : attributeBase e "items" X.env (eval e X.env) = eval e X.env) (hline : (apos.endLine == cpos.line) = true) :
    wpAny (model X.prog X.w) X.A (eval (.Call (.Attribute e "items" apos) [] [] cpos) X.env) G X.xe s := by
  refine wpAny_Call_method (T := "dict") (id := "dict.items") hbase rfl hline F.plainAttrs_dict F.slot_dict_items F.type_dict_items (thn (he.run pins s σ H _ I hq) fun u s1 ⟨x, H1, I1, rx, d, kvs, ex, hd, q⟩ => ?_)
  subst ex
  obtain rfl : u = Value.ref d := rx
  obtain ⟨hz, hs0, vs, kv, hdo⟩ := dk_rd I1.hok hd
  obtain ⟨ep, hat⟩ := hdo.dictAt
  have I2 : Inv X pins σ H1 { s1 with heap := s1.heap.push { cls := .type "dict_items", data := .fields #[.ref d] } } := I1.kept (t' := s1.toks) fun b ob y => Heap.get?_push_of_some _ y
  refine ⟨hdo.typeIs, hdo.mapOf.noDict, ?_⟩
  show wpAny _ _ (callWith cpos (.builtin "dict.items") [.ref d] [] []) _ X.xe s1
  refine method_meetsIn F.slot_dict_items F.entry_dict_items rfl (PySem.evalArgs_none ⟨rfl, hdo.typeIs, F.args_dict_items_1 _, _, meets_dict_items (mixKind X.prog X.w) d hs0, ⟨vs, hdo⟩, ?_⟩)
  exact k _ d kvs H1 _ vs ep q hz kv I2 ⟨_, Heap.get?_push_size _ rfl, rfl, rfl⟩ (hat.push _)
def tItmL (te : TE) : TE := fun σ H Q => te σ H fun x H1 => ∃ d kvs, x = .ref d ∧ Rd H1 d (.dK kvs) ∧
  ∀ (H2 : Hp) (q : Addr) (ts : List Addr), (∀ b o, H1 b = some o → H2 b = some o) → (∀ t ∈ ts, H1 t = none) → ts.Nodup → (∀ b, b ∉ ts → H2 b = H1 b) → H2 q = none → PairsAt H2 ts kvs → Q (.ref q) (upd H2 q (.lst (ts.map V.ref)))
/-- list(e.items()) -/
theorem pe_itmL (hc : X.calm = true) (he : PE X e te) (hg : Gl X "list") (hm : X.mg "list" = none) (hbase : attributeBase e "items" X.env (eval e X.env) = eval e X.env) (hline : (apos.endLine == cpos.line) = true)
    (hs : starEach [.Call (.Attribute e "items" apos) [] [] cpos] X.env = (false, eval (.Call (.Attribute e "items" apos) [] [] cpos) X.env) :: starEach [] X.env) :
    PE X (.Call (.Name "list" p) [.Call (.Attribute e "items" apos) [] [] cpos] [] pos) (tItmL te) := by
  refine ⟨fun pins s σ H Q I hq => ?_⟩
  refine wpAny_Call_Name_kw (ld_blt I hg hm (show bootBuiltins "list" = some (.type "list") by decide +kernel) ?_)
  refine PyProof.Rows.callWith_type1 ?_ hs rfl
  rw [hs]
  show wpAny _ _ (spliced ((false, eval (.Call (.Attribute e "items" apos) [] [] cpos) X.env) :: backTo pos (starEach [] X.env))) _ _ s
  refine Calls.spliced_cons (run_items he I hq (fun v d kvs H1 s1 vs ep q hz kv I1 hv hat => ?_) hbase hline)
  refine Calls.spliced_nil ?_
  have lk : kvs.length = vs.length := Paired.length kv
  refine PySem.W.kdx_call (knd := mixKind X.prog X.w) (kvs := vs) (ep := ep) (I1.ok.hd hc) hv hat (by omega) fun h' tk acc c as hk hS hl hG hacc => ?_
  obtain ⟨H2, k1, k2, k3, k4, k5, J⟩ := itm_laid (tk := tk) I1 kv (Nat.le_succ _) hk hl hG
  have nq : s1.heap.objs.size ∉ as := fun y => Nat.lt_irrefl _ (hG.above _ y)
  have hn : H2 s1.heap.objs.size = none := by rw [k4 _ nq]; exact I1.hok.fresh (Nat.le_refl _)
  refine ⟨.ref s1.heap.objs.size, upd H2 s1.heap.objs.size (.lst (as.map V.ref)), ?_, rfl, q H2 _ as k1 k2 k3 k4 hn k5⟩
  refine J.take (h' := h') (t' := tk) (fun b ob _ e => e) (I1.fpOk (Nat.le_refl _) hn) ?_
  refine ⟨by rw [List.length_map]; omega, as.map Value.ref, c, LiI.vals_refs as, ?_⟩
  rw [← hacc, Array.toArray_toList]
  exact hS
end
end Rx
end
section
set_option Elab.async false
set_option linter.all false
set_option maxRecDepth 100000
set_option maxHeartbeats 1000000
/-! Rx itm2: list(d.items()), stars of dicts and of d.items(). -/
namespace Rx
open PySem PySem.Spec PyProof.Rows L2
theorem pairs_rep {K : PySem.W.Frag} {H : Hp} : ∀ {kvs : List (PV × PV)} {ks : List (Key × V)} {ts : List Addr}, RepK K H kvs ks → PairsAt H ts ks → RepL K H (itemsL kvs) (ts.map V.ref)
  | [], [], [], _, _ => trivial
  | (a, y) :: r, (i, u) :: t, b :: ts, h, g => by
    cases g with
    | cons g1 g2 =>
      obtain ⟨h1, h2, h3⟩ := h
      have hk : Rep K H a (kV i) := (show RepL K H [a] [kV i] from RepK.keys (kvs := [(a, y)]) (ks := [(i, u)]) ⟨h1, h2, trivial⟩).1
      exact ⟨⟨b, [kV i, u], rfl, .inl (.inl g1), ⟨hk, h2, trivial⟩, (by show 2 ≤ sizeLine; rw [sizeLine_eq]; omega)⟩, pairs_rep h3 g2⟩
/-- new things beside all that stands -/
theorem Stp.beside {μ : List Addr} {H H2 : Hp} (k : ∀ b o, H b = Option.some o → H2 b = Option.some o) : Stp μ μ H H2 :=
  ⟨fun a o h _ => k a o h, ⟨fun a xs h => k a _ h, fun a o u h => k a _ h⟩, fun a _ h => by
    cases e : H a with
    | none => exact absurd e h
    | some o => rw [k a o e]; exact nofun, [], by simp, fun _ h => by simp at h⟩
theorem WR.beside {K : PySem.W.Frag} {N : Nm} {μ : List Addr} {W : Wd} {H H2 : Hp} (w : WR K N H μ W) (k : ∀ b o, H b = Option.some o → H2 b = Option.some o) : WR K N H2 μ W :=
  w.keep (fun a ha => by obtain ⟨o, e, _⟩ := w.some ha; rw [e]; exact k a o e) (Stp.beside (μ := μ) k).ext
section
variable {X : L2.Cx} {c : Ec} {a : Expr} {es : List Expr} {ra : Env → Wd → R Val} {r : Env → Wd → R (List Val)} {p apos cpos pos : Pos}
def itmLR (ra : Env → Wd → R Val) : Env → Wd → R Val := fun ρ W => (dat (ra ρ W)).bind fun x w => match x with | .dct kvs => .ok (.d (.lst (itemsL kvs))) w | _ => .st
theorem je_itmL (G : Gd X c) (hh : c.hot = false) (hg : Gl X "list") (hm : X.mg "list" = none) (hb : notSuper a = true) (hline : (apos.endLine == cpos.line) = true)
    (hs : starEach [.Call (.Attribute a "items" apos) [] [] cpos] X.env = (false, eval (.Call (.Attribute a "items" apos) [] [] cpos) X.env) :: starEach [] X.env) (ha : JE X c .b a ra) :
    JE X c .f (.Call (.Name "list" p) [.Call (.Attribute a "items" apos) [] [] cpos] [] pos) (itmLR ra) := by
  refine pe_mono (pe_itmL (G.calm hh) ha hg hm (attrBase_of hb) hline hs) fun σ H Q ⟨ρ, μ, W, hF, hW, hA⟩ => ⟨ρ, μ, W, hF, hW, hA.bindD fun x W1 v H1 μ1 _ s1 w1 r1 hA1 => ?_⟩
  cases x with
  | dct kvs =>
    obtain ⟨d, ks, rfl, k1, k2, hz⟩ := (show ∃ a ks, v = .ref a ∧ Rd H1 a (.dK ks) ∧ RepK X.K H1 kvs ks ∧ kvs.length ≤ sizeLine from RepF.toB r1)
    refine ⟨d, ks, rfl, k1, fun H2 q ts g1 g2 g3 g4 hq g5 => ?_⟩
    have st := Stp.beside (μ := μ1) g1
    have w2 := w1.beside g1
    have st2 := Stp.new (μ := μ1) (o := .lst (ts.map V.ref)) hq
    exact hA1 _ _ μ1 (st.trans st2) (w2.new hq) (show RepF X.K H .f _ μ1 (.lst (itemsL kvs)) _ from ⟨q, rfl, s1.fresh (st.fresh hq), fun z => w2.there q z hq, _, upd_same,
      RepL.mono st2.ext _ _ (pairs_rep (RepK.mono st.ext _ _ k2) g5), by rw [itemsL_len]; exact hz⟩)
  | _ => exact (show False from hA1).elim
/-! ### stars -/
theorem vals_of_ix : ∀ {xs : List V} {us : List Value}, xs.length = us.length → (∀ (i : Nat) (v : Value), us[i]? = some v → ∃ x, xs[i]? = some x ∧ RelV x v) → Vals xs us
  | [], [], _, _ => .nil
  | x :: xs, u :: us, hl, h => by
    obtain ⟨y, e1, e2⟩ := h 0 u rfl
    cases e1
    exact .cons e2 (vals_of_ix (Nat.succ.inj hl) fun i v hv => h (i + 1) v hv)
  | [], _ :: _, hl, _ => by cases hl
  | _ :: _, [], hl, _ => by cases hl
theorem star_dct {pins : List (Addr × Obj)} {s : Shared} {σ : L2.St} {H : Hp} {d : Addr} {ks : List (Key × V)} {E : Value → Shared → Prop} {Q : List Value → Shared → Prop} (hc : X.calm = true) (I : Inv X pins σ H s) (h : Rd H d (.dK ks))
    (hQ : ∀ us s', Inv X pins σ H s' → Vals (ks.map fun q => kV q.1) us → Q us s') : PySem.W.StarOf (model X.prog X.w) X.A E (.ref d) Q s := by
  obtain ⟨hz, lo, vs, rel, dd⟩ := dk_rd I.hok h
  obtain ⟨ep, hat⟩ := dd.dictAt
  have hl : ks.length = vs.length := rel.length
  have z : wpAny (model X.prog X.w) X.A (collect (.ref d)) Q E s := by
    refine PySem.W.kdu_collect (A := X.A) (PySem.W.kdl_dict (knd := mixKind X.prog X.w) (kvs := vs) (ep := ep) lo) (I.ok.hd hc) hat (by omega) fun h' tk acc hk hacc => hQ _ _ (I.kept hk) ?_
    have e : ks.map (fun q => kV q.1) = (vs.map (·.1)).map kV := by rw [← rel.keys, List.map_map]; rfl
    rw [e]
    refine vals_of_ix (by rw [List.length_map, List.length_map]; exact hacc.1.symm.trans (by simp)) fun i v hv => ?_
    obtain ⟨k, x, e1, e2⟩ := hacc.2 i v (by rw [← Array.getElem?_toList]; exact hv)
    exact ⟨kV k, by rw [List.map_map, List.getElem?_map, e1]; rfl, relV_key (show keyIs k v = true from e2)⟩
  unfold PySem.W.StarOf notIterableAtAll
  exact wpAny_bind (wpAny_specialOf dd.typeIs PySem.F.slot_dict_iter.lookup (wpAny_pure ⟨rfl, z⟩))
def starDR (ra : Env → Wd → R Val) (r : Env → Wd → R (List Val)) : Env → Wd → R (List Val) := fun ρ W => (dat (ra ρ W)).bind fun x w => match x with
  | .dct kvs => (r ρ w).bind fun vs w => .ok ((kvs.map (·.1)).map .d ++ vs) w
  | _ => .st
theorem ja_starD (G : Gd X c) (hh : c.hot = false) (ha : JE X c .b a ra) (hr : JA X c es r) (hs : starEach (.Starred a p :: es) X.env = (true, eval a X.env) :: starEach es X.env) : JA X c (.Starred a p :: es) (starDR ra r) := by
  refine ⟨fun pos pins s σ H Q I ⟨ρ, μ, W, hF, hW, hA⟩ => ?_⟩
  refine PySem.W.items_star (thn (ha.run pins s σ H (fun v H1 => ∃ d ks, v = .ref d ∧ Rd H1 d (.dK ks) ∧ tAs X c r σ H1 fun vs H2 => Q (ks.map (fun q => kV q.1) ++ vs) H2) I ⟨ρ, μ, W, hF, hW, ?_⟩) fun v s1 ⟨y, H1, I1, ry, d, ks, ey, hx, q⟩ => ?_) hs
  · refine hA.bindD fun x W1 v H1 μ1 _ s1 w1 r1 hA1 => ?_
    cases x with
    | dct kvs =>
      obtain ⟨d, ks, rfl, k1, k2, hz⟩ := (show ∃ a ks, v = .ref a ∧ Rd H1 a (.dK ks) ∧ RepK X.K H1 kvs ks ∧ kvs.length ≤ sizeLine from RepF.toB r1)
      refine ⟨d, ks, rfl, k1, ρ, μ1, W1, hF.step s1 hW, w1, ?_⟩
      refine Ans.bind (rep1 := fun H μ vs us => RepVL X.K c.N H μ c.pn vs us) hA1 fun xs W2 _ vs H2 μ2 s2 w2 r2 hA2 => ?_
      exact hA2.here w2 (RepVL.app (RepVL.ofD (RepL.mono s2.ext _ _ k2.keys)) r2)
    | _ => exact (show False from hA1).elim
  · subst ey
    obtain rfl : v = Value.ref d := ry
    refine star_dct (G.calm hh) I1 hx fun us s2 I2 rv => ?_
    exact thn (hr.run pos pins s2 σ H1 _ I2 q) fun ws s3 ⟨vs, H3, I3, r3, q3⟩ => ⟨_, H3, I3, rv.append r3, q3⟩
def starIR (ra : Env → Wd → R Val) (r : Env → Wd → R (List Val)) : Env → Wd → R (List Val) := fun ρ W => (dat (ra ρ W)).bind fun x w => match x with
  | .dct kvs => (r ρ w).bind fun vs w => .ok ((itemsL kvs).map .d ++ vs) w
  | _ => .st
theorem ja_starI (G : Gd X c) (hh : c.hot = false) (ha : JE X c .b a ra) (hb : notSuper a = true) (hline : (apos.endLine == cpos.line) = true) (hr : JA X c es r)
    (hs : starEach (.Starred (.Call (.Attribute a "items" apos) [] [] cpos) p :: es) X.env = (true, eval (.Call (.Attribute a "items" apos) [] [] cpos) X.env) :: starEach es X.env) :
    JA X c (.Starred (.Call (.Attribute a "items" apos) [] [] cpos) p :: es) (starIR ra r) := by
  refine ⟨fun pos pins s σ H Q I ⟨ρ, μ, W, hF, hW, hA⟩ => ?_⟩
  refine PySem.W.items_star (run_items (Z := fun d ks H1 => ∀ (H2 : Hp) (ts : List Addr), (∀ b o, H1 b = some o → H2 b = some o) → PairsAt H2 ts ks → tAs X c r σ H2 fun vs H3 => Q (ts.map V.ref ++ vs) H3) ha I ⟨ρ, μ, W, hF, hW, ?_⟩ (fun v d kvs H1 s1 vs ep q hz kv I1 hv hat => ?_) (attrBase_of hb) hline) hs
  · refine hA.bindD fun x W1 v H1 μ1 _ s1 w1 r1 hA1 => ?_
    cases x with
    | dct kvs =>
      obtain ⟨d, ks, rfl, k1, k2, hz⟩ := (show ∃ a ks, v = .ref a ∧ Rd H1 a (.dK ks) ∧ RepK X.K H1 kvs ks ∧ kvs.length ≤ sizeLine from RepF.toB r1)
      refine ⟨d, ks, rfl, k1, fun H2 ts g1 g5 => ⟨ρ, μ1, W1, (hF.step s1 hW).step (Stp.beside g1) w1, w1.beside g1, ?_⟩⟩
      refine Ans.bind (rep1 := fun H μ vs us => RepVL X.K c.N H μ c.pn vs us) (Ans.shift (Nn := c.N) hA1 (Stp.beside g1)) fun xs W2 _ vs H3 μ2 s2 w2 r2 hA2 => ?_
      exact hA2.here w2 (RepVL.app (RepVL.ofD (RepL.mono s2.ext _ _ (pairs_rep (RepK.mono (Stp.beside (μ := μ1) g1).ext _ _ k2) g5))) r2)
    | _ => exact (show False from hA1).elim
  · have lk : kvs.length = vs.length := Paired.length kv
    have z : wpAny (model X.prog X.w) X.A (collect (.ref v)) (fun here s2 => wpAny (model X.prog X.w) X.A (spliced (backTo pos (starEach es X.env))) (fun vs s3 => AP X pins σ Q (here ++ vs) s3) X.xe s2) X.xe s1 := by
      refine PySem.W.kdx_collect (knd := mixKind X.prog X.w) (kvs := vs) (ep := ep) (I1.ok.hd (G.calm hh)) hv hat (by omega) fun h' tk as hk hl hG => ?_
      obtain ⟨H2, k1, k2, k3, k4, k5, J⟩ := itm_laid (tk := tk) I1 kv (Nat.le_succ _) hk hl hG
      exact thn (hr.run pos pins _ σ H2 _ J (q H2 as k1 k5)) fun ws s3 ⟨us, H3, I3, r3, q3⟩ => ⟨_, H3, I3, (LiI.vals_refs as).append r3, q3⟩
    unfold PySem.W.StarOf notIterableAtAll
    obtain ⟨o, ho, hcl, hdt⟩ := hv
    exact wpAny_bind (wpAny_specialOf ⟨o, ho, hcl⟩ PySem.F.slot_dict_items_iter.lookup (wpAny_pure ⟨rfl, z⟩))
end
end Rx
end
section
set_option Elab.async false
set_option linter.all false
set_option maxRecDepth 100000
set_option maxHeartbeats 1000000
/-! Rx itm3: sorted(d.items()) of texts to texts. -/
namespace Rx
open PySem PySem.Spec PyProof.Rows L2
abbrev P2 := List Nat × List Nat
def leP (p q : P2) : Bool := if eqN p.1 q.1 then leN p.2 q.2 else leN p.1 q.1
theorem leP_iff (p q : P2) : leP p q = true ↔ (p.1 = q.1 ∧ leN p.2 q.2 = true) ∨ (p.1 ≠ q.1 ∧ leN p.1 q.1 = true) := by
  unfold leP
  by_cases e : p.1 = q.1
  · rw [if_pos (by rw [eqN_iff]; exact decide_eq_true e)]
    exact ⟨fun h => .inl ⟨e, h⟩, fun h => h.elim (·.2) fun h => absurd e h.1⟩
  · rw [if_neg (by rw [eqN_iff]; simpa using e)]
    exact ⟨fun h => .inr ⟨e, h⟩, fun h => h.elim (fun h => absurd h.1 e) (·.2)⟩
theorem leP_tot : Tot leP := by
  refine ⟨fun p q => ?_, fun p q r h1 h2 => ?_, fun p q h1 h2 => ?_⟩
  · rw [leP_iff, leP_iff]
    by_cases e : p.1 = q.1
    · exact (leN_tot.tot p.2 q.2).imp (fun h => .inl ⟨e, h⟩) fun h => .inl ⟨e.symm, h⟩
    · exact (leN_tot.tot p.1 q.1).imp (fun h => .inr ⟨e, h⟩) fun h => .inr ⟨fun z => e z.symm, h⟩
  · rw [leP_iff] at h1 h2 ⊢
    rcases h1 with ⟨e1, g1⟩ | ⟨e1, g1⟩
    · rcases h2 with ⟨e2, g2⟩ | ⟨e2, g2⟩
      · exact .inl ⟨e1.trans e2, leN_tot.tr _ _ _ g1 g2⟩
      · exact .inr ⟨by rw [e1]; exact e2, by rw [e1]; exact g2⟩
    · rcases h2 with ⟨e2, g2⟩ | ⟨e2, g2⟩
      · exact .inr ⟨by rw [← e2]; exact e1, by rw [← e2]; exact g1⟩
      · refine .inr ⟨fun e => e1 ?_, leN_tot.tr _ _ _ g1 g2⟩
        exact leN_tot.anti _ _ g1 (by rw [e]; exact g2)
  · rw [leP_iff] at h1 h2
    rcases h1 with ⟨e1, g1⟩ | ⟨e1, g1⟩
    · rcases h2 with ⟨e2, g2⟩ | ⟨e2, g2⟩
      · exact Prod.ext e1 (leN_tot.anti _ _ g1 g2)
      · exact absurd e1.symm e2
    · rcases h2 with ⟨e2, g2⟩ | ⟨e2, g2⟩
      · exact absurd e2.symm e1
      · exact absurd (leN_tot.anti _ _ g1 g2) e1
def ltP (p q : P2) : Bool := !leP q p
theorem ltP_or (p q : P2) : ltP p q = if eqN p.1 q.1 then ltN p.2 q.2 else ltN p.1 q.1 := by
  unfold ltP leP
  have e : eqN q.1 p.1 = eqN p.1 q.1 := by rw [eqN_iff, eqN_iff]; by_cases h : p.1 = q.1 <;> simp [h, eq_comm]
  rw [e]
  split <;> (unfold leN; simp)
theorem swoP (k : Value → P2) : SrtO.Swo fun v u => ltP (k v) (k u) := by
  refine ⟨fun x y h => ?_, fun x y z h1 h2 => ?_⟩
  · unfold ltP at h ⊢
    have : leP (k x) (k y) = true := (leP_tot.tot _ _).resolve_right (by intro z; rw [z] at h; cases h)
    rw [this]; rfl
  · unfold ltP at h1 h2 ⊢
    have a : leP (k x) (k y) = true := by cases q : leP (k x) (k y) <;> rw [q] at h1 <;> first | rfl | cases h1
    have b : leP (k y) (k z) = true := by cases q : leP (k y) (k z) <;> rw [q] at h2 <;> first | rfl | cases h2
    rw [leP_tot.tr _ _ _ a b]; rfl
/-- the pair of texts that stands at an address -/
def PairAt (h : Heap) (v : Value) (p : P2) : Prop := ∃ a o t u n, v = .ref a ∧ h.get? a = some o ∧ o.cls = .type "tuple" ∧ o.data = .seq #[.str (tx p.1) t, .str (tx p.2) u] n
theorem PairAt.keep {h h' : Heap} {v : Value} {p : P2} (x : PairAt h v p) (k : ∀ b o, h.get? b = some o → o.cls = .type "tuple" → h'.get? b = some o) : PairAt h' v p := by
  obtain ⟨a, o, t, u, n, e, ho, hc, hd⟩ := x
  exact ⟨a, o, t, u, n, e, k a o ho hc, hc, hd⟩
theorem tx_beq (a b : List Nat) : (tx a == tx b) = eqN a b := by
  rw [eqN_iff]
  by_cases h : a = b
  · subst h; simp
  · rw [decide_eq_false h]
    exact beq_eq_false_iff_ne.mpr fun e => h (tx_inj e)
section
variable {prog : Program} {w : World} {A : Around} {E : Value → Shared → Prop} {s : Shared}
theorem pairT_cmp {vs : List Value} {k : Value → P2} (hp : ∀ v ∈ vs, PairAt s.heap v (k v)) : SrtO.Cmp prog w A s (tuples' true) (fun p => p.1 ∈ vs) (SrtO.lt2 fun v u => ltP (k v) (k u)) := by
  intro p q hm hm'
  have h1 := hp _ hm
  have h2 := hp _ hm'
  show wpAny (model prog w) A (keyLt' (tuples' true) p.1 q.1) (fun r s' => s' = s ∧ r = ltP (k p.1) (k q.1)) (fun _ _ => False) s
  rw [ltP_or]
  generalize k p.1 = x at h1 ⊢
  generalize k q.1 = y at h2 ⊢
  obtain ⟨a, o, t, u, n, e, ho, hc, hd⟩ := h1
  obtain ⟨a2, o2, t2, u2, n2, e2, ho2, hc2, hd2⟩ := h2
  rw [e, e2]
  refine PySem.W.kat_lt ho hd ho2 hd2 ?_
  show PySem.W.KatLex prog w A true (decide (2 < 2)) _ [(.str (tx x.1) t, .str (tx y.1) t2), (.str (tx x.2) u, .str (tx y.2) u2)] 0 s
  have lt : ∀ a b : List Nat, decide ((tx a).cps.toList < (tx b).cps.toList) = ltN a b := tx_lt
  refine PySem.W.kat_cons (SeqAt.EqAt.str_str (tx x.1) t (tx y.1) t2 prog w _ _ ?_)
  rw [tx_beq]
  refine PySem.W.kat_go (fun g1 => ?_) (fun g1 => ?_)
  · refine PySem.W.kat_yes (PySem.W.kat_cons (SeqAt.EqAt.str_str (tx x.2) u (tx y.2) u2 prog w _ _ ?_))
    rw [tx_beq, if_pos g1]
    refine PySem.W.kat_go (fun g2 => ?_) (fun g2 => ?_)
    · have g3 : ltN x.2 y.2 = false := by
        rw [eqN_iff] at g2
        rw [of_decide_eq_true g2]
        exact ltN_irr _
      exact PySem.W.kat_yes (PySem.W.kat_nil ⟨rfl, g3.symm⟩)
    · exact PySem.W.kat_no (PySem.W.kat_one _ _ (PyProof.Rows.lt_str ⟨rfl, lt _ _⟩))
  · rw [if_neg (by rw [g1]; exact Bool.false_ne_true)]
    exact PySem.W.kat_no (oneLt_str ⟨rfl, lt _ _⟩)
theorem pairT_firsts {h : Heap} {k : Value → P2} : ∀ vs : List Value, (∀ v ∈ vs, PairAt h v (k v)) → ∃ fs, PySem.W.KatTups h vs fs ∧ fs.length = vs.length ∧ ∀ f ∈ fs, ∃ x t, f = Value.str x t
  | [], _ => ⟨[], PySem.W.KatTups.nil, rfl, fun f hf => by simp at hf⟩
  | v :: vs, x => by
    obtain ⟨fs, g, hl, hi⟩ := pairT_firsts vs fun u hu => x u (List.mem_cons_of_mem _ hu)
    obtain ⟨a, o, t, u, n, e, ho, hc, hd⟩ := x v List.mem_cons_self
    rw [e]
    refine ⟨_, PySem.W.KatTups.cons ho hc hd rfl g, by rw [List.length_cons, List.length_cons, hl], fun f hf => ?_⟩
    rcases List.mem_cons.mp hf with rfl | hf
    · exact ⟨_, t, rfl⟩
    · exact hi f hf
theorem pairT_sort {a : Addr} {vs : List Value} {k : Value → P2} (h0 : 0 < vs.length) (hp : ∀ v ∈ vs, PairAt s.heap v (k v)) (ha : ∀ o, s.heap.get? a = some o → o.cls ≠ .type "tuple") : SrtO.SortableO prog w A s a vs fun v u => ltP (k v) (k u) := by
  intro h' keep
  have hp' : ∀ v ∈ vs, PairAt h' v (k v) := fun v hm => (hp v hm).keep fun b o e c => keep b o (fun z => by subst z; exact ha o e c) e
  obtain ⟨fs, h1, h2, h3⟩ := pairT_firsts vs hp'
  refine ⟨tuples' true, fun Q E hq => ?_, pairT_cmp hp'⟩
  refine PySem.W.kat_kind (T := .type "str") h1 (by omega) (fun f hm => ?_) (by rfl) ?_
  · obtain ⟨x, t, rfl⟩ := h3 f hm
    exact PySem.W.Looks.now
  · have e : (Value.type "str" != Value.type "tuple") = true := by first | decide +kernel | rfl | decide
    rw [e]
    exact hq
/-- list.sort of pairs of texts -/
theorem pairT_list {a : Addr} {vs : List Value} {n : Nat} {k : Value → P2} {R : PySem.Fin → Shared → Prop} (hp : ∀ v ∈ vs, PairAt s.heap v (k v)) (ho : s.heap.get? a = some (seqObj "list" vs.toArray n)) (hz : vs.length ≤ sizeLine)
    (h : ∀ out : List Value, out.Perm vs → out.map k = sortG leP (vs.map k) → R (.done (.ret .none)) { s with heap := sortedHeap s.heap a vs out.toArray }) :
    wpAny (model prog w) A (Builtin.«list.sort» ⟨[.ref a], []⟩) R E s := by
  refine SrtO.list_sort_ord (swoP k) ho hz (fun h2 => pairT_sort (by omega) hp fun o e => ?_) fun out hs hb => h out hb.perm ?_
  · rw [ho] at e
    cases e
    intro c
    exact absurd (Value.type.inj c) (by decide)
  · refine sortG_of leP_tot (hb.perm.map k) (List.pairwise_map.mpr (hs.imp fun {x y} h => ?_))
    have h : (!leP (k x) (k y)) = false := h
    cases q : leP (k x) (k y) <;> rw [q] at h <;> first | rfl | cases h
end
/-! ### over the layer -/
def findP (a : Addr) : List Addr → List P2 → P2
  | b :: bs, p :: ps => if a = b then p else findP a bs ps
  | _, _ => ([], [])
theorem findP_at : ∀ {bs : List Addr} {ps : List P2}, bs.Nodup → bs.length = ps.length → ∀ {j : Nat} {a : Addr} {p : P2}, bs[j]? = some a → ps[j]? = some p → findP a bs ps = p
  | b :: bs, q :: ps, n, hl, 0, a, p, h1, h2 => by
    cases h1; cases h2
    rw [findP, if_pos rfl]
  | b :: bs, q :: ps, n, hl, j + 1, a, p, h1, h2 => by
    rw [List.getElem?_cons_succ] at h1 h2
    obtain ⟨n1, n2⟩ := List.nodup_cons.mp n
    rw [findP, if_neg (fun e => n1 (by rw [← e]; exact List.mem_of_getElem? h1))]
    exact findP_at n2 (Nat.succ.inj hl) h1 h2
  | [], _, _, _, _, _, _, h1, _ => by cases h1
def keyP (bs : List Addr) (ps : List P2) : Value → P2
  | .ref a => findP a bs ps
  | _ => ([], [])
theorem keyP_map : ∀ {bs : List Addr} {ps : List P2}, bs.Nodup → bs.length = ps.length → (bs.map Value.ref).map (keyP bs ps) = ps := fun {bs ps} n hl => by
  apply List.ext_getElem?
  intro j
  rw [List.getElem?_map, List.getElem?_map]
  cases e : bs[j]? with
  | none =>
    have : ps[j]? = none := by
      rw [List.getElem?_eq_none_iff] at e ⊢
      omega
    rw [this]; rfl
  | some a =>
    obtain ⟨p, ep⟩ : ∃ p, ps[j]? = some p := by
      have := (List.getElem?_eq_some_iff.mp e).1
      exact ⟨_, List.getElem?_eq_getElem (by omega)⟩
    rw [ep]
    exact congrArg some (findP_at n hl e ep)
abbrev kvP (p : P2) : Key × V := (Sum.inr (tx p.1), V.str (tx p.2))
abbrev PairsP (H : Hp) (ts : List Addr) (ps : List P2) : Prop := Paired (fun (t : Addr) (p : P2) => H t = some (.tup [V.str (tx p.1), V.str (tx p.2)])) ts ps
theorem refs_of : ∀ {out : List Value} {bs : List Addr}, (∀ v ∈ out, v ∈ bs.map Value.ref) → ∃ ts : List Addr, out = ts.map Value.ref ∧ ∀ t ∈ ts, t ∈ bs
  | [], _, _ => ⟨[], rfl, fun _ h => nomatch h⟩
  | v :: out, bs, h => by
    obtain ⟨ts, e, g⟩ := refs_of (out := out) (bs := bs) fun u hu => h u (List.mem_cons_of_mem _ hu)
    obtain ⟨a, ha, ea⟩ := List.mem_map.mp (h v List.mem_cons_self)
    refine ⟨a :: ts, by rw [← ea, e]; rfl, fun t ht => ?_⟩
    rcases List.mem_cons.mp ht with rfl | ht
    · exact ha
    · exact g t ht
theorem pairs_by {H : Hp} {f : Addr → P2} : ∀ {ts : List Addr} {ps : List P2}, ts.map f = ps → (∀ t ∈ ts, H t = some (.tup [V.str (tx (f t).1), V.str (tx (f t).2)])) → PairsP H ts ps
  | [], [], _, _ => .nil
  | t :: ts, p :: ps, e, h => by
    rw [List.map_cons] at e
    cases e
    exact .cons (h t List.mem_cons_self) (pairs_by rfl fun u hu => h u (List.mem_cons_of_mem _ hu))
  | [], _ :: _, e, _ => by cases e
  | _ :: _, [], e, _ => by cases e
section
variable {X : L2.Cx} {c : Ec} {a e : Expr} {te : TE} {ra : Env → Wd → R Val} {p apos cpos pos : Pos}
def itmsO (v d : Addr) : HO := .ext fun h => h.IsItemsView v d
theorem itmsO_ok {P : Program} {w : World} {H : Hp} {h : Heap} {v d : Addr} (x : h.IsItemsView v d) : ObjOk P w H h v (itmsO v d) := by
  have ⟨o, ho, _⟩ := x
  exact ⟨x, ⟨o, ho⟩, fun h1 h2 y k => let ⟨o, ho, r⟩ := y; ⟨o, k o ho, r⟩⟩
def tItm (te : TE) : TE := fun σ H Q => te σ H fun x H1 => ∃ d kvs, x = .ref d ∧ Rd H1 d (.dK kvs) ∧ ∀ v, H1 v = none → Q (.ref v) (upd H1 v (itmsO v d))
/-- e.items() as a value -/
theorem pe_itm (he : PE X e te) (hbase : attributeBase e "items" X.env (eval e X.env) = eval e X.env) (hline : (apos.endLine == cpos.line) = true) : PE X (.Call (.Attribute e "items" apos) [] [] cpos) (tItm te) := by
  refine ⟨fun pins s σ H Q I hq => ?_⟩
  refine wpAny_Call_method (T := "dict") (id := "dict.items") hbase rfl hline F.plainAttrs_dict F.slot_dict_items F.type_dict_items (thn (he.run pins s σ H _ I hq) fun u s1 ⟨x, H1, I1, rx, d, kvs, ex, hd, q⟩ => ?_)
  subst ex
  obtain rfl : u = Value.ref d := rx
  obtain ⟨_, hs0, vs, kv, hdo⟩ := dk_rd I1.hok hd
  have I2 := I1.laid (a := s1.heap.objs.size) (o := itmsO s1.heap.objs.size d) (h' := s1.heap.push { cls := .type "dict_items", data := .fields #[.ref d] }) (t' := s1.toks) (fun b ob y => Heap.get?_push_of_some _ y) (Nat.le_refl _) (itmsO_ok ⟨_, Heap.get?_push_size _ rfl, rfl, rfl⟩)
  refine ⟨hdo.typeIs, hdo.mapOf.noDict, ?_⟩
  show wpAny _ _ (callWith cpos (.builtin "dict.items") [.ref d] [] []) _ X.xe s1
  exact method_meetsIn F.slot_dict_items F.entry_dict_items rfl (PySem.evalArgs_none ⟨rfl, hdo.typeIs, F.args_dict_items_1 _, _, meets_dict_items (mixKind X.prog X.w) d hs0, ⟨vs, hdo⟩, ⟨.ref _, _, I2, rfl, q _ (I1.hok.fresh (Nat.le_refl _))⟩⟩)
def rSrtI : List V → Hp → VK → Prop := fun vs H Q => ∃ (v d : Addr) (ps : List P2), vs = [.ref v] ∧ H v = some (itmsO v d) ∧ Rd H d (.dK (ps.map kvP)) ∧
  ∀ (H2 : Hp) (q : Addr) (ts : List Addr), (∀ b o, H b = some o → H2 b = some o) → H2 q = none → PairsP H2 ts (sortG leP ps) → Q (.ref q) (upd H2 q (.lst (ts.map V.ref)))
theorem cr_srtI (hc : X.calm = true) : CallR X (.builtin "sorted") rSrtI := by
  intro pins s σ H xs us Q I r h
  obtain ⟨v, d, ps, rfl, hv, hd, q⟩ := h
  rw [Vals.ref1 r]
  have view : s.heap.IsItemsView v d := (I.hok v _ hv).1
  obtain ⟨hz, lo, vs, kv, dd⟩ := dk_rd I.hok hd
  obtain ⟨ep, hat⟩ := dd.dictAt
  have lk : (ps.map kvP).length = vs.length := Paired.length kv
  have lp : ps.length = vs.length := by rw [← lk, List.length_map]
  refine Calls.call_function_entry kind_sorted plain_sorted entry_sorted (args_sorted1 _) ?_
  unfold Builtin.«sorted»; refine wpAny_bind (m := checkCount "sorted" 1 1 _) (wpAny_pure ?_)
  refine wpAny_bind (PySem.W.kdx_collect (A := X.A.in1) (knd := mixKind X.prog X.w) (kvs := vs) (ep := ep) (I.ok.hd hc) view hat (by omega) fun h' tk as hk hl hG => ?_)
  obtain ⟨H2, k1, k2, nd, k4, k5, J⟩ := itm_laid (tk := tk) I kv (Nat.le_succ _) hk hl hG
  have la : (as.map Value.ref).length ≤ sizeLine := by rw [List.length_map]; omega
  have lq : as.length = ps.length := by omega
  refine wpAny_bind (wpAny_newList ?_ la)
  have hoL : (h'.push (seqObj "list" (as.map Value.ref).toArray 0)).get? h'.objs.size = some (seqObj "list" (as.map Value.ref).toArray 0) := Heap.get?_push_size _ rfl
  have pa : ∀ x ∈ as.map Value.ref, PairAt (h'.push (seqObj "list" (as.map Value.ref).toArray 0)) x (keyP as ps x) := fun x hx => by
    obtain ⟨b, hb, rfl⟩ := List.mem_map.mp hx
    obtain ⟨j, hj⟩ := List.mem_iff_getElem?.mp hb
    obtain ⟨key, k, y, f1, f2, f3⟩ := hG.pairs j b hj
    obtain ⟨p, ep⟩ : ∃ p, ps[j]? = some p := by
      have := (List.getElem?_eq_some_iff.mp f1).1
      exact ⟨_, List.getElem?_eq_getElem (by omega)⟩
    obtain ⟨z, g1, g2, g3⟩ := LiI.paired_get kv (show (ps.map kvP)[j]? = some (kvP p) by rw [List.getElem?_map, ep]; rfl)
    rw [f1] at g1
    cases g1
    obtain ⟨t, et⟩ := Value.isStrOf_shape (x := tx p.1) (v := key) (by rw [← (show Sum.inr (tx p.1) = k from g2)] at f2; exact f2)
    obtain ⟨u, eu⟩ := (show ∃ u, y = Value.str (tx p.2) u from g3)
    show PairAt _ _ (findP b as ps)
    rw [findP_at nd lq hj ep]
    subst et
    subst eu
    exact ⟨b, _, t, u, 0, rfl, Heap.get?_push_of_some _ f3, rfl, rfl⟩
  refine wpAny_bind (wpAny_holding (wpAny_call_entry slot_list_sort ⟨_, hoL, rfl⟩ entry_list_sort (pairT_list (k := keyP as ps) pa hoL la fun out hp ho => ⟨_, rfl, ?_⟩) (args_list_sort _)))
  rw [keyP_map nd lq] at ho
  obtain ⟨ts, eo, tm⟩ := refs_of (out := out) (bs := as) fun x hx => hp.mem_iff.mp hx
  obtain ⟨e', he'⟩ := sortedHeap_at (vs := as.map Value.ref) (out := out.toArray) hoL
  have hn2 : H2 h'.objs.size = none := J.hok.fresh (Nat.le_refl _)
  have hlen : (ts.map V.ref).length ≤ sizeLine := by
    have := hp.length_eq
    rw [eo, List.length_map, List.length_map] at this
    rw [List.length_map]
    omega
  refine wpAny_pure ⟨_, rfl, .ref h'.objs.size, upd H2 h'.objs.size (.lst (ts.map V.ref)), J.laid (t' := tk) (fun b u y => ?_) (Nat.le_refl _) (show ObjOk X.prog X.w _ _ _ (.lst (ts.map V.ref)) from ⟨hlen, out, e', by rw [eo]; exact LiI.vals_refs ts, he'⟩), rfl, q H2 _ ts k1 hn2 ?_⟩
  · have hb : b < h'.objs.size := Heap.lt_size y
    exact (sortedHeap_old (Nat.ne_of_lt hb) (by rw [size_push']; exact Nat.lt_succ_of_lt hb)).trans (Heap.get?_push_of_some _ y)
  · refine pairs_by (f := fun t => findP t as ps) (by rw [← ho, eo, List.map_map]; rfl) fun t ht => ?_
    obtain ⟨j, hj⟩ := List.mem_iff_getElem?.mp (tm t ht)
    obtain ⟨z, g1, g2⟩ := LiI.paired_get k5 hj
    rw [List.getElem?_map] at g1
    obtain ⟨p, ep, ez⟩ := Option.map_eq_some_iff.mp g1
    rw [findP_at nd lq hj ep, g2, ← ez]
    rfl
def strPairs : List (PV × PV) → Option (List P2)
  | [] => some []
  | (.str k, .str v) :: r => (strPairs r).map ((k, v) :: ·)
  | _ :: _ => none
def pairV (p : P2) : PV := .tup [.str p.1, .str p.2]
def srtItm : PV → Option PV
  | .dct kvs => (strPairs kvs).map fun ps => .lst ((sortG leP ps).map pairV)
  | _ => none
theorem strPairs_rep {K : PySem.W.Frag} {H : Hp} : ∀ {xs : List (PV × PV)} {ks : List (Key × V)} {ps : List P2}, RepK K H xs ks → strPairs xs = some ps → ks = ps.map kvP ∧ xs.length = ps.length ∧ ∀ p ∈ ps, p.1.length ≤ sizeLine ∧ p.2.length ≤ sizeLine
  | [], [], ps, _, e => by cases e; exact ⟨rfl, rfl, fun _ h => nomatch h⟩
  | (k, y) :: xs, (j, v) :: ks, ps, h, e => by
    cases k <;> first | (cases e; done) | skip
    cases y <;> first | (cases e; done) | skip
    rename_i k y
    obtain ⟨qs, e1, rfl⟩ := Option.map_eq_some_iff.mp (show (strPairs xs).map ((k, y) :: ·) = some ps from e)
    obtain ⟨⟨h0, h1⟩, h2, h3⟩ := h
    obtain ⟨rfl, g2, g3⟩ := strPairs_rep h3 e1
    have h0 : some (Sum.inr (tx k)) = some j := h0
    cases h0
    obtain ⟨rfl, hy⟩ := (show v = .str (tx y) ∧ y.length ≤ sizeLine from h2)
    refine ⟨rfl, by rw [List.length_cons, List.length_cons, g2], fun p hp => ?_⟩
    rcases List.mem_cons.mp hp with rfl | hp
    · exact ⟨h1, hy⟩
    · exact g3 p hp
theorem pairsP_rep {K : PySem.W.Frag} {H : Hp} : ∀ {ps : List P2} {ts : List Addr}, (∀ p ∈ ps, p.1.length ≤ sizeLine ∧ p.2.length ≤ sizeLine) → PairsP H ts ps → RepL K H (ps.map pairV) (ts.map V.ref)
  | [], [], _, _ => trivial
  | p :: ps, t :: ts, h, g => by
    cases g with
    | cons g1 g2 =>
      have hp := h p List.mem_cons_self
      exact ⟨⟨t, _, rfl, .inl (.inl g1), ⟨⟨rfl, hp.1⟩, ⟨rfl, hp.2⟩, trivial⟩, (by show 2 ≤ sizeLine; rw [sizeLine_eq]; omega)⟩, pairsP_rep (fun q hq => h q (List.mem_cons_of_mem _ hq)) g2⟩
theorem je_srtI (G : Gd X c) (hh : c.hot = false) (hg : Gl X "sorted") (hm : X.mg "sorted" = none) (hb : notSuper a = true) (hline : (apos.endLine == cpos.line) = true)
    (hs : starEach [.Call (.Attribute a "items" apos) [] [] cpos] X.env = (false, eval (.Call (.Attribute a "items" apos) [] [] cpos) X.env) :: starEach [] X.env) (ha : JE X c .b a ra) :
    JE X c .f (.Call (.Name "sorted" p) [.Call (.Attribute a "items" apos) [] [] cpos] [] pos) (ap1R srtItm ra) := by
  have h1 := pe_itm ha (attrBase_of hb) hline
  have h2 := pe_callB (p := p) (pos := pos) (cr_srtI (X := X) (G.calm hh)) hg hm (by decide +kernel) (pa_cons h1 pa_nil hs) (by decide) (by decide) hs rfl
  refine pe_mono h2 fun σ H Q ⟨ρ, μ, W, hF, hW, hA⟩ => ⟨ρ, μ, W, hF, hW, hA.bindD fun px W1 x H1 μ1 _ s1 w1 r1 hA1 => ?_⟩
  obtain ⟨v, e, hA1⟩ := hA1.ofo
  obtain ⟨pz, e1, rfl⟩ := Option.map_eq_some_iff.mp e
  cases px with
  | dct kvs =>
    obtain ⟨d, ks, rfl, k1, k2, hz⟩ := (show ∃ a ks, x = .ref a ∧ Rd H1 a (.dK ks) ∧ RepK X.K H1 kvs ks ∧ kvs.length ≤ sizeLine from RepF.toB r1)
    obtain ⟨ps, e2, rfl⟩ := Option.map_eq_some_iff.mp (show (strPairs kvs).map _ = some pz from e1)
    obtain ⟨rfl, g2, g3⟩ := strPairs_rep k2 e2
    refine ⟨d, _, rfl, k1, fun v hv => ?_⟩
    have st1 := Stp.new (μ := μ1) (o := itmsO v d) hv
    have w2 := w1.new (o := itmsO v d) hv
    refine ⟨v, d, ps, rfl, upd_same, ?_, fun H2 q ts f1 f2 f3 => ?_⟩
    · rcases k1 with k1 | ⟨o, k1⟩
      · exact .inl (by rw [upd_ne (ne_of_none k1 hv)]; exact k1)
      · exact .inr ⟨o, by rw [upd_ne (ne_of_none k1 hv)]; exact k1⟩
    · have st2 := Stp.beside (μ := μ1) f1
      have w3 := w2.beside f1
      have st3 := Stp.new (μ := μ1) (o := .lst (ts.map V.ref)) f2
      refine hA1 _ _ μ1 ((st1.trans st2).trans st3) (w3.new f2) (show RepF X.K H .f _ μ1 (.lst ((sortG leP ps).map pairV)) _ from ⟨q, rfl, s1.fresh (st1.fresh (st2.fresh f2)), fun z => w3.there q z f2, _, upd_same,
        RepL.mono st3.ext _ _ (pairsP_rep (fun p hp => g3 p ((sortG_perm ps).mem_iff.mp hp)) f3), ?_⟩)
      rw [List.length_map, (sortG_perm ps).length_eq, ← g2]
      exact hz
  | _ => cases e1
end
end Rx
end
section
set_option Elab.async false
set_option linter.all false
set_option maxRecDepth 100000
set_option maxHeartbeats 1000000
/-! Rx law: what the top of a program leaves; defs as facts. -/
namespace Rx
open PySem PySem.Spec PyProof.Rows L2
theorem takes_no {X : L2.Cx} : Takes X (fun _ _ _ _ => False) := fun _ _ ⟨_, _, _, _, _, _, _, _, _, _, _, _, _, _, _, _, z⟩ => z.elim
/-- a def of the program's top -/
structure DefAt (K : PySem.W.Frag) (mg : Str → Option Value) (x : Str) (st : Stmt) : Prop where
  ex : ∃ (a : Addr) (oc : Value) (od : Option Addr) (kV doc pm : Value) (an : Option Addr) (cdv ct : Value) (osl : Array (Option Value)), mg x = some (.ref a) ∧ PySem.W.keepIn K (.ref a) = true ∧
    K.lookup a = some ⟨oc, od, .func (PySem.W.fnOf x x (defArgs st) (defBody st) (defScope st) .none kV doc pm an cdv ct), osl⟩ ∧ PySem.W.codeIn K cdv x = true
/-- a def's plain function, k calls deep -/
structure FnK (P : Program) (w : World) (K : PySem.W.Frag) (mg : Str → Option Value) (base : Heap) (Nn : Nm) (x : Str) (k : Nat) (cf : List Val → Wd → R Val) : Prop where
  ex : ∃ a, mg x = some (.ref a) ∧ PySem.W.keepIn K (.ref a) = true ∧ FnR P w K mg base (L2.CX P w) k a (spR K Nn cf)
section
variable {P : Program} {w : World} {K : PySem.W.Frag} {mg : Str → Option Value} {base : Heap} {Nn : Nm} {l nl : Nat} {N ps : List Str} {b : Env → Wd → Out} {x : Str} {st : Stmt} {cf : List Val → Wd → R Val}
/-- a body's derivation, wherever the def stands -/
def BodyAt (P : Program) (w : World) (K : PySem.W.Frag) (mg : Str → Option Value) (base : Heap) (Nn : Nm) (l : Nat) (N : List Str) (x : Str) (st : Stmt) (O : Nat → Bool) (b : Env → Wd → Out) : Prop :=
  ∀ (a : Addr) (cdv : Value), BodyOk P w K mg base Nn l N x (defScope st) a cdv (defBody st) O b
theorem fnk_fix (D : DefAt K mg x st) (S : FnScope N ps (defScope st)) {O : Nat → Bool} (hO : ∀ i, i < ps.length → O i = false) (hn : nl ≤ N.length)
    (hb : ∀ (kV doc pm : Value) (an : Option Addr) (cdv ct : Value) (us : List Value), us.length = ps.length → bindArgs (PySem.W.fnOf x x (defArgs st) (defBody st) (defScope st) .none kV doc pm an cdv ct) ⟨us, []⟩ = pure (ps.zip us))
    (hj : BodyAt P w K mg base Nn l N x st O b) : FnK P w K mg base Nn x (l + 1) (fixR ps.length nl b) := by
  obtain ⟨a, oc, od, kV, doc, pm, an, cdv, ct, osl, h1, h2, h3, h4⟩ := D.ex
  exact ⟨a, h1, h2, fn_fix (fn_bodyS h3 h4 S hO hn (hj a cdv)) (.all (hb kV doc pm an cdv ct))⟩
theorem fnk_star {pv : Str} (D : DefAt K mg x st) (S : FnScope N (ps ++ [pv]) (defScope st)) {O : Nat → Bool} (hO : ∀ i, i < ps.length + 1 → O i = false) (hn : nl ≤ N.length)
    (hb : ∀ (kV doc pm : Value) (an : Option Addr) (cdv ct : Value) (us rest : List Value), us.length = ps.length → bindArgs (PySem.W.fnOf x x (defArgs st) (defBody st) (defScope st) .none kV doc pm an cdv ct) ⟨us ++ rest, []⟩ = (newTuple rest >>= fun t => pure (ps.zip us ++ [(pv, t)])))
    (hj : BodyAt P w K mg base Nn l N x st O b) : FnK P w K mg base Nn x (l + 1) (starF ps.length nl b) := by
  obtain ⟨a, oc, od, kV, doc, pm, an, cdv, ct, osl, h1, h2, h3, h4⟩ := D.ex
  exact ⟨a, h1, h2, fn_starS h3 h4 S (hb kV doc pm an cdv ct) hO hn (hj a cdv)⟩
/-- X is of this program, with room for l calls -/
structure Of (P : Program) (w : World) (K : PySem.W.Frag) (mg : Str → Option Value) (base : Heap) (l : Nat) (X : L2.Cx) : Prop where
  p : X.prog = P
  w : X.w = w
  k : X.K = K
  m : X.mg = mg
  b : X.base = base
  r : Room l X.A
theorem FnK.at {k : Nat} (F : FnK P w K mg base Nn x k cf) {X : L2.Cx} {c : Ec} (o : Of P w K mg base l X) (hN : c.N = Nn) (h : k ≤ l) : FnAt X c x cf := by
  obtain ⟨rfl, rfl, rfl, rfl, rfl, r⟩ := o
  subst hN
  obtain ⟨a, h1, h2, h3⟩ := F.ex
  exact ⟨a, k, h1, h2, h3, r.mono h⟩
theorem of_cx {qual : Str} {scope : Scope} {a : Addr} {cdv : Value} {A : Around} {outer : List PySem.Env} {s : Shared} {H : Hp} {E : XK} (hr : Room l (A.deeper (envOfC qual scope s.heap.objs.size a cdv))) :
    Of P w K mg base l (cxOf (L2.CX P w) P w K mg base N qual scope a cdv A outer s H E) := ⟨rfl, rfl, rfl, rfl, rfl, hr⟩
theorem gd_cx {qual : Str} {scope : Scope} {a : Addr} {cdv : Value} {A : Around} {outer : List PySem.Env} {s : Shared} {H : Hp} {E : XK} {O : Nat → Bool} (S : N.Nodup) (hr : Room l (A.deeper (envOfC qual scope s.heap.objs.size a cdv))) :
    Gd (cxOf (L2.CX P w) P w K mg base N qual scope a cdv A outer s H E) { N := Nn, O := O, H0 := H, Wx := fun cls d _ H' => E cls d H' } :=
  ⟨fun _ => rfl, S, fun _ h => (nomatch h), by have := hr.un; show (A.deeper _).units + 130 < cLine; omega, takes_of rfl rfl rfl rfl⟩
theorem Gd.o {X : L2.Cx} {c : Ec} (G : Gd X c) (O : Nat → Bool) : Gd X { c with O := O } := ⟨G.calm, G.nd, G.pnI, G.hu, G.tk⟩
theorem Gd.blk {X : L2.Cx} {c : Ec} {O : Nat → Bool} (G : Gd X c) (hc : X.calm = true) {s : Shared} {H H0 : Hp} {scope : Scope} {cenv : PySem.Env} {fp : List Addr} {Nn : Nm} : Gd (X.blk s H scope cenv fp) ⟨Nn, O, H0, fun _ _ _ _ => False, false, []⟩ :=
  ⟨fun _ => hc, G.nd, fun _ h => (nomatch h), G.hu, takes_no⟩
theorem Of.blk {X : L2.Cx} (o : Of P w K mg base l X) {s : Shared} {H : Hp} {scope : Scope} {cenv : PySem.Env} {fp : List Addr} : Of P w K mg base l (X.blk s H scope cenv fp) := ⟨o.p, o.w, o.k, o.m, o.b, o.r⟩
theorem Of.tr {X : L2.Cx} (o : Of P w K mg base l X) {pn : List (Addr × Obj)} {xe : Value → Shared → Prop} : Of P w K mg base l (X.tr pn xe) := ⟨o.p, o.w, o.k, o.m, o.b, o.r⟩
end
end Rx
end
section
set_option Elab.async false
set_option linter.all false
set_option maxRecDepth 100000
set_option maxHeartbeats 1000000
/-! Rx wrap: the rules under names of plain functions, for printed derivations. -/
namespace Rx
open PySem PySem.Spec PyProof.Rows L2
abbrev RE := Env → Wd → R Val
abbrev RS := Env → Wd → Out
def varR (i : Nat) : RE := fun ρ W => R.of (getv ρ i) W
def cstR (p : PV) : RE := fun _ W => .ok (.d p) W
def binR (o : BinO) (ra rb : RE) : RE := fun ρ W => (dat (ra ρ W)).bind fun x w => (dat (rb ρ w)).bind fun y w => R.of ((binop o x y).map .d) w
def noO : Env → Wd → R (Option Int) := fun _ W => .ok none W
def soO (ra : RE) : Env → Wd → R (Option Int) := fun ρ W => partR (ra ρ W)
def nilR : Env → Wd → R (List Val) := fun _ W => .ok [] W
def nopR : RS := fun ρ W => .nx ρ W
def seqR (r k : RS) : RS := fun ρ W => (r ρ W).then k
def retR (re : RE) : RS := fun ρ W => (re ρ W).go ρ fun v w => .rt v w
def setR (i : Nat) (re : RE) : RS := fun ρ W => (re ρ W).go ρ fun v w => .nx (setv ρ i (some v)) w
def exprR (re : RE) : RS := fun ρ W => (re ρ W).go ρ fun _ w => .nx ρ w
def ifR (rt : RE) (ra rb : RS) : RS := fun ρ W => (dat (rt ρ W)).go ρ fun v w => if truth v then ra ρ w else rb ρ w
def whlR (n : Nat) (rt : RE) (rb : RS) : RS := fun ρ W => whileL (tst rt) rb n ρ W
def tupS (is : List Nat) (ra : RE) : RS := fun ρ W => (dat (ra ρ W)).go ρ fun v w => match bindT ρ (.tp is) v with | some ρ => .nx ρ w | none => .st
def yesT : Env → Wd → R Bool := fun _ W => .ok true W
def dnilR : RE := fun _ W => .ok (.d (.dct [])) W
def brkR : RS := fun ρ W => .br ρ W
/-- comprehensions of one, of two clauses -/
def comp1R (src : Env → Wd → R (List PV)) (leaf : Env → Wd → R (List PV)) (t : Tg) (ts : Env → Wd → R Bool) (own : List Nat) (fin : List PV → Option PV) : RE := fun ρ W =>
  (src ρ W).bind fun xs w => (noEx (loopL (fun x w => (R.of (bindT (blkE ρ own) t x) w).bind fun ρ1 w => (ts ρ1 w).bind fun b w => if b then leaf ρ1 w else .ok [] w) xs w)).bind fun vs w => if fits vs.length then R.of ((fin vs).map .d) w else .st
def comp2R (src : Env → Wd → R (List PV)) (leaf : Env → Wd → R (List PV)) (t : Tg) (ts : Env → Wd → R Bool) (src2 : Env → Wd → R (List PV)) (t2 : Tg) (ts2 : Env → Wd → R Bool) (own : List Nat) (fin : List PV → Option PV) : RE :=
  comp1R src (fun ρ w => (src2 ρ w).bind fun xs w => loopL (fun x w => (R.of (bindT ρ t2 x) w).bind fun ρ1 w => (ts2 ρ1 w).bind fun b w => if b then leaf ρ1 w else .ok [] w) xs w) t ts own fin
def finL : List PV → Option PV := fun vs => some (.lst vs)
def finD : List PV → Option PV := fun vs => (pairsO vs).map fun ps => .dct (dmerge [] ps)
section
variable {X : L2.Cx} {c : Ec} {x : Sx} {O' : Nat → Bool} {a b d e f : Expr} {ra rb rd re rf rt : RE} {pos : Pos}
theorem r_int {i : Int} {k : Nat} : JE X c .z (.Constant (.int i) k pos) (cstR (.int i)) := je_int
theorem r_bl {i : Bool} {k : Nat} : JE X c .z (.Constant (.bool i) k pos) (cstR (.bl i)) := je_bl
theorem r_non {k : Nat} : JE X c .z (.Constant .none k pos) (cstR .non) := je_non
theorem r_str {z : Str} {y : List Nat} {k : Nat} (e : z.cps.toList = y) (h : Nat.ble y.length 16777216 = true) : JE X c .z (.Constant (.str z) k pos) (cstR (.str y)) := je_str e (by rw [sizeLine_eq]; exact Nat.le_of_ble_eq_true h)
theorem r_var {i : Nat} {x : Str} (hN : X.N[i]? = some x) (hv : Vis X.env.scope x) (ho : c.O i = false) (h1 : (x == ("__debug__" : Str)) = false) (h2 : (x == ("__classdict__" : Str)) = false) : JE X c .z (.Name x pos) (varR i) := je_var hN hv ho h1 h2
theorem r_own {i : Nat} {x : Str} (hN : X.N[i]? = some x) (hv : Vis X.env.scope x) (ho : c.O i = true) (h1 : (x == ("__debug__" : Str)) = false) (h2 : (x == ("__classdict__" : Str)) = false) : JE X c .b (.Name x pos) (varR i) := je_own hN hv ho h1 h2
theorem r_gloS {x : Str} {y : List Nat} (hg : Gl X x) (hm : ∃ t, X.mg x = some (.str (tx y) t)) (hl : Nat.ble y.length 16777216 = true) (hd : (x == ("__debug__" : Str)) = false) : JE X c .z (.Name x pos) (cstR (.str y)) := by
  obtain ⟨t, hm⟩ := hm
  exact je_glo (v := .str (tx y)) hg hm ⟨t, rfl⟩ (fun H => ⟨rfl, by rw [sizeLine_eq]; exact Nat.le_of_ble_eq_true hl⟩) hd
theorem r_gloI {x : Str} {y : Int} (hg : Gl X x) (hm : ∃ t, X.mg x = some (.int y t)) (hd : (x == ("__debug__" : Str)) = false) : JE X c .z (.Name x pos) (cstR (.int y)) := by
  obtain ⟨t, hm⟩ := hm
  exact je_glo (v := .int y) hg hm ⟨t, rfl⟩ (fun H => rfl) hd
theorem r_bin (G : Gd X c) (o : BinO) (ha : JE X c .b a ra) (hb : JE X c .b b rb) : JE X c .f (.BinOp a (opO o) b pos) (binR o ra rb) := je_bin G ha hb
theorem r_sl {lo hi : Option Expr} {ri rj : Env → Wd → R (Option Int)} {p2 : Pos} (ha : JE X c .b a ra) (hi' : JO X c lo ri) (hj : JO X c hi rj) : JE X c .f (.Subscript a (.Slice lo hi none p2) pos) (slR ra ri rj) := je_sl ha hi' hj
theorem r_noO : JO X c none noO := jo_none
theorem r_soO (ha : JE X c .z a ra) : JO X c (some a) (soO ra) := jo_some ha
theorem r_nil : JA X c [] nilR := ja_nil
theorem r_dnil : JE X c .f (.Dict [] [] pos) dnilR := je_dnil
/-! ### clauses -/
theorem r_yes : PTs X [] (tB X c yesT) := ⟨fun pins s σ H Q I ⟨ρ, μ, W, hF, hW, hA⟩ => pts_nil.run pins s σ H Q I (hA.here hW rfl)⟩
theorem r_tst (h : JT X c e (tst re)) : PTs X [e] (tB X c (tst re)) := pts_one h
/-- a scope's names, checked -/
def blkB (N : List Str) (sc scope : Scope) (own : List (Str × Nat)) : Bool :=
  decide (scope.kind = .function) && scope.names.all (fun y => decide (scope.names.lookup y.1 = some y.2)) && own.all (fun p => decide (N[p.2]? = some p.1)) &&
  scope.names.all (fun y => !decide (y.2 = .free) || decide (sc.names.lookup y.1 = some .cell) || decide (sc.names.lookup y.1 = some .free)) &&
  scope.names.all (fun y => !(decide (y.2 = .local) || decide (y.2 = .cell)) || (own.map (·.1)).any (fun z => decide (z = y.1)) || !N.any (fun z => decide (z = y.1)))
theorem blk_ok {N : List Str} {sc scope : Scope} {own : List (Str × Nat)} (h : blkB N sc scope own = true) : BlkOk N sc scope own := by
  unfold blkB at h
  simp only [Bool.and_eq_true, List.all_eq_true, decide_eq_true_eq, Bool.or_eq_true, Bool.not_eq_true', decide_eq_false_iff_not, List.any_eq_true, Bool.or_eq_false_iff] at h
  obtain ⟨⟨⟨⟨h1, h2⟩, h3⟩, h4⟩, h5⟩ := h
  refine ⟨h1, h2, h3, fun y hy e => ?_, fun y hy e => ?_⟩
  · rcases h4 y hy with (h | h) | h
    · exact absurd e h
    · exact .inl h
    · exact .inr h
  · rcases h5 y hy with (h | h) | h
    · exact absurd e (by rintro (z | z); exact h.1 z; exact h.2 z)
    · obtain ⟨z, hz, rfl⟩ := h
      exact .inl hz
    · refine .inr fun hm => ?_
      have : N.any (fun z => decide (z = y.1)) = true := List.any_eq_true.mpr ⟨y.1, hm, decide_eq_true rfl⟩
      rw [h] at this
      cases this
variable {scope : Scope} {own : List (Str × Nat)} {src leaf src2 : Env → Wd → R (List PV)} {tg iter tg2 iter2 : Expr} {ifs ifs2 : List Expr} {t t2 : Tg} {ts ts2 : Env → Wd → R Bool}
theorem own_sub {g : Gn} {gs : List Gn} {ns : List Nat} (h : (tgS g.t).all (fun i => ns.any (fun j => decide (j = i))) = true) (h2 : ∀ k ∈ gs, (tgS k.t).all (fun i => ns.any (fun j => decide (j = i))) = true) : ∀ k ∈ g :: gs, ∀ i ∈ tgS k.t, i ∈ ns := by
  intro k hk i hi
  have q : (tgS k.t).all (fun i => ns.any (fun j => decide (j = i))) = true := by
    rcases List.mem_cons.mp hk with rfl | hk
    · exact h
    · exact h2 k hk
  obtain ⟨j, hj, e⟩ := List.any_eq_true.mp (List.all_eq_true.mp q i hi)
  rw [← of_decide_eq_true e]
  exact hj
theorem r_lc1 (G : Gd X c) (hh : c.hot = false) (hi : JI X c tg iter src) (ok : BlkOk X.N X.env.scope scope own) (hs : ∀ x, foldedSetIterable iter X.env x = pure x)
    (b1 : BlkR X c scope fun X' c' => JG X' c' tg t) (b2 : BlkR X c scope fun X' c' => PTs X' ifs (tB X' c' ts)) (b3 : BlkR X c scope fun X' c' => JE X' c' .z e re) (hown : (tgS t).all (fun i => (own.map (·.2)).any (fun j => decide (j = i))) = true) :
    JE X c .f (.ListComp e [⟨tg, iter, ifs, 0⟩] scope pos) (comp1R src (leafL re) t ts (own.map (·.2)) finL) :=
  je_comp (kd := .lst e) (g := ⟨⟨tg, iter, ifs⟩, t, src, ts⟩) (gs := []) G hh hi ok hs (fun s H C cl fp H0 => ⟨b1 s H C cl fp H0, b2 s H C cl fp H0⟩) (fun _ h => (nomatch h)) (fun s H C cl fp H0 => .lst (b3 s H C cl fp H0)) ⟨fun _ h => (nomatch h), trivial⟩ (own_sub hown fun _ h => (nomatch h))
theorem r_dc1 (G : Gd X c) (hh : c.hot = false) (hi : JI X c tg iter src) (ok : BlkOk X.N X.env.scope scope own) (hs : ∀ x, foldedSetIterable iter X.env x = pure x)
    (b1 : BlkR X c scope fun X' c' => JG X' c' tg t) (b2 : BlkR X c scope fun X' c' => PTs X' ifs (tB X' c' ts)) (b3 : BlkR X c scope fun X' c' => JE X' c' .z e re) (b4 : BlkR X c scope fun X' c' => JE X' c' .z f rf) (hown : (tgS t).all (fun i => (own.map (·.2)).any (fun j => decide (j = i))) = true) :
    JE X c .f (.DictComp e f [⟨tg, iter, ifs, 0⟩] scope pos) (comp1R src (leafD re rf) t ts (own.map (·.2)) finD) :=
  je_comp (kd := .dct e f) (g := ⟨⟨tg, iter, ifs⟩, t, src, ts⟩) (gs := []) G hh hi ok hs (fun s H C cl fp H0 => ⟨b1 s H C cl fp H0, b2 s H C cl fp H0⟩) (fun _ h => (nomatch h)) (fun s H C cl fp H0 => .dct (b3 s H C cl fp H0) (b4 s H C cl fp H0)) ⟨fun _ h => (nomatch h), trivial⟩ (own_sub hown fun _ h => (nomatch h))
theorem apart2 {g h : Gn} (q : (tgS g.t).all (fun i => !(tgS h.t).any (fun j => decide (j = i))) = true) : Apart [g, h] := by
  refine ⟨fun k hk i hi z => ?_, fun _ h => (nomatch h), trivial⟩
  rw [List.mem_singleton] at hk
  subst hk
  have := List.all_eq_true.mp q i hi
  rw [List.any_eq_true.mpr ⟨i, z, decide_eq_true rfl⟩] at this
  cases this
theorem r_lc2 (G : Gd X c) (hh : c.hot = false) (hi : JI X c tg iter src) (ok : BlkOk X.N X.env.scope scope own) (hs : ∀ x, foldedSetIterable iter X.env x = pure x)
    (b1 : BlkR X c scope fun X' c' => JG X' c' tg t) (b2 : BlkR X c scope fun X' c' => PTs X' ifs (tB X' c' ts)) (d1 : BlkR X c scope fun X' c' => JI X' c' tg2 iter2 src2) (d2 : BlkR X c scope fun X' c' => JG X' c' tg2 t2) (d3 : BlkR X c scope fun X' c' => PTs X' ifs2 (tB X' c' ts2))
    (d4 : BlkR X c scope fun X' _ => ∀ x, foldedSetIterable iter2 X'.env x = pure x) (b3 : BlkR X c scope fun X' c' => JE X' c' .z e re) (hap : (tgS t).all (fun i => !(tgS t2).any (fun j => decide (j = i))) = true)
    (hown : (tgS t).all (fun i => (own.map (·.2)).any (fun j => decide (j = i))) = true) (hown2 : (tgS t2).all (fun i => (own.map (·.2)).any (fun j => decide (j = i))) = true) :
    JE X c .f (.ListComp e [⟨tg, iter, ifs, 0⟩, ⟨tg2, iter2, ifs2, 0⟩] scope pos) (comp2R src (leafL re) t ts src2 t2 ts2 (own.map (·.2)) finL) :=
  je_comp (kd := .lst e) (g := ⟨⟨tg, iter, ifs⟩, t, src, ts⟩) (gs := [⟨⟨tg2, iter2, ifs2⟩, t2, src2, ts2⟩]) G hh hi ok hs (fun s H C cl fp H0 => ⟨b1 s H C cl fp H0, b2 s H C cl fp H0⟩)
    (fun k hk => by rw [List.mem_singleton] at hk; subst hk; exact fun s H C cl fp H0 => ⟨⟨d2 s H C cl fp H0, d3 s H C cl fp H0⟩, ⟨d1 s H C cl fp H0, d4 s H C cl fp H0⟩⟩) (fun s H C cl fp H0 => .lst (b3 s H C cl fp H0)) (apart2 hap) (own_sub hown fun k hk => by rw [List.mem_singleton] at hk; subst hk; exact hown2)
theorem r_dc2 (G : Gd X c) (hh : c.hot = false) (hi : JI X c tg iter src) (ok : BlkOk X.N X.env.scope scope own) (hs : ∀ x, foldedSetIterable iter X.env x = pure x)
    (b1 : BlkR X c scope fun X' c' => JG X' c' tg t) (b2 : BlkR X c scope fun X' c' => PTs X' ifs (tB X' c' ts)) (d1 : BlkR X c scope fun X' c' => JI X' c' tg2 iter2 src2) (d2 : BlkR X c scope fun X' c' => JG X' c' tg2 t2) (d3 : BlkR X c scope fun X' c' => PTs X' ifs2 (tB X' c' ts2))
    (d4 : BlkR X c scope fun X' _ => ∀ x, foldedSetIterable iter2 X'.env x = pure x) (b3 : BlkR X c scope fun X' c' => JE X' c' .z e re) (b4 : BlkR X c scope fun X' c' => JE X' c' .z f rf) (hap : (tgS t).all (fun i => !(tgS t2).any (fun j => decide (j = i))) = true)
    (hown : (tgS t).all (fun i => (own.map (·.2)).any (fun j => decide (j = i))) = true) (hown2 : (tgS t2).all (fun i => (own.map (·.2)).any (fun j => decide (j = i))) = true) :
    JE X c .f (.DictComp e f [⟨tg, iter, ifs, 0⟩, ⟨tg2, iter2, ifs2, 0⟩] scope pos) (comp2R src (leafD re rf) t ts src2 t2 ts2 (own.map (·.2)) finD) :=
  je_comp (kd := .dct e f) (g := ⟨⟨tg, iter, ifs⟩, t, src, ts⟩) (gs := [⟨⟨tg2, iter2, ifs2⟩, t2, src2, ts2⟩]) G hh hi ok hs (fun s H C cl fp H0 => ⟨b1 s H C cl fp H0, b2 s H C cl fp H0⟩)
    (fun k hk => by rw [List.mem_singleton] at hk; subst hk; exact fun s H C cl fp H0 => ⟨⟨d2 s H C cl fp H0, d3 s H C cl fp H0⟩, ⟨d1 s H C cl fp H0, d4 s H C cl fp H0⟩⟩) (fun s H C cl fp H0 => .dct (b3 s H C cl fp H0) (b4 s H C cl fp H0)) (apart2 hap) (own_sub hown fun k hk => by rw [List.mem_singleton] at hk; subst hk; exact hown2)
/-! ### statements -/
theorem r_end (hO : O' = c.O) : JSs X c x O' [] nopR := jss_nil hO
theorem r_seq {st : Stmt} {rest : List Stmt} {O1 : Nat → Bool} {r k : RS} (h1 : JS X c x O1 st r) (h2 : JSs X { c with O := O1 } x O' rest k) : JSs X c x O' (st :: rest) (seqR r k) := jss_cons h1 h2
theorem r_one {st : Stmt} {r : RS} (h1 : JS X c x O' st r) : JSs X c x O' [st] (seqR r nopR) := jss_cons h1 (jss_nil rfl)
theorem r_ret (htr : ∀ Oe, x.tr = some Oe → Oe = c.O) (he : JE X c .z e re) : JS X c x O' (.Return (some e) pos) (retR re) := js_ret htr he
theorem r_set (G : Gd X c) (htr : ∀ Oe, x.tr = some Oe → Oe = c.O) {i : Nat} {n : Str} {pos' : Pos} (hi : X.N[i]? = some n) (hx : Loc X.env.scope n) (hf : X.fn n = true ∨ X.env.scope.names.lookup n = some .local) (ho : c.O i = false) (hs : swapsWith e (some (.Name n pos')) pos.line X.env = pure false) (he : JE X c .z e re) :
    JS X c x c.O (.Assign [.Name n pos'] e pos) (setR i re) := js_set G htr hi hx hf ho hs he
theorem r_expr (htr : ∀ Oe, x.tr = some Oe → Oe = c.O) (hs : plainRhs e = true) (he : JE X c .z e re) : JS X c x c.O (.Expr e pos) (exprR re) := js_expr htr hs he
theorem r_if {a b : List Stmt} {sa sb : RS} (htr : ∀ Oe, x.tr = some Oe → Oe = c.O) (ht : JT X c e (tst rt)) (ha : JSs X c x O' a sa) (hb : JSs X c x O' b sb) : JS X c x O' (.If e a b pos) (ifR rt sa sb) := js_if htr ht ha hb
theorem r_whl (n : Nat) (hp : PassesOwn (model X.prog X.w) X.A X.env X.xe) (htr : ∀ Oe, x.tr = some Oe → Oe = c.O) {body : List Stmt} {sb : RS} (ht : JT X c e (tst rt)) (hb : JSs X c { x with Ob := c.O } c.O body sb) : JS X c x c.O (.While e body [] pos) (whlR n rt sb) := js_while hp htr ht hb
theorem r_tup (G : Gd X c) (hh : c.hot = false) (htr : ∀ Oe, x.tr = some Oe → Oe = c.O) {es : List (Str × Pos)} {is : List Nat} {kt : Nat} {pt : Pos} (h : NmOk X c es is) (he : JE X c .z a ra)
    (hs : swapsWithSole [.Tuple (nms es) kt pt] a pos.line X.env = pure false) (hw : swappedStores [.Tuple (nms es) kt pt] a X.env = pure none) (h1 : (assignEach [.Tuple (nms es) kt pt] X.env).map (·.2) = [assign (.Tuple (nms es) kt pt) X.env]) :
    JS X c x c.O (.Assign [.Tuple (nms es) kt pt] a pos) (tupS is ra) := js_tup G hh htr h he hs hw h1
theorem r_brk (hO : x.Ob = c.O) : JS X c x O' (.Break pos) brkR := js_brk hO
theorem r_pass : JS X c x c.O (.Pass pos) nopR := js_pass
theorem js_setc1 (G : Gd X c) (hh : c.hot = false) (htr : ∀ Oe, x.tr = some Oe → Oe = c.O) {i : Nat} {n : Str} {py spos : Pos} (o : Bool) (hi' : X.N[i]? = some n) (hyl : X.env.scope.names.lookup n = some .local) (hO : ∀ j, j ≠ i → O' j = c.O j) (ho : O' i = o) (hz : o = false → c.O i = false)
    (hsw : swapsWith (.ListComp e [⟨tg, iter, ifs, 0⟩] scope pos) (some (.Name n py)) spos.line X.env = pure true)
    (hi : JI X c tg iter src) (ok : BlkOk X.N X.env.scope scope own) (hs : ∀ x, foldedSetIterable iter X.env x = pure x)
    (b1 : BlkR X c scope fun X' c' => JG X' c' tg t) (b2 : BlkR X c scope fun X' c' => PTs X' ifs (tB X' c' ts)) (b3 : BlkR X c scope fun X' c' => JE X' c' .z e re) (hown : (tgS t).all (fun i => (own.map (·.2)).any (fun j => decide (j = i))) = true) :
    JS X c x O' (.Assign [.Name n py] (.ListComp e [⟨tg, iter, ifs, 0⟩] scope pos) spos) (setcR i (comp1R src (leafL re) t ts (own.map (·.2)) finL)) :=
  js_setc (kd := .lst e) (g := ⟨⟨tg, iter, ifs⟩, t, src, ts⟩) (gs := []) G hh htr hi' hyl hO ho hz hsw hi ok hs (fun s H C cl fp H0 => ⟨b1 s H C cl fp H0, b2 s H C cl fp H0⟩) (fun _ h => (nomatch h)) (fun s H C cl fp H0 => .lst (b3 s H C cl fp H0)) ⟨fun _ h => (nomatch h), trivial⟩ (own_sub hown fun _ h => (nomatch h))
theorem no_tr : ∀ Oe : Nat → Bool, (none : Option (Nat → Bool)) = some Oe → Oe = c.O := fun _ h => by cases h
end
end Rx
namespace Rx
open PySem PySem.Spec PyProof.Rows L2
/-- own slots -/
def ow (l : List Nat) : Nat → Bool := fun i => l.any (Nat.beq i)
theorem ow_rm (l : List Nat) (i : Nat) : ∀ j, j ≠ i → ow (l.filter (fun k => !Nat.beq k i)) j = ow l j := by
  intro j hj
  unfold ow
  induction l with
  | nil => rfl
  | cons a l ih =>
    by_cases h : a = i
    · subst h
      rw [List.filter_cons_of_neg (by rw [Nat.beq_refl]; exact nofun), ih, List.any_cons]
      have : Nat.beq j a = false := by
        cases e : Nat.beq j a with
        | false => rfl
        | true => exact absurd (Nat.eq_of_beq_eq_true e) hj
      rw [this, Bool.false_or]
    · rw [List.filter_cons_of_pos (by cases e : Nat.beq a i <;> first | rfl | exact absurd (Nat.eq_of_beq_eq_true e) h), List.any_cons, List.any_cons, ih]
/-- an exception class at C with the fields fl, made j calls deep -/
structure XK (P : Program) (w : World) (K : PySem.W.Frag) (mg : Str → Option Value) (base : Heap) (C : Addr) (fl : List Str) (j : Nat) : Prop where
  oex : OexC K C
  ini : ∃ fI fd ps, PySem.W.findIn K (.ref C) "__init__" = some (some (.ref fI)) ∧ PySem.W.typeIn K (.ref fI) = some (.type "function") ∧ Binds K fd ps [] ∧ FnOk P w K mg base (L2.CX P w) j fI fd ps (spX K C fl.length fun ys => fl.zip ys.reverse)
structure XM (P : Program) (w : World) (K : PySem.W.Frag) (mg : Str → Option Value) (base : Heap) (N : Nm) (n : Str) (k j : Nat) : Prop where
  nme : mg n = some (.ref (N.cls k))
  xk : XK P w K mg base (N.cls k) (N.xfl k) j
theorem XM.at {P : Program} {w : World} {K : PySem.W.Frag} {mg : Str → Option Value} {base : Heap} {N : Nm} {n : Str} {k j l : Nat} (F : XM P w K mg base N n k j) {X : L2.Cx} {c : Ec} (o : Of P w K mg base l X) (hN : c.N = N) (h : j + 1 ≤ l) : XAt X c n k := by
  obtain ⟨rfl, rfl, rfl, rfl, rfl, r⟩ := o
  subst hN
  obtain ⟨fI, fd, ps, h1, h2, h3, h4⟩ := F.xk.ini
  exact ⟨F.nme, F.xk.oex, fI, j, fd, ps, h1, h2, h3, r.mono h, h4⟩
end Rx
namespace Rx
open PySem PySem.Spec PyProof.Rows L2
section
variable {X : L2.Cx} {c : Ec} {a b tg : Expr} {ra rb : RE} {pos p tpos : Pos} {elts : List Expr} {kk : Nat}
theorem r_rng2 (_ : Gd X c) (hg : Gl X "range") (hm : X.mg "range" = none) (ha : JE X c .z a ra) (hb : JE X c .z b rb) (h1 : isStar a = false) (h2 : isStar b = false) : JI X c tg (.Call (.Name "range" p) [a, b] [] pos) (rngR ra rb) := ji_rng2 hg hm ha hb h1 h2
theorem r_rng1 (_ : Gd X c) (hg : Gl X "range") (hm : X.mg "range" = none) (ha : JE X c .z a ra) (h1 : isStar a = false) : JI X c tg (.Call (.Name "range" p) [a] [] pos) (rngR (cstR (.int 0)) ra) := ji_rng1 hg hm ha h1
theorem r_enum (_ : Gd X c) {tpos : Pos} (hg : Gl X "enumerate") (hm : X.mg "enumerate" = none) (ha : JE X c .z a ra) (h1 : isStar a = false) : JI X c (.Tuple elts kk tpos) (.Call (.Name "enumerate" p) [a] [] pos) (enmR ra) := ji_enum hg hm ha h1
theorem r_zip (_ : Gd X c) {tpos : Pos} (hg : Gl X "zip") (hm : X.mg "zip" = none) (ha : JE X c .z a ra) (hb : JE X c .z b rb) (h1 : isStar a = false) (h2 : isStar b = false) : JI X c (.Tuple elts kk tpos) (.Call (.Name "zip" p) [a, b] [] pos) (zipR ra rb) := ji_zip hg hm ha hb h1 h2
end
end Rx
end
section
set_option Elab.async false
set_option linter.all false
set_option maxRecDepth 100000
set_option maxHeartbeats 1000000
/-! Rx head: the law's own def, from what its plain function answers. -/
namespace Rx
open PySem PySem.Spec PyProof.Rows L2
def spLaw (K : PySem.W.Frag) : Sp := fun vs H Q _ => ∃ (a : Addr) (ns : List Int), vs = [.ref a] ∧ SqL K H a (ns.map V.int) ∧ ns.length ≤ 63 ∧ ∀ H', Q (.bl true) H'
/-- the world behind draw = [script[:63], 0, 0] -/
def world0 (ns : List Int) : Wd := [.ls [.d (.lst (ns.map .int)), .d (.int 0), .d (.int 0)]]
def env0 (nl : Nat) : Env := none :: some (.o 0) :: none' (nl - 2)
section
variable {P : Program} {w : World} {K : PySem.W.Frag} {mg : Str → Option Value} {Nn : Nm} {l nl : Nat} {N : List Str} {b : Env → Wd → Out} {st : Stmt}
theorem pss_lock {X : L2.Cx} {rest : List Stmt} {t : TS} (h : PSs X rest t) : PSs X rest (fun D σ H => ∃ p u, H p = some u ∧ Mut (some u) ∧ ∀ od, t D σ (upd H p (.frz od u))) :=
  ⟨fun pins s σ H D I ⟨p, u, e, mu, q⟩ => by
    obtain ⟨od, I'⟩ := I.lock e mu
    exact h.run pins s σ _ D I' (q od)⟩
/-- the law's first statement -/
def FirstIs (first : Stmt) : Prop := ∃ p1 p2 p3 p4 p5 p6 p7 p8 p9 k1 k2 k3, first = .Assign [.Name "draw" p1] (.List [.Subscript (.Name "script" p2) (.Slice none (some (.Constant (.int 63) k1 p3)) none p4) p5, .Constant (.int 0) k2 p6, .Constant (.int 0) k3 p7] p8) p9
theorem rep_ints' {H : Hp} : ∀ is : List Int, RepL K H (is.map .int) (is.map V.int) := rep_ints
/-- the law's def -/
theorem fn_law {rest : List Stmt} {first : Stmt} {O : Nat → Bool} {tl : List Str} (D : DefAt K mg "law" st) (hbody : defBody st = first :: rest) (hf : FirstIs first) (S : FnScope N ["script"] (defScope st)) (hN : N = ("script" : Str) :: ("draw" : Str) :: tl)
    (hv : Vis (defScope st) "script") (hd : Loc (defScope st) "draw") (hnl : nl ≤ N.length) (h2 : 2 ≤ nl) (hO : O 1 = false)
    (hb : ∀ (kV doc pm : Value) (an : Option Addr) (cdv ct : Value) (us : List Value), us.length = (["script"] : List Str).length → bindArgs (PySem.W.fnOf "law" "law" (defArgs st) (defBody st) (defScope st) .none kV doc pm an cdv ct) ⟨us, []⟩ = pure ((["script"] : List Str).zip us))
    (hplain : ∀ ns : List Int, ns.length ≤ 63 → ∃ W', b (env0 nl) (world0 ns) = .rt (.d (.bl true)) W') {fa : Addr} (hfa : mg "law" = some (.ref fa)) :
    ∃ fd : FuncData, (∀ (s : Shared) (u : Value), BindsTo s fd ⟨[u], []⟩ [("script", u)]) ∧ ∀ base : Heap, (∀ (a : Addr) (cdv : Value), BodyOk P w K mg base Nn l N "law" (defScope st) a cdv rest O b) → FnOk P w K mg base (L2.CX P w) (l + 1) fa fd ["script"] (spLaw K) := by
  obtain ⟨a, oc, od, kV, doc, pm, an, cdv, ct, osl, h1, _, h3, h4⟩ := D.ex
  have e := hfa.symm.trans h1
  cases e
  refine ⟨_, fun s u => .of_eq (hb kV doc pm an cdv ct [u] rfl), fun base hj => ?_⟩
  refine fn_of h3 h4 S (fun vs H Q E h => by obtain ⟨a, ns, rfl, _⟩ := h; rfl) fun A outer s H vs Q E hr ⟨a, ns, ev, hS, hl, hq⟩ => ?_
  subst ev
  obtain ⟨O', hjj⟩ := hj _ cdv A outer s H E [] hr
  obtain ⟨p1, p2, p3, p4, p5, p6, p7, p8, p9, k1, k2, k3, rfl⟩ := hf
  subst hN
  rw [hbody]
  have pv : PE (cxOf (L2.CX P w) P w K mg base (("script" : Str) :: ("draw" : Str) :: tl) "law" (defScope st) fa cdv A outer s H E) (.Name "script" p2) (tVar 0) := pe_var (i := 0) rfl hv rfl rfl
  refine ⟨_, pss_cons (ps_set (i := 1) S.nd rfl hd (pe_lst (pa_cons (pe_slice sl_list pv po_none (po_some pe_int) (p2 := p4) (pos := p5)) (pa_cons pe_int (pa_cons pe_int pa_nil rfl) rfl) rfl)) rfl (.inl rfl)) (pss_lock hjj), ?_⟩
  refine ⟨.ref a, rfl, 63, rfl, a, ns.map V.int, rfl, hS, fun q1 hq1 => ?_⟩
  have ecut : cutV (ns.map V.int) none (some 63) = ns.map V.int := by
    unfold cutV
    have e1 : HT.sIx (ns.map V.int).length 0 none = 0 := rfl
    have e2 : HT.sIx (ns.map V.int).length (ns.map V.int).length (some 63) = (ns.map V.int).length := by
      rw [endO_six]
      show clip 63 _ = _
      unfold clip
      rw [if_neg (by decide), List.length_map]
      show min 63 _ = _
      omega
    rw [e1, e2, List.drop_zero, Nat.sub_zero, List.take_length]
  rw [ecut]
  refine ⟨(by show 3 ≤ sizeLine; rw [sizeLine_eq]; omega), fun q2 hq2 => ?_⟩
  have hne : q1 ≠ q2 := fun z => by rw [z, upd_same] at hq2; cases hq2
  have hq2' : H q2 = none := by rw [upd_ne (Ne.symm hne)] at hq2; exact hq2
  refine ⟨q1, .lst (ns.map V.int), by rw [upd_ne hne, upd_same], trivial, fun od => ?_⟩
  have off : ∀ b o, H b = some o → upd (upd (upd H q1 (.lst (ns.map V.int))) q2 (.lst [.ref q1, .int 0, .int 0])) q1 (.frz od (.lst (ns.map V.int))) b = some o := fun b o e => by
    have b1 : b ≠ q1 := fun z => by rw [z, hq1] at e; cases e
    have b2 : b ≠ q2 := fun z => by rw [z, hq2'] at e; cases e
    rw [upd_ne b1, upd_ne b2, upd_ne b1]
    exact e
  generalize hH3 : upd (upd (upd H q1 (.lst (ns.map V.int))) q2 (.lst [.ref q1, .int 0, .int 0])) q1 (.frz od (.lst (ns.map V.int))) = H3 at off
  have at1 : H3 q1 = some (.frz od (.lst (ns.map V.int))) := by rw [← hH3, upd_same]
  have at2 : H3 q2 = some (.lst [.ref q1, .int 0, .int 0]) := by rw [← hH3, upd_ne (Ne.symm hne), upd_same]
  have hz : (ns.map PV.int).length ≤ sizeLine := by rw [List.length_map, sizeLine_eq]; omega
  obtain ⟨W', hW'⟩ := hplain ns hl
  refine ⟨env0 nl, [q2], world0 ns, ?_, ?_, ?_, ?_⟩
  · refine ⟨fun i v e1 e2 => ?_, fun i v e1 e2 => ?_, fun i j x e1 e2 e3 e4 => ?_, ?_⟩
    · match i, e1 with
      | 0, e1 => cases e1
      | 1, e1 =>
        cases e1
        exact ⟨.ref q2, rfl, q2, rfl, rfl⟩
      | i + 2, e1 =>
        have e1 : getv (none' (nl - 2)) i = some v := e1
        rw [none_get] at e1
        cases e1
    · match i, e1 with
      | 0, e1 => cases e1
      | 1, e1 =>
        have e2 : O 1 = true := e2
        rw [hO] at e2
        cases e2
      | i + 2, e1 =>
        have e1 : getv (none' (nl - 2)) i = some v := e1
        rw [none_get] at e1
        cases e1
    · exfalso
      match i, e3 with
      | 0, e3 => exact e3 rfl
      | 1, e3 =>
        have e1 : O 1 = true := e1
        rw [hO] at e1
        cases e1
      | i + 2, e3 => exact e3 (show getv (none' (nl - 2)) i = none from none_get _ _)
    · show (env0 nl).length ≤ ((L2.start (("script" : Str) :: ("draw" : Str) :: tl) [V.ref a]).set 1 _).length
      rw [List.length_set]
      unfold L2.start env0
      rw [List.length_append, List.length_map, List.length_replicate, List.length_cons, List.length_cons, none_len]
      have : ([V.ref a] : List V).length = 1 := rfl
      omega
  · refine ⟨rfl, List.nodup_cons.mpr ⟨by simp, List.nodup_nil⟩, fun n x o e1 e2 => ?_⟩
    match n, e1, e2 with
    | 0, e1, e2 =>
      cases e1
      cases e2
      exact ⟨_, at2, ⟨⟨q1, _, rfl, ⟨od, at1⟩, rep_ints ns, hz⟩, rfl, rfl, trivial⟩, (by show 3 ≤ sizeLine; rw [sizeLine_eq]; omega)⟩
    | n + 1, e1, e2 => cases e1
  · exact ⟨fun x o e _ => off x o e, ⟨fun x xs e => off x _ e, fun x o u e => off x _ e⟩, fun x hx => by simp at hx, [q2], rfl, fun x hx => by rw [List.mem_singleton] at hx; rw [hx]; exact hq2'⟩
  · show OutOk _ _ _ O' H3 _ (b (env0 nl) (world0 ns))
    rw [hW']
    intro u H' μ _ _ _ hu
    have hu : u = .bl true := hu
    rw [hu]
    exact hq H'
theorem cx_no {P : Program} {w : World} {H : Hp} {s : Shared} {e : Value} {s' : Shared} (h : L2.CX P w [] H s (fun _ _ _ => False) e s') : False := by
  obtain ⟨_, _, _, _, _, _, _, _, _, _, _, _, z⟩ := h
  exact z
theorem walk_law {l : PySem.W.OpenLaw} {k : Nat} {q : Program} {loose : List Str} {XP : (Str → Option Value) → Heap → Prop} {YP : World → Heap → Prop} {d : DefRec} {K : Params → PySem.W.Frag}
    (hn : l.most = some 63) (hdf : d.params.defaults = []) (hr : Room k callerA) (hY : ∀ (w : World) (h : Heap), YP w h → (K w.params).In h)
    (F : ∀ (w : World) (mg : Str → Option Value) (fa : Addr) (h : Heap), (K w.params).In h → h.Ns mainGlobals mg → mg d.name = some (.ref fa) →
      ∃ fd : FuncData, (∀ (s : Shared) (u : Value), BindsTo s fd ⟨[u], []⟩ [("script", u)]) ∧ ∀ base : Heap, (K w.params).In base → base.Ns mainGlobals mg → FnOk l.prog w (K w.params) mg base (L2.CX l.prog w) k fa fd ["script"] (spLaw (K w.params))) :
    PySem.W.WalkO q loose XP YP l.row.toRowW d [] (fun f vs => PySem.call f vs) :=
  L2.walk_of (CX := fun w => L2.CX l.prog w) (sp := fun w => spLaw (K w.params)) hn (by rw [sizeLine_eq]; decide) hdf hr hY F (fun _ _ a ns h1 _ h3 => ⟨a, ns, rfl, h3, h1, fun _ => rfl⟩) fun _ _ _ _ _ h => cx_no h
end
end Rx
end
section
set_option Elab.async false
set_option linter.all false
set_option maxRecDepth 100000
set_option maxHeartbeats 1000000
/-! Rx mat: match of a text. -/
namespace Rx
open PySem PySem.Spec PyProof.Rows L2
abbrev Cse := Option (List (List Nat)) × (Env → Wd → Out)
def hitL (s : List Nat) : List (List Nat) → Bool
  | [] => false
  | y :: ys => if eqN s y then true else hitL s ys
def pickC (s : List Nat) : List Cse → Env → Wd → Out
  | [] => fun ρ W => .nx ρ W
  | (none, r) :: _ => r
  | (some ys, r) :: cs => fun ρ W => if hitL s ys then r ρ W else pickC s cs ρ W
def mtR (re : Env → Wd → R Val) (cs : List Cse) : Env → Wd → Out := fun ρ W => (dat (re ρ W)).go ρ fun v w => match v with
  | .str s => pickC s cs ρ w
  | _ => .st
section
variable {X : L2.Cx} {c : Ec} {x : Sx} {pins : List (Addr × Obj)} {σ : L2.St} {H : Hp} {s : Shared} {t : List Nat} {v : Value}
/-- a pattern at a text -/
structure PatR (X : L2.Cx) (p : Pattern) (g : List Nat → Bool) : Prop where
  run : ∀ {pins : List (Addr × Obj)} {σ : L2.St} {H : Hp} {s : Shared} {t : List Nat} {v : Value} {Q : Option (List (Str × Value)) → Shared → Prop}, X.A.units + 130 < cLine → Inv X pins σ H s → RelV (.str (tx t)) v → t.length ≤ sizeLine →
    (∀ s', Inv X pins σ H s' → Q (if g t then some [] else none) s') → wpAny (model X.prog X.w) X.A (matchPattern p X.env v) Q X.xe s
theorem pat_val {z : Str} {y : List Nat} {k : Nat} {p q : Pos} (e : z.cps.toList = y) (h : y.length ≤ sizeLine) : PatR X (.MatchValue (.Constant (.str z) k p) q) fun t => eqN t y := by
  refine ⟨fun {pins σ H s t v Q} hu I rx hl hq => ?_⟩
  refine wpAny_matchPattern_Value (thn (pe_str.run pins s σ H (fun a H1 => a = .str z ∧ H1 = H) I ⟨rfl, rfl⟩) fun u s1 ⟨a, H1, I1, ra, e1, e2⟩ => ?_)
  subst e1
  subst e2
  have hz : z = tx y := by rw [← e, tx_list]
  rw [hz] at ra
  have cc : cmpop .eq (.str t) (.str y) = some (eqv (.str t) (.str y)) := rfl
  refine thn (cmpop_run (o := .eq) (px := .str t) (py := .str y) (Q := fun a H2 => a = .bl (eqN t y) ∧ H2 = H1) I1 (by omega) rx ra ⟨rfl, hl⟩ ⟨rfl, h⟩ cc ⟨by rw [eqv], rfl⟩) fun d s2 ⟨b, H2, I2, rb, e3, e4⟩ => ?_
  subst e3
  subst e4
  refine thn (truth_run (px := .bl (eqN t y)) (Q := fun b H3 => b = eqN t y ∧ H3 = H2) I2 rb rfl ⟨rfl, rfl⟩) fun d s3 ⟨H3, I3, e5, e6⟩ => ?_
  subst e5
  subst e6
  have q : Q (if eqN t y = true then some [] else none) s3 := hq s3 I3
  cases eg : eqN t y with
  | true => rw [eg] at q; exact q
  | false => rw [eg] at q; exact q
theorem pat_any {pos : Pos} : PatR X (.MatchAs none none pos) fun _ => true := by
  refine ⟨fun {pins σ H s t v Q} hu I rx hl hq => ?_⟩
  exact wpAny_matchPattern_Capture (hq s I)
/-- patterns that are tried one after another -/
structure PatsR (X : L2.Cx) (ps : List Pattern) (g : List Nat → Bool) : Prop where
  run : ∀ {pins : List (Addr × Obj)} {σ : L2.St} {H : Hp} {s : Shared} {t : List Nat} {v : Value} {Q : Option (List (Str × Value)) → Shared → Prop}, X.A.units + 130 < cLine → Inv X pins σ H s → RelV (.str (tx t)) v → t.length ≤ sizeLine →
    (∀ s', Inv X pins σ H s' → Q (if g t then some [] else none) s') → wpAny (model X.prog X.w) X.A (matchFirst ps X.env v) Q X.xe s
theorem pats_nil : PatsR X [] fun t => hitL t [] := by
  refine ⟨fun {pins σ H s t v Q} hu I rx hl hq => ?_⟩
  exact wpAny_matchFirst_nil (hq s I)
theorem pats_cons {z : Str} {y : List Nat} {k : Nat} {p q : Pos} {ps : List Pattern} {ys : List (List Nat)} (e : z.cps.toList = y) (h : y.length ≤ sizeLine) (hr : PatsR X ps fun t => hitL t ys) : PatsR X (.MatchValue (.Constant (.str z) k p) q :: ps) fun t => hitL t (y :: ys) := by
  refine ⟨fun {pins σ H s t v Q} hu I rx hl hq => ?_⟩
  refine wpAny_matchFirst_cons ((pat_val e h).run hu I rx hl fun s' I' => ?_)
  have hq : ∀ s', Inv X pins σ H s' → Q (if (if eqN t y then true else hitL t ys) = true then some [] else none) s' := hq
  show match if eqN t y = true then some [] else none with
    | some bs => Q (some bs) s'
    | none => wpAny (model X.prog X.w) X.A (matchFirst ps X.env v) Q X.xe s'
  cases eg : eqN t y with
  | true =>
    rw [eg] at hq
    exact hq s' I'
  | false =>
    rw [eg] at hq
    exact hr.run hu I' rx hl fun s2 I2 => hq s2 I2
theorem pat_or {ps : List Pattern} {pos : Pos} {ys : List (List Nat)} (hr : PatsR X ps fun t => hitL t ys) : PatR X (.MatchOr ps pos) fun t => hitL t ys := by
  refine ⟨fun {pins σ H s t v Q} hu I rx hl hq => ?_⟩
  refine wpAny_matchPattern_Or (hr.run hu I rx hl fun s' I' => ?_)
  have q : Q (if hitL t ys = true then some [] else none) s' := hq s' I'
  show match if hitL t ys = true then some [] else none with
    | none => Q none s'
    | some bs => Q (some ((namesOfAll (ps.take 1)).filterMap fun n => (bs.lookup n).map (n, ·))) s'
  cases eg : hitL t ys with
  | true =>
    rw [eg] at q
    have e : ((namesOfAll (ps.take 1)).filterMap fun n => (([] : List (Str × Value)).lookup n).map (n, ·)) = [] := by
      induction namesOfAll (ps.take 1) with
      | nil => rfl
      | cons n ns ih => exact ih
    show Q (some _) s'
    rw [e]
    exact q
  | false => rw [eg] at q; exact q
theorem pat_one {z : Str} {y : List Nat} {k : Nat} {p q : Pos} (e : z.cps.toList = y) (h : y.length ≤ sizeLine) : PatR X (.MatchValue (.Constant (.str z) k p) q) fun t => hitL t [y] := by
  refine ⟨fun {pins σ H s t v Q} hu I rx hl hq => ?_⟩
  refine (pat_val e h).run hu I rx hl fun s' I' => ?_
  have q : Q (if (if eqN t y then true else false) = true then some [] else none) s' := hq s' I'
  show Q (if eqN t y = true then some [] else none) s'
  cases eg : eqN t y with
  | true => rw [eg] at q; exact q
  | false => rw [eg] at q; exact q
/-- the cases -/
structure MC (X : L2.Cx) (c : Ec) (x : Sx) (cs : List MatchCase) (rs : List Cse) : Prop where
  run : ∀ {pins : List (Addr × Obj)} {σ : L2.St} {H : Hp} {s : Shared} {t : List Nat} {v : Value} {first : Bool} {D : Ends}, X.A.units + 130 < cLine → Inv X pins σ H s → RelV (.str (tx t)) v → t.length ≤ sizeLine →
    (∃ ρ μ W, FR X.K c.N c.H0 H μ c.pn c.O σ ρ ∧ WR X.K c.N H μ W ∧ Stp x.μ0 μ c.H0 H ∧ OutOk X c x c.O H D (pickC t rs ρ W)) → wpAny (model X.prog X.w) X.A (matchCases cs X.env v first) (SP X pins D) X.xe s
theorem mc_nil : MC X c x [] [] := by
  refine ⟨fun {pins σ H s t v first D} hu I rx hl ⟨ρ, μ, W, hF, hW, hS, h⟩ => ?_⟩
  exact wpAny_matchCases_nil ⟨σ, H, I, h σ H μ hF hW hS (Ext.refl H)⟩
theorem mc_cons {p : Pattern} {ys : List (List Nat)} {body : List Stmt} {rest : List MatchCase} {r : Env → Wd → Out} {rs : List Cse} (hp : PatR X p fun t => hitL t ys) (hb : JSs X c x c.O body r) (hr : MC X c x rest rs) :
    MC X c x (⟨p, none, body⟩ :: rest) ((some ys, r) :: rs) := by
  refine ⟨fun {pins σ H s t v first D} hu I rx hl ⟨ρ, μ, W, hF, hW, hS, h⟩ => ?_⟩
  refine wpAny_matchCases_cons (hp.run hu I rx hl fun s' I' => ?_)
  have h : OutOk X c x c.O H D (if hitL t ys then r ρ W else pickC t rs ρ W) := h
  show match if hitL t ys = true then some [] else none with
    | none => wpAny (model X.prog X.w) X.A (matchCases rest X.env v false) (SP X pins D) X.xe s'
    | some (bs : List (Str × Value)) => wpAny (model X.prog X.w) X.A (assignInOrder (bs.map fun (n, _) => bindName X.env n) (bs.map (·.2))) (fun _ s₂ => wpAny (model X.prog X.w) X.A (execs body X.env) (SP X pins D) X.xe s₂) X.xe s'
  cases eg : hitL t ys with
  | true =>
    rw [eg] at h
    exact wpAny_assignInOrder_none (hb.run pins s' σ H D I' ⟨ρ, μ, W, hF, hW, hS, h⟩)
  | false =>
    rw [eg] at h
    exact hr.run hu I' rx hl ⟨ρ, μ, W, hF, hW, hS, h⟩
theorem mc_any {pos : Pos} {body : List Stmt} {r : Env → Wd → Out} (hb : JSs X c x c.O body r) : MC X c x [⟨.MatchAs none none pos, none, body⟩] [(none, r)] := by
  refine ⟨fun {pins σ H s t v first D} hu I rx hl ⟨ρ, μ, W, hF, hW, hS, h⟩ => ?_⟩
  refine wpAny_matchCases_cons (pat_any.run hu I rx hl fun s' I' => ?_)
  exact wpAny_assignInOrder_none (hb.run pins s' σ H D I' ⟨ρ, μ, W, hF, hW, hS, h⟩)
theorem js_match {e : Expr} {re : Env → Wd → R Val} {cs : List MatchCase} {rs : List Cse} {pos : Pos} (G : Gd X c) (htr : ∀ Oe, x.tr = some Oe → Oe = c.O) (he : JE X c .b e re) (hc : MC X c x cs rs) : JS X c x c.O (.Match e cs pos) (mtR re rs) := by
  refine ⟨fun pins s σ H D I ⟨ρ, μ, W, hF, hW, hS, h⟩ => ?_⟩
  have h : OutOk X c x c.O H D ((dat (re ρ W)).go ρ fun v w => match v with | .str s => pickC s rs ρ w | _ => .st) := h
  have base : tE X c .b re σ H fun a H1 => ∃ (t : List Nat), a = .str (tx t) ∧ t.length ≤ sizeLine ∧ ∃ ρ μ W, FR X.K c.N c.H0 H1 μ c.pn c.O σ ρ ∧ WR X.K c.N H1 μ W ∧ Stp x.μ0 μ c.H0 H1 ∧ OutOk X c x c.O H1 D (pickC t rs ρ W) := by
    refine ⟨ρ, μ, W, hF, hW, OutOk.goD (Hs := H) htr hF hW hS h fun p W1 b H1 μ1 _ f1 _ w1 s1 q h1 => ?_⟩
    cases p with
    | str t =>
      obtain ⟨e1, e2⟩ := (show RepB X.K H1 (.str t) b from q.toB)
      exact ⟨t, e1, e2, ρ, μ1, W1, f1, w1, s1, h1⟩
    | _ => exact (show False from h1).elim
  refine wpAny_Match (thn (he.run pins s σ H _ I base) fun u s1 ⟨a, H1, I1, ra, t, e1, e2, q⟩ => ?_)
  subst e1
  exact hc.run G.hu I1 ra e2 q
end
end Rx
end
section
set_option Elab.async false
set_option linter.all false
set_option maxRecDepth 100000
set_option maxHeartbeats 1000000
/-! Rx rec: defs that call themselves; written tuples of the top. -/
namespace Rx
open PySem PySem.Spec PyProof.Rows L2
section
variable {P : Program} {w : World} {K : PySem.W.Frag} {mg : Str → Option Value} {base : Heap} {Nn : Nm} {x : Str} {st : Stmt}
theorem fnk_st (D : DefAt K mg x st) : FnK P w K mg base Nn x 0 (fun _ _ => .st) := by
  obtain ⟨a, oc, od, kV, doc, pm, an, cdv, ct, osl, h1, h2, h3, h4⟩ := D.ex
  refine ⟨a, h1, h2, ?_⟩
  intro A outer s H us vs Q E hr e0 r ⟨μ, W, pvs, hW, rv, hA⟩
  exact (show False from hA).elim
theorem FnK.up {k l : Nat} {cf : List Val → Wd → R Val} (F : FnK P w K mg base Nn x k cf) (h : k ≤ l) : FnK P w K mg base Nn x l cf := by
  obtain ⟨a, h1, h2, h3⟩ := F.ex
  refine ⟨a, h1, h2, ?_⟩
  intro A outer s H us vs Q E hr e0 r q
  exact h3 A outer s H us vs Q E (hr.mono h) e0 r q
/-- a tuple of texts that stands at the top -/
theorem tup_top {a : Addr} {od : Option Addr} {its : Array Value} {n : Nat} {sl : Array (Option Value)} {ss : List (List Nat)} (hk : K.lookup a = some ⟨.type "tuple", od, .seq its n, sl⟩) (hv : Vals (ss.map fun s => V.str (tx s)) its.toList) (h1 : ss.length ≤ sizeLine) (h2 : ∀ s ∈ ss, s.length ≤ sizeLine) (H : Hp) :
    Rep K H (.tup (ss.map .str)) (.ref a) := by
  refine ⟨a, ss.map fun s => .str (tx s), rfl, .inr ⟨_, its, n, hk, rfl, rfl, ?_, hv⟩, ?_, by rw [List.length_map]; exact h1⟩
  · have := hv.length
    have h3 : its.size = ss.length := by simpa using this.symm
    rw [h3]
    exact h1
  · clear hv h1
    induction ss with
    | nil => exact trivial
    | cons s r ih => exact ⟨⟨rfl, h2 s List.mem_cons_self⟩, ih fun q hq => h2 q (List.mem_cons_of_mem _ hq)⟩
end
section
variable {X : L2.Cx} {c : Ec} {x : Sx} {pos : Pos} {a : Expr} {ra : Env → Wd → R Val}
/-- a, b = a list -/
def unlS (is : List Nat) (ra : Env → Wd → R Val) : Env → Wd → Out := fun ρ W => (dat (ra ρ W)).go ρ fun v w => match v with
  | .lst xs => (match sets ρ is xs with
    | some ρ => .nx ρ w
    | none => .st)
  | _ => .st
def tGL (X : L2.Cx) (c : Ec) (is : List Nat) : TG := fun v σ H Q => ∃ xs ρ μ W ρ', FR X.K c.N c.H0 H μ c.pn c.O σ ρ ∧ WR X.K c.N H μ W ∧ Rep X.K H (.lst xs) v ∧ sets ρ is xs = some ρ' ∧ ∀ σ', FR X.K c.N c.H0 H μ c.pn c.O σ' ρ' → Q σ' H
theorem jg_unl (G : Gd X c) (hh : c.hot = false) {es : List (Str × Pos)} {is : List Nat} {k : Nat} (h : NmOk X c es is) : PG X (.Tuple (nms es) k pos) (tGL X c is) := by
  refine ⟨fun pins s σ H v u Q I rv ⟨xs, ρ, μ, W, ρ', hF, hW, hr, e, q⟩ => (pg_lst (n := is.length) (G.calm hh) (pgs_nm G h) (by rw [assignEach_len, h.len]) (assignEach_find _ _)).run pins s σ H v u Q I rv ?_⟩
  obtain ⟨a, vs, rfl, g1, g2, _⟩ := (show ∃ a vs, v = .ref a ∧ LstZ H a vs ∧ RepL X.K H xs vs ∧ _ from hr)
  exact ⟨a, vs, rfl, .inl g1.rd, by rw [← g2.length]; exact sets_len e, xs, ρ, μ, W, ρ', hF, hW, g2, e, q⟩
theorem js_unl (G : Gd X c) (hh : c.hot = false) (htr : ∀ Oe, x.tr = some Oe → Oe = c.O) {es : List (Str × Pos)} {is : List Nat} {kt : Nat} {pt : Pos} (h : NmOk X c es is) (he : JE X c .z a ra)
    (hs : swapsWithSole [.Tuple (nms es) kt pt] a pos.line X.env = pure false) (hw : swappedStores [.Tuple (nms es) kt pt] a X.env = pure none) (h1 : (assignEach [.Tuple (nms es) kt pt] X.env).map (·.2) = [assign (.Tuple (nms es) kt pt) X.env]) :
    JS X c x c.O (.Assign [.Tuple (nms es) kt pt] a pos) (unlS is ra) := by
  refine ps_mono (ps_asg he (jg_unl G hh h) hs hw h1) ?_
  rintro D σ H ⟨ρ, μ, W, hF, hW, hS, h⟩
  refine ⟨ρ, μ, W, hF, hW, OutOk.goD (x := x) (Hs := H) htr hF hW hS h fun v W1 b H1 μ1 _ f1 st w s1 q h1 => ?_⟩
  cases v with
  | lst xs =>
    simp only at h1
    cases e : sets ρ is xs with
    | none => rw [e] at h1; exact h1.elim
    | some ρ' =>
      rw [e] at h1
      exact ⟨xs, ρ, μ1, W1, ρ', f1, w, q, e, fun σ' f => h1 σ' H1 μ1 f w s1 (Ext.refl H1)⟩
  | _ => exact h1.elim
end
end Rx
end
section
set_option Elab.async false
set_option linter.all false
set_option maxRecDepth 100000
set_option maxHeartbeats 1000000
/-! Rx len: how many a set of a list's whole numbers has. -/
namespace Rx
open PySem PySem.Spec PyProof.Rows L2
section
variable {X : L2.Cx} {c : Ec} {a : Expr} {ra : Env → Wd → R Val} {pos : Pos}
def rLenM (P : Program) (w : World) : List V → Hp → VK → Prop := fun vs H Q => ∃ (a : Addr) (ks : List Key), vs = [.ref a] ∧ H a = some (SetMO P w a ks) ∧ Q (.int (ks.length : Nat)) H
theorem cr_lenM : CallR X (.builtin "len") (rLenM X.prog X.w) := by
  intro pins s σ H vs us Q I r h
  obtain ⟨a, ks, rfl, ha, q⟩ := h
  rw [Vals.ref1 r]
  obtain ⟨o, es, ep, t, z1, z2, z3, z4, z5, z6, z7, z8, z9⟩ := setM_get I ha
  have hl : es.size = ks.length := by
    have := z5.length_eq
    rwa [List.length_map, Array.length_toList] at this
  have hb : scanBound = 4096 := rfl
  refine call_len_set z1 z2 z3 z8 (by omega) ⟨.int (ks.length : Nat), H, I.tok _, ⟨_, by rw [hl]⟩, q⟩
/-- a set's size, of a list of whole numbers -/
def lenSet : PV → Option PV
  | .lst xs => (intsO xs).bind fun is => if Nat.blt is.length 4000 then some (.int ((addsK [] (is.map Sum.inl)).length : Nat)) else none
  | _ => none
theorem je_lenset (G : Gd X c) (hh : c.hot = false) {p p2 pos2 : Pos} (hg : Gl X "len") (hm : X.mg "len" = none) (hg2 : Gl X "set") (hm2 : X.mg "set" = none) (ha : JE X c .b a ra) (hst : starEach [a] X.env = (false, eval a X.env) :: starEach [] X.env)
    (hst2 : starEach [.Call (.Name "set" p2) [a] [] pos2] X.env = (false, eval (.Call (.Name "set" p2) [a] [] pos2) X.env) :: starEach [] X.env) :
    JE X c .f (.Call (.Name "len" p) [.Call (.Name "set" p2) [a] [] pos2] [] pos) (ap1R lenSet ra) := by
  have h1 := pe_callTy (p := p2) (pos := pos2) (cr_setM (X := X) (G.calm hh)) hg2 hm2 (by decide +kernel) (pa_cons ha pa_nil hst) (by decide) (by decide) hst rfl
  have h2 := pe_callB (p := p) (pos := pos) (cr_lenM (X := X)) hg hm (by decide +kernel) (pa_cons h1 pa_nil hst2) (by decide) (by decide) hst2 rfl
  refine pe_mono h2 fun σ H Q ⟨ρ, μ, W, hF, hW, hA⟩ => ⟨ρ, μ, W, hF, hW, hA.bindD fun px W1 x H1 μ1 _ s1 w1 r1 hA1 => ?_⟩
  obtain ⟨v, e, hA1⟩ := hA1.ofo
  obtain ⟨pz, e1, rfl⟩ := Option.map_eq_some_iff.mp e
  cases px with
  | lst ys =>
    have hb := RepF.toB r1
    obtain ⟨l, vs, rfl, k1, k2, hz⟩ := (show ∃ a vs, x = .ref a ∧ Rd H1 a (.lst vs) ∧ RepL X.K H1 ys vs ∧ ys.length ≤ sizeLine from hb)
    obtain ⟨is, es, e2⟩ := Option.bind_eq_some_iff.mp (show (intsO ys).bind _ = some pz from e1)
    split at e2
    · rename_i hcond
      rw [Nat.blt_eq] at hcond
      cases e2
      have ev := intsO_rep k2 es
      have ev : vs = (is.map Sum.inl).map kV := by rw [ev, List.map_map]; rfl
      rw [ev] at k1
      refine ⟨l, is.map Sum.inl, rfl, .inl k1, by rw [List.length_map]; have : scanBound = 4096 := rfl; omega, fun p hp => ?_⟩
      refine ⟨p, _, rfl, upd_same, ?_⟩
      obtain ⟨st1, _⟩ := Stp.new' (o := SetMO X.prog X.w p (addsK [] (is.map Sum.inl))) hp w1.there
      exact hA1 _ _ μ1 st1 (w1.new hp) rfl
    · cases e2
  | _ => cases e1
end
section
variable {X : L2.Cx} {pos : Pos}
theorem r_pat {z : Str} {y : List Nat} {k : Nat} {p q : Pos} (e : z.cps.toList = y) (h : Nat.ble y.length 16777216 = true) : PatR X (.MatchValue (.Constant (.str z) k p) q) fun t => hitL t [y] := pat_one e (by rw [sizeLine_eq]; exact Nat.le_of_ble_eq_true h)
theorem r_pats {z : Str} {y : List Nat} {k : Nat} {p q : Pos} {ps : List Pattern} {ys : List (List Nat)} (e : z.cps.toList = y) (h : Nat.ble y.length 16777216 = true) (hr : PatsR X ps fun t => hitL t ys) : PatsR X (.MatchValue (.Constant (.str z) k p) q :: ps) fun t => hitL t (y :: ys) :=
  pats_cons e (by rw [sizeLine_eq]; exact Nat.le_of_ble_eq_true h) hr
theorem r_gloT {c : Ec} {x : Str} {q : PV} (hg : Gl X x) (hm : ∃ u v, X.mg x = some u ∧ RelV v u ∧ ∀ H, Rep X.K H q v) (hd : (x == ("__debug__" : Str)) = false) : JE X c .z (.Name x pos) (cstR q) := by
  obtain ⟨u, v, h1, h2, h3⟩ := hm
  exact je_glo hg h1 h2 h3 hd
end
section
variable {X : L2.Cx} {c : Ec} {O : Nat → Bool} {s s2 s3 : Shared} {H H2 H3 H0 : Hp} {scope scope2 scope3 : Scope} {cenv cenv2 cenv3 : PySem.Env} {fp fp2 fp3 : List Addr} {Nn : Nm}
theorem Gd.blk2 (G : Gd X c) (hc : X.calm = true) : Gd ((X.blk s H scope cenv fp).blk s2 H2 scope2 cenv2 fp2) ⟨Nn, O, H0, fun _ _ _ _ => False, false, []⟩ :=
  Gd.blk (Gd.blk (Nn := Nn) (O := O) (H0 := H0) G hc) hc
theorem Gd.blk3 (G : Gd X c) (hc : X.calm = true) : Gd (((X.blk s H scope cenv fp).blk s2 H2 scope2 cenv2 fp2).blk s3 H3 scope3 cenv3 fp3) ⟨Nn, O, H0, fun _ _ _ _ => False, false, []⟩ :=
  Gd.blk (Gd.blk2 (Nn := Nn) (O := O) (H0 := H0) G hc) hc
end
end Rx
end
section
set_option Elab.async false
set_option linter.all false
set_option maxRecDepth 100000
set_option maxHeartbeats 4000000
namespace K04
open PySem PySem.Spec PyProof.Rows L2 Rx
def top (i : Nat) : Stmt := PySem.Challenge.pw_sealedstore_k04_whole_recipes.main.body.getD i (.Pass ⟨0, 0, 0, 0⟩)
def nm (Cx : Nat → Addr) : Nm := ⟨fun _ => "", Cx, fun k => match k with  | _ => []⟩
structure Tx (P : Program) (w : World) (K : PySem.W.Frag) (mg : Str → Option Value) (base : Heap) (Cx : Nat → Addr) : Prop where
  n_all : mg "all" = none
  n_any : mg "any" = none
  n_bool : mg "bool" = none
  n_int : mg "int" = none
  n_isinstance : mg "isinstance" = none
  n_len : mg "len" = none
  n_range : mg "range" = none
  n_set : mg "set" = none
  n_str : mg "str" = none
  n_sum : mg "sum" = none
  n_tuple : mg "tuple" = none
  c_FIGURES : ∃ t, mg "FIGURES" = some (.str (tx [48, 49, 50, 51, 52, 53, 54, 55, 56, 57]) t)
  c_LETTERS : ∃ t, mg "LETTERS" = some (.str (tx [97, 98, 99, 100, 101, 102, 103, 104, 105, 106, 107, 108, 109, 110, 111, 112, 113, 114, 115, 116, 117, 118, 119, 120, 121, 122]) t)
  c_MOST_NAME : ∃ t, mg "MOST_NAME" = some (.int 8 t)
  c_MOST_NUMBER : ∃ t, mg "MOST_NUMBER" = some (.int 1000000 t)
  c_MOST_TEXT : ∃ t, mg "MOST_TEXT" = some (.int 30 t)
  c_PUBLIC : ∃ u v, mg "PUBLIC" = some u ∧ RelV v u ∧ ∀ H, Rep K H (.tup [(.str [110, 97, 109, 101]), (.str [110, 117, 109, 98, 101, 114]), (.str [116, 101, 120, 116])]) v
  c_UNKNOWN : ∃ u v, mg "UNKNOWN" = some u ∧ RelV v u ∧ ∀ H, Rep K H (.tup [(.str [107, 101, 121]), (.str [110, 111, 110, 99, 101]), (.str [115, 101, 99, 114, 101, 116])]) v
  d__law_cell_at : DefAt K mg "_law_cell_at" (top 25)
  d__law_draw : DefAt K mg "_law_draw" (top 26)
  d__law_number : DefAt K mg "_law_number" (top 27)
  d__law_next : DefAt K mg "_law_next" (top 28)
  d__law_pick : DefAt K mg "_law_pick" (top 29)
  d__law_term : DefAt K mg "_law_term" (top 30)
  d__law_recipe : DefAt K mg "_law_recipe" (top 32)
  d_is_public : DefAt K mg "is_public" (top 15)
  d_recipe_size : DefAt K mg "recipe_size" (top 23)
  d__law_size : DefAt K mg "_law_size" (top 33)
  d_join_of : DefAt K mg "join_of" (top 20)
  d_done : DefAt K mg "done" (top 19)
  d_run : DefAt K mg "run" (top 18)
  d__law_run : DefAt K mg "_law_run" (top 31)
  d_is_row : DefAt K mg "is_row" (top 7)
  d_is_whole : DefAt K mg "is_whole" (top 5)
  d_is_from : DefAt K mg "is_from" (top 6)
  d_is_words : DefAt K mg "is_words" (top 9)
  d_is_name : DefAt K mg "is_name" (top 8)
  d_is_atom : DefAt K mg "is_atom" (top 14)
  d_is_recipe : DefAt K mg "is_recipe" (top 17)
  d_holds : DefAt K mg "holds" (top 21)
  d_is_test : DefAt K mg "is_test" (top 22)
  d_law : DefAt K mg "law" (top 34)
section
variable {P : Program} {w : World} {K : PySem.W.Frag} {mg : Str → Option Value} {base : Heap} {Cx : Nat → Addr}
/-! ### _law_cell_at -/
abbrev N__law_cell_at : List Str := ["script", "k"]
theorem sc__law_cell_at : FnScope N__law_cell_at ["script", "k"] (defScope (top 25)) := ⟨rfl, rfl, rfl, by decide +kernel, rfl, by decide +kernel, by decide +kernel⟩
def b__law_cell_at : RS := (seqR (ifR (cmpR .lt (varR 1) (ap1R (builtin .len) (varR 0))) (seqR (retR (ixR (varR 0) (varR 1))) nopR) nopR) (seqR (retR (cstR (.int 0))) nopR))
def f__law_cell_at : List Val → Wd → R Val := fixR 2 2 b__law_cell_at
theorem k__law_cell_at (T : Tx P w K mg base Cx) : FnK P w K mg base (nm Cx) "_law_cell_at" 1 f__law_cell_at := by
  refine fnk_fix T.d__law_cell_at sc__law_cell_at (O := ow []) (by decide) (by decide) (fun _ _ _ _ _ _ us hl => match us, hl with | [_, _], _ => rfl) ?_
  intro a cdv A outer s H E μ hr
  have G := gd_cx (P := P) (w := w) (K := K) (mg := mg) (base := base) (Nn := nm Cx) (N := N__law_cell_at) (O := ow []) (outer := outer) (H := H) (E := E) sc__law_cell_at.nd hr
  have o := of_cx (P := P) (w := w) (K := K) (mg := mg) (base := base) (N := N__law_cell_at) (outer := outer) (H := H) (E := E) hr
  have hp : PassesOwn (model P w) _ _ _ := passes_of (X := cxOf (L2.CX P w) P w K mg base N__law_cell_at "_law_cell_at" (defScope (top 25)) a cdv A outer s H E) rfl
  unfold b__law_cell_at
  exact ⟨ow [], (r_seq (r_if no_tr (jt_cmp G (o := .lt) (JE.toB (r_var (i := 1) rfl (.inl rfl) rfl rfl rfl)) (JE.toB (je_bi G (b := .len) (.inl rfl) rfl rfl T.n_len (JE.toB (r_var (i := 0) rfl (.inl rfl) rfl rfl rfl)) rfl)) rfl) (r_one (r_ret no_tr (je_ix G (JE.toB (r_var (i := 0) rfl (.inl rfl) rfl rfl rfl)) (JE.toB (r_var (i := 1) rfl (.inl rfl) rfl rfl rfl)) (fun _ _ => rfl)))) (r_end rfl)) (r_one (r_ret no_tr r_int)))⟩
/-! ### _law_draw -/
abbrev N__law_draw : List Str := ["cell", "k", "bound", "primes"]
theorem sc__law_draw : FnScope N__law_draw ["cell", "k", "bound"] (defScope (top 26)) := ⟨rfl, rfl, rfl, by decide +kernel, rfl, by decide +kernel, by decide +kernel⟩
def b__law_draw : RS := (seqR (setR 3 (tupR (consR (cstR (.int 1000003)) (consR (cstR (.int 1000033)) (consR (cstR (.int 1000037)) (consR (cstR (.int 1000039)) (consR (cstR (.int 1000081)) (consR (cstR (.int 1000099)) (consR (cstR (.int 1000117)) (consR (cstR (.int 1000121)) (consR (cstR (.int 1000133)) (consR (cstR (.int 1000151)) (consR (cstR (.int 1000159)) (consR (cstR (.int 1000171)) (consR (cstR (.int 1000183)) (consR (cstR (.int 1000187)) (consR (cstR (.int 1000193)) (consR (cstR (.int 1000199)) nilR)))))))))))))))))) (seqR (retR (binR .mod (binR .mod (ap1R (builtin .int) (binR .add (binR .mul (varR 0) (cstR (.int 48271))) (binR .mul (varR 1) (cstR (.int 69621))))) (ixR (varR 3) (binR .mod (ap1R (builtin .int) (varR 1)) (cstR (.int 16))))) (varR 2))) nopR))
def f__law_draw : List Val → Wd → R Val := fixR 3 4 b__law_draw
theorem k__law_draw (T : Tx P w K mg base Cx) : FnK P w K mg base (nm Cx) "_law_draw" 1 f__law_draw := by
  refine fnk_fix T.d__law_draw sc__law_draw (O := ow []) (by decide) (by decide) (fun _ _ _ _ _ _ us hl => match us, hl with | [_, _, _], _ => rfl) ?_
  intro a cdv A outer s H E μ hr
  have G := gd_cx (P := P) (w := w) (K := K) (mg := mg) (base := base) (Nn := nm Cx) (N := N__law_draw) (O := ow []) (outer := outer) (H := H) (E := E) sc__law_draw.nd hr
  have o := of_cx (P := P) (w := w) (K := K) (mg := mg) (base := base) (N := N__law_draw) (outer := outer) (H := H) (E := E) hr
  have hp : PassesOwn (model P w) _ _ _ := passes_of (X := cxOf (L2.CX P w) P w K mg base N__law_draw "_law_draw" (defScope (top 26)) a cdv A outer s H E) rfl
  unfold b__law_draw
  exact ⟨ow [], (r_seq (r_set G no_tr (i := 3) rfl (.inl rfl) (.inl rfl) rfl rfl (je_tup (ja_cons r_int (ja_cons r_int (ja_cons r_int (ja_cons r_int (ja_cons r_int (ja_cons r_int (ja_cons r_int (ja_cons r_int (ja_cons r_int (ja_cons r_int (ja_cons r_int (ja_cons r_int (ja_cons r_int (ja_cons r_int (ja_cons r_int (ja_cons r_int r_nil rfl) rfl) rfl) rfl) rfl) rfl) rfl) rfl) rfl) rfl) rfl) rfl) rfl) rfl) rfl) rfl))) (r_one (r_ret no_tr (JE.toZ (r_bin G .mod (JE.toB (r_bin G .mod (JE.toB (je_bi G (b := .int) (.inl rfl) rfl rfl T.n_int (JE.toB (r_bin G .add (JE.toB (r_bin G .mul (JE.toB (r_var (i := 0) rfl (.inl rfl) rfl rfl rfl)) (JE.toB r_int))) (JE.toB (r_bin G .mul (JE.toB (r_var (i := 1) rfl (.inl rfl) rfl rfl rfl)) (JE.toB r_int))))) rfl)) (JE.toB (je_ix G (JE.toB (r_var (i := 3) rfl (.inl rfl) rfl rfl rfl)) (JE.toB (r_bin G .mod (JE.toB (je_bi G (b := .int) (.inl rfl) rfl rfl T.n_int (JE.toB (r_var (i := 1) rfl (.inl rfl) rfl rfl rfl)) rfl)) (JE.toB r_int))) (fun _ _ => rfl))))) (JE.toB (r_var (i := 2) rfl (.inl rfl) rfl rfl rfl)))))))⟩
/-! ### _law_number -/
abbrev N__law_number : List Str := ["cell", "k", "bound", "scale", "lap", "remains", "small"]
theorem sc__law_number : FnScope N__law_number ["cell", "k", "bound"] (defScope (top 27)) := ⟨rfl, rfl, rfl, by decide +kernel, rfl, by decide +kernel, by decide +kernel⟩
def b__law_number : RS := (seqR (setR 3 (cstR (.int 1))) (seqR (forR (rngR (cstR (.int 0)) (binR .mod (ap1R (builtin .int) (varR 1)) (cstR (.int 24)))) (.nm 4) (seqR (setR 3 (binR .mul (varR 3) (cstR (.int 1009)))) nopR)) (seqR (setR 5 (binR .fdiv (binR .sub (varR 0) (binR .pow (cstR (.int 10)) (cstR (.int 18)))) (varR 3))) (seqR (ifR (cmpR .gt (varR 5) (cstR (.int 0))) (seqR (retR (binR .mod (binR .mod (ap1R (builtin .int) (varR 5)) (cstR (.int 1009))) (varR 2))) nopR) nopR) (seqR (setR 6 (binR .mod (ap1R (builtin .int) (varR 0)) (cstR (.int 1000003)))) (seqR (retR (binR .mod (callR f__law_draw (consR (binR .mul (binR .add (varR 6) (binR .mul (cstR (.int 977)) (varR 1))) (binR .add (binR .add (varR 6) (binR .mul (cstR (.int 31)) (varR 1))) (cstR (.int 5)))) (consR (binR .add (binR .mod (ap1R (builtin .int) (varR 1)) (cstR (.int 9))) (cstR (.int 1))) (consR (cstR (.int 999983)) nilR)))) (varR 2))) nopR))))))
def f__law_number : List Val → Wd → R Val := fixR 3 7 b__law_number
theorem k__law_number (T : Tx P w K mg base Cx) : FnK P w K mg base (nm Cx) "_law_number" 2 f__law_number := by
  refine fnk_fix T.d__law_number sc__law_number (O := ow []) (by decide) (by decide) (fun _ _ _ _ _ _ us hl => match us, hl with | [_, _, _], _ => rfl) ?_
  intro a cdv A outer s H E μ hr
  have G := gd_cx (P := P) (w := w) (K := K) (mg := mg) (base := base) (Nn := nm Cx) (N := N__law_number) (O := ow []) (outer := outer) (H := H) (E := E) sc__law_number.nd hr
  have o := of_cx (P := P) (w := w) (K := K) (mg := mg) (base := base) (N := N__law_number) (outer := outer) (H := H) (E := E) hr
  have hp : PassesOwn (model P w) _ _ _ := passes_of (X := cxOf (L2.CX P w) P w K mg base N__law_number "_law_number" (defScope (top 27)) a cdv A outer s H E) rfl
  unfold b__law_number
  exact ⟨ow [], (r_seq (r_set G no_tr (i := 3) rfl (.inl rfl) (.inl rfl) rfl rfl r_int) (r_seq (js_for G rfl hp no_tr (r_rng1 G rfl T.n_range (JE.toZ (r_bin G .mod (JE.toB (je_bi G (b := .int) (.inl rfl) rfl rfl T.n_int (JE.toB (r_var (i := 1) rfl (.inl rfl) rfl rfl rfl)) rfl)) (JE.toB r_int))) rfl) (jg_nm G (i := 4) rfl (.inl rfl) (.inl rfl) rfl) (r_seq (r_set G no_tr (i := 3) rfl (.inl rfl) (.inl rfl) rfl rfl (JE.toZ (r_bin G .mul (JE.toB (r_var (i := 3) rfl (.inl rfl) rfl rfl rfl)) (JE.toB r_int)))) (r_end rfl)) (fun _ => rfl)) (r_seq (r_set G no_tr (i := 5) rfl (.inl rfl) (.inl rfl) rfl rfl (JE.toZ (r_bin G .fdiv (JE.toB (r_bin G .sub (JE.toB (r_var (i := 0) rfl (.inl rfl) rfl rfl rfl)) (JE.toB (r_bin G .pow (JE.toB r_int) (JE.toB r_int))))) (JE.toB (r_var (i := 3) rfl (.inl rfl) rfl rfl rfl))))) (r_seq (r_if no_tr (jt_cmp G (o := .gt) (JE.toB (r_var (i := 5) rfl (.inl rfl) rfl rfl rfl)) (JE.toB r_int) rfl) (r_one (r_ret no_tr (JE.toZ (r_bin G .mod (JE.toB (r_bin G .mod (JE.toB (je_bi G (b := .int) (.inl rfl) rfl rfl T.n_int (JE.toB (r_var (i := 5) rfl (.inl rfl) rfl rfl rfl)) rfl)) (JE.toB r_int))) (JE.toB (r_var (i := 2) rfl (.inl rfl) rfl rfl rfl)))))) (r_end rfl)) (r_seq (r_set G no_tr (i := 6) rfl (.inl rfl) (.inl rfl) rfl rfl (JE.toZ (r_bin G .mod (JE.toB (je_bi G (b := .int) (.inl rfl) rfl rfl T.n_int (JE.toB (r_var (i := 0) rfl (.inl rfl) rfl rfl rfl)) rfl)) (JE.toB r_int)))) (r_one (r_ret no_tr (JE.toZ (r_bin G .mod (JE.toB (je_call G ((k__law_draw T).at o rfl (by decide)) rfl rfl (ja_cons (JE.toZ (r_bin G .mul (JE.toB (r_bin G .add (JE.toB (r_var (i := 6) rfl (.inl rfl) rfl rfl rfl)) (JE.toB (r_bin G .mul (JE.toB r_int) (JE.toB (r_var (i := 1) rfl (.inl rfl) rfl rfl rfl)))))) (JE.toB (r_bin G .add (JE.toB (r_bin G .add (JE.toB (r_var (i := 6) rfl (.inl rfl) rfl rfl rfl)) (JE.toB (r_bin G .mul (JE.toB r_int) (JE.toB (r_var (i := 1) rfl (.inl rfl) rfl rfl rfl)))))) (JE.toB r_int))))) (ja_cons (JE.toZ (r_bin G .add (JE.toB (r_bin G .mod (JE.toB (je_bi G (b := .int) (.inl rfl) rfl rfl T.n_int (JE.toB (r_var (i := 1) rfl (.inl rfl) rfl rfl rfl)) rfl)) (JE.toB r_int))) (JE.toB r_int))) (ja_cons r_int r_nil rfl) rfl) rfl) rfl)) (JE.toB (r_var (i := 2) rfl (.inl rfl) rfl rfl rfl)))))))))))⟩
/-! ### _law_next -/
abbrev N__law_next : List Str := ["draw", "bound", "at", "cell"]
theorem sc__law_next : FnScope N__law_next ["draw", "bound"] (defScope (top 28)) := ⟨rfl, rfl, rfl, by decide +kernel, rfl, by decide +kernel, by decide +kernel⟩
def b__law_next : RS := (seqR (wputR 0 (cstR (.int 2)) (binR .add (ixR (varR 0) (cstR (.int 2))) (cstR (.int 1)))) (seqR (setR 2 (binR .fdiv (ixR (varR 0) (cstR (.int 2))) (cstR (.int 12)))) (seqR (setR 3 (binR .add (callR f__law_cell_at (consR (ixR (varR 0) (cstR (.int 0))) (consR (binR .add (ixR (varR 0) (cstR (.int 1))) (varR 2)) nilR))) (binR .mul (cstR (.int 31)) (varR 2)))) (seqR (retR (callR f__law_number (consR (varR 3) (consR (binR .add (binR .mod (ap1R (builtin .int) (ixR (varR 0) (cstR (.int 2)))) (cstR (.int 12))) (cstR (.int 1))) (consR (varR 1) nilR))))) nopR))))
def f__law_next : List Val → Wd → R Val := fixR 2 4 b__law_next
theorem k__law_next (T : Tx P w K mg base Cx) : FnK P w K mg base (nm Cx) "_law_next" 3 f__law_next := by
  refine fnk_fix T.d__law_next sc__law_next (O := ow []) (by decide) (by decide) (fun _ _ _ _ _ _ us hl => match us, hl with | [_, _], _ => rfl) ?_
  intro a cdv A outer s H E μ hr
  have G := gd_cx (P := P) (w := w) (K := K) (mg := mg) (base := base) (Nn := nm Cx) (N := N__law_next) (O := ow []) (outer := outer) (H := H) (E := E) sc__law_next.nd hr
  have o := of_cx (P := P) (w := w) (K := K) (mg := mg) (base := base) (N := N__law_next) (outer := outer) (H := H) (E := E) hr
  have hp : PassesOwn (model P w) _ _ _ := passes_of (X := cxOf (L2.CX P w) P w K mg base N__law_next "_law_next" (defScope (top 28)) a cdv A outer s H E) rfl
  unfold b__law_next
  exact ⟨ow [], (r_seq (js_wput G no_tr (i := 0) rfl (.inl rfl) rfl rfl rfl rfl rfl rfl r_int (JE.toZ (r_bin G .add (JE.toB (je_ix G (JE.toB (r_var (i := 0) rfl (.inl rfl) rfl rfl rfl)) (JE.toB r_int) (fun _ _ => rfl))) (JE.toB r_int)))) (r_seq (r_set G no_tr (i := 2) rfl (.inl rfl) (.inl rfl) rfl rfl (JE.toZ (r_bin G .fdiv (JE.toB (je_ix G (JE.toB (r_var (i := 0) rfl (.inl rfl) rfl rfl rfl)) (JE.toB r_int) (fun _ _ => rfl))) (JE.toB r_int)))) (r_seq (r_set G no_tr (i := 3) rfl (.inl rfl) (.inl rfl) rfl rfl (JE.toZ (r_bin G .add (JE.toB (je_call G ((k__law_cell_at T).at o rfl (by decide)) rfl rfl (ja_cons (je_ix G (JE.toB (r_var (i := 0) rfl (.inl rfl) rfl rfl rfl)) (JE.toB r_int) (fun _ _ => rfl)) (ja_cons (JE.toZ (r_bin G .add (JE.toB (je_ix G (JE.toB (r_var (i := 0) rfl (.inl rfl) rfl rfl rfl)) (JE.toB r_int) (fun _ _ => rfl))) (JE.toB (r_var (i := 2) rfl (.inl rfl) rfl rfl rfl)))) r_nil rfl) rfl) rfl)) (JE.toB (r_bin G .mul (JE.toB r_int) (JE.toB (r_var (i := 2) rfl (.inl rfl) rfl rfl rfl))))))) (r_one (r_ret no_tr (je_call G ((k__law_number T).at o rfl (by decide)) rfl rfl (ja_cons (r_var (i := 3) rfl (.inl rfl) rfl rfl rfl) (ja_cons (JE.toZ (r_bin G .add (JE.toB (r_bin G .mod (JE.toB (je_bi G (b := .int) (.inl rfl) rfl rfl T.n_int (JE.toB (je_ix G (JE.toB (r_var (i := 0) rfl (.inl rfl) rfl rfl rfl)) (JE.toB r_int) (fun _ _ => rfl))) rfl)) (JE.toB r_int))) (JE.toB r_int))) (ja_cons (r_var (i := 1) rfl (.inl rfl) rfl rfl rfl) r_nil rfl) rfl) rfl) rfl))))))⟩
/-! ### _law_pick -/
abbrev N__law_pick : List Str := ["draw", "things"]
theorem sc__law_pick : FnScope N__law_pick ["draw", "things"] (defScope (top 29)) := ⟨rfl, rfl, rfl, by decide +kernel, rfl, by decide +kernel, by decide +kernel⟩
def b__law_pick : RS := (seqR (retR (ixR (varR 1) (callR f__law_next (consR (varR 0) (consR (ap1R (builtin .len) (varR 1)) nilR))))) nopR)
def f__law_pick : List Val → Wd → R Val := fixR 2 2 b__law_pick
theorem k__law_pick (T : Tx P w K mg base Cx) : FnK P w K mg base (nm Cx) "_law_pick" 4 f__law_pick := by
  refine fnk_fix T.d__law_pick sc__law_pick (O := ow []) (by decide) (by decide) (fun _ _ _ _ _ _ us hl => match us, hl with | [_, _], _ => rfl) ?_
  intro a cdv A outer s H E μ hr
  have G := gd_cx (P := P) (w := w) (K := K) (mg := mg) (base := base) (Nn := nm Cx) (N := N__law_pick) (O := ow []) (outer := outer) (H := H) (E := E) sc__law_pick.nd hr
  have o := of_cx (P := P) (w := w) (K := K) (mg := mg) (base := base) (N := N__law_pick) (outer := outer) (H := H) (E := E) hr
  have hp : PassesOwn (model P w) _ _ _ := passes_of (X := cxOf (L2.CX P w) P w K mg base N__law_pick "_law_pick" (defScope (top 29)) a cdv A outer s H E) rfl
  unfold b__law_pick
  exact ⟨ow [], (r_one (r_ret no_tr (je_ix G (JE.toB (r_var (i := 1) rfl (.inl rfl) rfl rfl rfl)) (JE.toB (je_call G ((k__law_next T).at o rfl (by decide)) rfl rfl (ja_cons (r_var (i := 0) rfl (.inl rfl) rfl rfl rfl) (ja_cons (JE.toZ (je_bi G (b := .len) (.inl rfl) rfl rfl T.n_len (JE.toB (r_var (i := 1) rfl (.inl rfl) rfl rfl rfl)) rfl)) r_nil rfl) rfl) rfl)) (fun _ _ => rfl))))⟩
/-! ### _law_term -/
abbrev N__law_term : List Str := ["draw", "deep", "kind", "one"]
theorem sc__law_term : FnScope N__law_term ["draw", "deep"] (defScope (top 30)) := ⟨rfl, rfl, rfl, by decide +kernel, rfl, by decide +kernel, by decide +kernel⟩
def b__law_term (self : List Val → Wd → R Val) : RS := (seqR (setR 2 (callR f__law_next (consR (varR 0) (consR (iteR (cmpR .gt (varR 1) (cstR (.int 0))) (cstR (.int 16)) (cstR (.int 7))) nilR)))) (seqR (ifR (cmpR .eq (varR 2) (cstR (.int 0))) (seqR (retR (tupR (consR (cstR (.str [110, 97, 109, 101])) (consR (callR f__law_pick (consR (varR 0) (consR (lstR (consR (cstR (.str [97])) (consR (cstR (.str [98])) nilR))) nilR))) nilR)))) nopR) nopR) (seqR (ifR (cmpR .eq (varR 2) (cstR (.int 1))) (seqR (retR (tupR (consR (cstR (.str [110, 117, 109, 98, 101, 114])) (consR (callR f__law_next (consR (varR 0) (consR (cstR (.int 3)) nilR))) nilR)))) nopR) nopR) (seqR (ifR (cmpR .eq (varR 2) (cstR (.int 2))) (seqR (retR (tupR (consR (cstR (.str [116, 101, 120, 116])) (consR (callR f__law_pick (consR (varR 0) (consR (lstR (consR (cstR (.str [])) (consR (cstR (.str [121, 101, 115])) (consR (cstR (.str [110, 111])) nilR)))) nilR))) nilR)))) nopR) nopR) (seqR (ifR (cmpR .inn (varR 2) (tupR (consR (cstR (.int 3)) (consR (cstR (.int 4)) nilR)))) (seqR (retR (tupR (consR (cstR (.str [107, 101, 121])) (consR (callR f__law_pick (consR (varR 0) (consR (lstR (consR (cstR (.str [107])) (consR (cstR (.str [108])) nilR))) nilR))) nilR)))) nopR) nopR) (seqR (ifR (cmpR .eq (varR 2) (cstR (.int 5))) (seqR (retR (tupR (consR (cstR (.str [110, 111, 110, 99, 101])) (consR (callR f__law_pick (consR (varR 0) (consR (lstR (consR (cstR (.str [109])) (consR (cstR (.str [110])) nilR))) nilR))) nilR)))) nopR) nopR) (seqR (ifR (cmpR .eq (varR 2) (cstR (.int 6))) (seqR (retR (tupR (consR (cstR (.str [115, 101, 99, 114, 101, 116])) (consR (callR f__law_pick (consR (varR 0) (consR (lstR (consR (cstR (.str [112])) (consR (cstR (.str [113])) nilR))) nilR))) nilR)))) nopR) nopR) (seqR (setR 3 (callR self (consR (varR 0) (consR (binR .sub (varR 1) (cstR (.int 1))) nilR)))) (seqR (ifR (cmpR .inn (varR 2) (tupR (consR (cstR (.int 7)) (consR (cstR (.int 8)) nilR)))) (seqR (retR (tupR (consR (cstR (.str [104, 97, 115, 104])) (consR (varR 3) nilR)))) nopR) nopR) (seqR (ifR (cmpR .eq (varR 2) (cstR (.int 9))) (seqR (retR (tupR (consR (cstR (.str [108, 111, 99, 107])) (consR (callR f__law_pick (consR (varR 0) (consR (lstR (consR (cstR (.str [112])) (consR (cstR (.str [113])) nilR))) nilR))) (consR (varR 3) nilR))))) nopR) nopR) (seqR (ifR (cmpR .eq (varR 2) (cstR (.int 10))) (seqR (retR (tupR (consR (cstR (.str [115, 105, 103, 110])) (consR (callR f__law_pick (consR (varR 0) (consR (lstR (consR (cstR (.str [112])) (consR (cstR (.str [113])) nilR))) nilR))) (consR (varR 3) nilR))))) nopR) nopR) (seqR (ifR (cmpR .eq (varR 2) (cstR (.int 11))) (seqR (retR (tupR (consR (cstR (.str [115, 104, 97, 114, 101])) (consR (varR 3) (consR (binR .add (cstR (.int 1)) (callR f__law_next (consR (varR 0) (consR (cstR (.int 3)) nilR)))) (consR (binR .add (cstR (.int 1)) (callR f__law_next (consR (varR 0) (consR (cstR (.int 2)) nilR)))) nilR)))))) nopR) nopR) (seqR (retR (tupR (consR (iteR (cmpR .lt (varR 2) (cstR (.int 14))) (cstR (.str [112, 97, 105, 114])) (cstR (.str [115, 101, 97, 108]))) (consR (varR 3) (consR (callR self (consR (varR 0) (consR (binR .sub (varR 1) (cstR (.int 1))) nilR))) nilR))))) nopR)))))))))))))
def f__law_term : Nat → List Val → Wd → R Val
  | 0 => fun _ _ => .st
  | n + 1 => fixR 2 4 (b__law_term (f__law_term n))
theorem k__law_term (T : Tx P w K mg base Cx) : ∀ n : Nat, FnK P w K mg base (nm Cx) "_law_term" (4 + n) (f__law_term n)
  | 0 => (fnk_st T.d__law_term).up (Nat.zero_le _)
  | n + 1 => by
    have F := k__law_term T n
    refine fnk_fix (l := 4 + n) T.d__law_term sc__law_term (O := ow []) (by decide) (by decide) (fun _ _ _ _ _ _ us hl => match us, hl with | [_, _], _ => rfl) ?_
    intro a cdv A outer s H E μ hr
    have G := gd_cx (P := P) (w := w) (K := K) (mg := mg) (base := base) (Nn := nm Cx) (N := N__law_term) (O := ow []) (outer := outer) (H := H) (E := E) sc__law_term.nd hr
    have o := of_cx (P := P) (w := w) (K := K) (mg := mg) (base := base) (N := N__law_term) (outer := outer) (H := H) (E := E) hr
    have hp : PassesOwn (model P w) _ _ _ := passes_of (X := cxOf (L2.CX P w) P w K mg base N__law_term "_law_term" (defScope (top 30)) a cdv A outer s H E) rfl
    unfold b__law_term
    exact ⟨ow [], (r_seq (r_set G no_tr (i := 2) rfl (.inl rfl) (.inl rfl) rfl rfl (je_call G ((k__law_next T).at o rfl (by omega)) rfl rfl (ja_cons (r_var (i := 0) rfl (.inl rfl) rfl rfl rfl) (ja_cons (je_ite (jt_cmp G (o := .gt) (JE.toB (r_var (i := 1) rfl (.inl rfl) rfl rfl rfl)) (JE.toB r_int) rfl) r_int r_int) r_nil rfl) rfl) rfl)) (r_seq (r_if no_tr (jt_cmp G (o := .eq) (JE.toB (r_var (i := 2) rfl (.inl rfl) rfl rfl rfl)) (JE.toB r_int) rfl) (r_one (r_ret no_tr (je_tup (ja_cons (r_str rfl rfl) (ja_cons (je_call G ((k__law_pick T).at o rfl (by omega)) rfl rfl (ja_cons (r_var (i := 0) rfl (.inl rfl) rfl rfl rfl) (ja_cons (JE.toZ (je_lst (ja_cons (r_str rfl rfl) (ja_cons (r_str rfl rfl) r_nil rfl) rfl))) r_nil rfl) rfl) rfl) r_nil rfl) rfl)))) (r_end rfl)) (r_seq (r_if no_tr (jt_cmp G (o := .eq) (JE.toB (r_var (i := 2) rfl (.inl rfl) rfl rfl rfl)) (JE.toB r_int) rfl) (r_one (r_ret no_tr (je_tup (ja_cons (r_str rfl rfl) (ja_cons (je_call G ((k__law_next T).at o rfl (by omega)) rfl rfl (ja_cons (r_var (i := 0) rfl (.inl rfl) rfl rfl rfl) (ja_cons r_int r_nil rfl) rfl) rfl) r_nil rfl) rfl)))) (r_end rfl)) (r_seq (r_if no_tr (jt_cmp G (o := .eq) (JE.toB (r_var (i := 2) rfl (.inl rfl) rfl rfl rfl)) (JE.toB r_int) rfl) (r_one (r_ret no_tr (je_tup (ja_cons (r_str rfl rfl) (ja_cons (je_call G ((k__law_pick T).at o rfl (by omega)) rfl rfl (ja_cons (r_var (i := 0) rfl (.inl rfl) rfl rfl rfl) (ja_cons (JE.toZ (je_lst (ja_cons (r_str rfl rfl) (ja_cons (r_str rfl rfl) (ja_cons (r_str rfl rfl) r_nil rfl) rfl) rfl))) r_nil rfl) rfl) rfl) r_nil rfl) rfl)))) (r_end rfl)) (r_seq (r_if no_tr (jt_cmp G (o := .inn) (JE.toB (r_var (i := 2) rfl (.inl rfl) rfl rfl rfl)) (JE.toB (je_tup (ja_cons r_int (ja_cons r_int r_nil rfl) rfl))) rfl) (r_one (r_ret no_tr (je_tup (ja_cons (r_str rfl rfl) (ja_cons (je_call G ((k__law_pick T).at o rfl (by omega)) rfl rfl (ja_cons (r_var (i := 0) rfl (.inl rfl) rfl rfl rfl) (ja_cons (JE.toZ (je_lst (ja_cons (r_str rfl rfl) (ja_cons (r_str rfl rfl) r_nil rfl) rfl))) r_nil rfl) rfl) rfl) r_nil rfl) rfl)))) (r_end rfl)) (r_seq (r_if no_tr (jt_cmp G (o := .eq) (JE.toB (r_var (i := 2) rfl (.inl rfl) rfl rfl rfl)) (JE.toB r_int) rfl) (r_one (r_ret no_tr (je_tup (ja_cons (r_str rfl rfl) (ja_cons (je_call G ((k__law_pick T).at o rfl (by omega)) rfl rfl (ja_cons (r_var (i := 0) rfl (.inl rfl) rfl rfl rfl) (ja_cons (JE.toZ (je_lst (ja_cons (r_str rfl rfl) (ja_cons (r_str rfl rfl) r_nil rfl) rfl))) r_nil rfl) rfl) rfl) r_nil rfl) rfl)))) (r_end rfl)) (r_seq (r_if no_tr (jt_cmp G (o := .eq) (JE.toB (r_var (i := 2) rfl (.inl rfl) rfl rfl rfl)) (JE.toB r_int) rfl) (r_one (r_ret no_tr (je_tup (ja_cons (r_str rfl rfl) (ja_cons (je_call G ((k__law_pick T).at o rfl (by omega)) rfl rfl (ja_cons (r_var (i := 0) rfl (.inl rfl) rfl rfl rfl) (ja_cons (JE.toZ (je_lst (ja_cons (r_str rfl rfl) (ja_cons (r_str rfl rfl) r_nil rfl) rfl))) r_nil rfl) rfl) rfl) r_nil rfl) rfl)))) (r_end rfl)) (r_seq (r_set G no_tr (i := 3) rfl (.inl rfl) (.inl rfl) rfl rfl (je_call G (F.at o rfl (by omega)) rfl rfl (ja_cons (r_var (i := 0) rfl (.inl rfl) rfl rfl rfl) (ja_cons (JE.toZ (r_bin G .sub (JE.toB (r_var (i := 1) rfl (.inl rfl) rfl rfl rfl)) (JE.toB r_int))) r_nil rfl) rfl) rfl)) (r_seq (r_if no_tr (jt_cmp G (o := .inn) (JE.toB (r_var (i := 2) rfl (.inl rfl) rfl rfl rfl)) (JE.toB (je_tup (ja_cons r_int (ja_cons r_int r_nil rfl) rfl))) rfl) (r_one (r_ret no_tr (je_tup (ja_cons (r_str rfl rfl) (ja_cons (r_var (i := 3) rfl (.inl rfl) rfl rfl rfl) r_nil rfl) rfl)))) (r_end rfl)) (r_seq (r_if no_tr (jt_cmp G (o := .eq) (JE.toB (r_var (i := 2) rfl (.inl rfl) rfl rfl rfl)) (JE.toB r_int) rfl) (r_one (r_ret no_tr (je_tup (ja_cons (r_str rfl rfl) (ja_cons (je_call G ((k__law_pick T).at o rfl (by omega)) rfl rfl (ja_cons (r_var (i := 0) rfl (.inl rfl) rfl rfl rfl) (ja_cons (JE.toZ (je_lst (ja_cons (r_str rfl rfl) (ja_cons (r_str rfl rfl) r_nil rfl) rfl))) r_nil rfl) rfl) rfl) (ja_cons (r_var (i := 3) rfl (.inl rfl) rfl rfl rfl) r_nil rfl) rfl) rfl)))) (r_end rfl)) (r_seq (r_if no_tr (jt_cmp G (o := .eq) (JE.toB (r_var (i := 2) rfl (.inl rfl) rfl rfl rfl)) (JE.toB r_int) rfl) (r_one (r_ret no_tr (je_tup (ja_cons (r_str rfl rfl) (ja_cons (je_call G ((k__law_pick T).at o rfl (by omega)) rfl rfl (ja_cons (r_var (i := 0) rfl (.inl rfl) rfl rfl rfl) (ja_cons (JE.toZ (je_lst (ja_cons (r_str rfl rfl) (ja_cons (r_str rfl rfl) r_nil rfl) rfl))) r_nil rfl) rfl) rfl) (ja_cons (r_var (i := 3) rfl (.inl rfl) rfl rfl rfl) r_nil rfl) rfl) rfl)))) (r_end rfl)) (r_seq (r_if no_tr (jt_cmp G (o := .eq) (JE.toB (r_var (i := 2) rfl (.inl rfl) rfl rfl rfl)) (JE.toB r_int) rfl) (r_one (r_ret no_tr (je_tup (ja_cons (r_str rfl rfl) (ja_cons (r_var (i := 3) rfl (.inl rfl) rfl rfl rfl) (ja_cons (JE.toZ (r_bin G .add (JE.toB r_int) (JE.toB (je_call G ((k__law_next T).at o rfl (by omega)) rfl rfl (ja_cons (r_var (i := 0) rfl (.inl rfl) rfl rfl rfl) (ja_cons r_int r_nil rfl) rfl) rfl)))) (ja_cons (JE.toZ (r_bin G .add (JE.toB r_int) (JE.toB (je_call G ((k__law_next T).at o rfl (by omega)) rfl rfl (ja_cons (r_var (i := 0) rfl (.inl rfl) rfl rfl rfl) (ja_cons r_int r_nil rfl) rfl) rfl)))) r_nil rfl) rfl) rfl) rfl)))) (r_end rfl)) (r_one (r_ret no_tr (je_tup (ja_cons (je_ite (jt_cmp G (o := .lt) (JE.toB (r_var (i := 2) rfl (.inl rfl) rfl rfl rfl)) (JE.toB r_int) rfl) (r_str rfl rfl) (r_str rfl rfl)) (ja_cons (r_var (i := 3) rfl (.inl rfl) rfl rfl rfl) (ja_cons (je_call G (F.at o rfl (by omega)) rfl rfl (ja_cons (r_var (i := 0) rfl (.inl rfl) rfl rfl rfl) (ja_cons (JE.toZ (r_bin G .sub (JE.toB (r_var (i := 1) rfl (.inl rfl) rfl rfl rfl)) (JE.toB r_int))) r_nil rfl) rfl) rfl) r_nil rfl) rfl) rfl))))))))))))))))⟩
/-! ### _law_recipe -/
abbrev N__law_recipe : List Str := ["draw", "many", "deep", "kind", "one", "other", "word"]
theorem sc__law_recipe : FnScope N__law_recipe ["draw", "many", "deep"] (defScope (top 32)) := ⟨rfl, rfl, rfl, by decide +kernel, rfl, by decide +kernel, by decide +kernel⟩
def b__law_recipe (self : List Val → Wd → R Val) : RS := (seqR (setR 3 (callR f__law_next (consR (varR 0) (consR (iteR (cmpR .gt (varR 2) (cstR (.int 0))) (cstR (.int 14)) (cstR (.int 3))) nilR)))) (seqR (ifR (andR (cmpR .lt (varR 3) (cstR (.int 2))) (cmpR .gt (varR 1) (cstR (.int 0)))) (seqR (retR (tupR (consR (cstR (.str [97, 116])) (consR (callR f__law_next (consR (varR 0) (consR (varR 1) nilR))) nilR)))) nopR) nopR) (seqR (ifR (cmpR .lt (varR 3) (cstR (.int 3))) (seqR (retR (callR f__law_pick (consR (varR 0) (consR (lstR (consR (tupR (consR (cstR (.str [110, 117, 109, 98, 101, 114])) (consR (cstR (.int 0)) nilR))) (consR (tupR (consR (cstR (.str [110, 97, 109, 101])) (consR (cstR (.str [97])) nilR))) (consR (tupR (consR (cstR (.str [116, 101, 120, 116])) (consR (cstR (.str [121, 101, 115])) nilR))) (consR (tupR (consR (cstR (.str [110, 117, 109, 98, 101, 114])) (consR (cstR (.int 1)) nilR))) nilR))))) nilR)))) nopR) nopR) (seqR (par2R 4 5 false false (callR self (consR (varR 0) (consR (varR 1) (consR (binR .sub (varR 2) (cstR (.int 1))) nilR)))) (callR self (consR (varR 0) (consR (varR 1) (consR (binR .sub (varR 2) (cstR (.int 1))) nilR))))) (seqR (setR 6 (ixR (lstR (consR (cstR (.str [112, 97, 105, 114])) (consR (cstR (.str [115, 101, 97, 108])) (consR (cstR (.str [104, 97, 115, 104])) (consR (cstR (.str [108, 111, 99, 107])) (consR (cstR (.str [115, 104, 97, 114, 101])) (consR (cstR (.str [115, 105, 103, 110])) (consR (cstR (.str [102, 105, 114, 115, 116])) (consR (cstR (.str [115, 101, 99, 111, 110, 100])) (consR (cstR (.str [111, 112, 101, 110])) (consR (cstR (.str [117, 110, 108, 111, 99, 107])) (consR (cstR (.str [98, 121])) nilR)))))))))))) (binR .sub (varR 3) (cstR (.int 3))))) (seqR (ifR (cmpR .inn (varR 6) (tupR (consR (cstR (.str [104, 97, 115, 104])) (consR (cstR (.str [102, 105, 114, 115, 116])) (consR (cstR (.str [115, 101, 99, 111, 110, 100])) nilR))))) (seqR (retR (tupR (consR (varR 6) (consR (varR 4) nilR)))) nopR) nopR) (seqR (ifR (cmpR .inn (varR 6) (tupR (consR (cstR (.str [108, 111, 99, 107])) (consR (cstR (.str [98, 121])) nilR)))) (seqR (retR (tupR (consR (varR 6) (consR (callR f__law_pick (consR (varR 0) (consR (lstR (consR (cstR (.str [112])) (consR (cstR (.str [113])) nilR))) nilR))) (consR (varR 4) nilR))))) nopR) nopR) (seqR (ifR (cmpR .eq (varR 6) (cstR (.str [115, 104, 97, 114, 101]))) (seqR (retR (iteR (cmpR .eq (callR f__law_next (consR (varR 0) (consR (cstR (.int 2)) nilR))) (cstR (.int 0))) (tupR (consR (varR 6) (consR (varR 4) (consR (binR .add (cstR (.int 1)) (callR f__law_next (consR (varR 0) (consR (cstR (.int 3)) nilR)))) (consR (binR .add (cstR (.int 1)) (callR f__law_next (consR (varR 0) (consR (cstR (.int 2)) nilR)))) nilR))))) (tupR (consR (cstR (.str [106, 111, 105, 110])) (consR (slR (tupR (consR (varR 4) (consR (varR 5) nilR))) noO (soO (binR .add (cstR (.int 1)) (callR f__law_next (consR (varR 0) (consR (cstR (.int 2)) nilR)))))) nilR))))) nopR) nopR) (seqR (retR (tupR (consR (varR 6) (consR (varR 4) (consR (varR 5) nilR))))) nopR)))))))))
def f__law_recipe : Nat → List Val → Wd → R Val
  | 0 => fun _ _ => .st
  | n + 1 => fixR 3 7 (b__law_recipe (f__law_recipe n))
theorem k__law_recipe (T : Tx P w K mg base Cx) : ∀ n : Nat, FnK P w K mg base (nm Cx) "_law_recipe" (4 + n) (f__law_recipe n)
  | 0 => (fnk_st T.d__law_recipe).up (Nat.zero_le _)
  | n + 1 => by
    have F := k__law_recipe T n
    refine fnk_fix (l := 4 + n) T.d__law_recipe sc__law_recipe (O := ow []) (by decide) (by decide) (fun _ _ _ _ _ _ us hl => match us, hl with | [_, _, _], _ => rfl) ?_
    intro a cdv A outer s H E μ hr
    have G := gd_cx (P := P) (w := w) (K := K) (mg := mg) (base := base) (Nn := nm Cx) (N := N__law_recipe) (O := ow []) (outer := outer) (H := H) (E := E) sc__law_recipe.nd hr
    have o := of_cx (P := P) (w := w) (K := K) (mg := mg) (base := base) (N := N__law_recipe) (outer := outer) (H := H) (E := E) hr
    have hp : PassesOwn (model P w) _ _ _ := passes_of (X := cxOf (L2.CX P w) P w K mg base N__law_recipe "_law_recipe" (defScope (top 32)) a cdv A outer s H E) rfl
    unfold b__law_recipe
    exact ⟨ow [], (r_seq (r_set G no_tr (i := 3) rfl (.inl rfl) (.inl rfl) rfl rfl (je_call G ((k__law_next T).at o rfl (by omega)) rfl rfl (ja_cons (r_var (i := 0) rfl (.inl rfl) rfl rfl rfl) (ja_cons (je_ite (jt_cmp G (o := .gt) (JE.toB (r_var (i := 2) rfl (.inl rfl) rfl rfl rfl)) (JE.toB r_int) rfl) r_int r_int) r_nil rfl) rfl) rfl)) (r_seq (r_if no_tr (PW.pt (jt_and (jt_cmp G (o := .lt) (JE.toB (r_var (i := 3) rfl (.inl rfl) rfl rfl rfl)) (JE.toB r_int) rfl) (pw_and1 (jt_cmp G (o := .gt) (JE.toB (r_var (i := 1) rfl (.inl rfl) rfl rfl rfl)) (JE.toB r_int) rfl)))) (r_one (r_ret no_tr (je_tup (ja_cons (r_str rfl rfl) (ja_cons (je_call G ((k__law_next T).at o rfl (by omega)) rfl rfl (ja_cons (r_var (i := 0) rfl (.inl rfl) rfl rfl rfl) (ja_cons (r_var (i := 1) rfl (.inl rfl) rfl rfl rfl) r_nil rfl) rfl) rfl) r_nil rfl) rfl)))) (r_end rfl)) (r_seq (r_if no_tr (jt_cmp G (o := .lt) (JE.toB (r_var (i := 3) rfl (.inl rfl) rfl rfl rfl)) (JE.toB r_int) rfl) (r_one (r_ret no_tr (je_call G ((k__law_pick T).at o rfl (by omega)) rfl rfl (ja_cons (r_var (i := 0) rfl (.inl rfl) rfl rfl rfl) (ja_cons (JE.toZ (je_lst (ja_cons (je_tup (ja_cons (r_str rfl rfl) (ja_cons r_int r_nil rfl) rfl)) (ja_cons (je_tup (ja_cons (r_str rfl rfl) (ja_cons (r_str rfl rfl) r_nil rfl) rfl)) (ja_cons (je_tup (ja_cons (r_str rfl rfl) (ja_cons (r_str rfl rfl) r_nil rfl) rfl)) (ja_cons (je_tup (ja_cons (r_str rfl rfl) (ja_cons r_int r_nil rfl) rfl)) r_nil rfl) rfl) rfl) rfl))) r_nil rfl) rfl) rfl))) (r_end rfl)) (r_seq (js_par2 G rfl no_tr (i := 4) (j := 5) (o1 := false) (o2 := false) rfl rfl (by decide) rfl rfl (fun _ _ => rfl) (fun _ _ => rfl) rfl rfl (fun _ => rfl) (fun _ => rfl) rfl rfl (je_call G (F.at o rfl (by omega)) rfl rfl (ja_cons (r_var (i := 0) rfl (.inl rfl) rfl rfl rfl) (ja_cons (r_var (i := 1) rfl (.inl rfl) rfl rfl rfl) (ja_cons (JE.toZ (r_bin G .sub (JE.toB (r_var (i := 2) rfl (.inl rfl) rfl rfl rfl)) (JE.toB r_int))) r_nil rfl) rfl) rfl) rfl) (je_call G (F.at o rfl (by omega)) rfl rfl (ja_cons (r_var (i := 0) rfl (.inl rfl) rfl rfl rfl) (ja_cons (r_var (i := 1) rfl (.inl rfl) rfl rfl rfl) (ja_cons (JE.toZ (r_bin G .sub (JE.toB (r_var (i := 2) rfl (.inl rfl) rfl rfl rfl)) (JE.toB r_int))) r_nil rfl) rfl) rfl) rfl) rfl rfl) (r_seq (r_set G no_tr (i := 6) rfl (.inl rfl) (.inl rfl) rfl rfl (je_ix G (JE.toB (je_lst (ja_cons (r_str rfl rfl) (ja_cons (r_str rfl rfl) (ja_cons (r_str rfl rfl) (ja_cons (r_str rfl rfl) (ja_cons (r_str rfl rfl) (ja_cons (r_str rfl rfl) (ja_cons (r_str rfl rfl) (ja_cons (r_str rfl rfl) (ja_cons (r_str rfl rfl) (ja_cons (r_str rfl rfl) (ja_cons (r_str rfl rfl) r_nil rfl) rfl) rfl) rfl) rfl) rfl) rfl) rfl) rfl) rfl) rfl))) (JE.toB (r_bin G .sub (JE.toB (r_var (i := 3) rfl (.inl rfl) rfl rfl rfl)) (JE.toB r_int))) (fun _ _ => rfl))) (r_seq (r_if no_tr (jt_cmp G (o := .inn) (JE.toB (r_var (i := 6) rfl (.inl rfl) rfl rfl rfl)) (JE.toB (je_tup (ja_cons (r_str rfl rfl) (ja_cons (r_str rfl rfl) (ja_cons (r_str rfl rfl) r_nil rfl) rfl) rfl))) rfl) (r_one (r_ret no_tr (je_tup (ja_cons (r_var (i := 6) rfl (.inl rfl) rfl rfl rfl) (ja_cons (r_var (i := 4) rfl (.inl rfl) rfl rfl rfl) r_nil rfl) rfl)))) (r_end rfl)) (r_seq (r_if no_tr (jt_cmp G (o := .inn) (JE.toB (r_var (i := 6) rfl (.inl rfl) rfl rfl rfl)) (JE.toB (je_tup (ja_cons (r_str rfl rfl) (ja_cons (r_str rfl rfl) r_nil rfl) rfl))) rfl) (r_one (r_ret no_tr (je_tup (ja_cons (r_var (i := 6) rfl (.inl rfl) rfl rfl rfl) (ja_cons (je_call G ((k__law_pick T).at o rfl (by omega)) rfl rfl (ja_cons (r_var (i := 0) rfl (.inl rfl) rfl rfl rfl) (ja_cons (JE.toZ (je_lst (ja_cons (r_str rfl rfl) (ja_cons (r_str rfl rfl) r_nil rfl) rfl))) r_nil rfl) rfl) rfl) (ja_cons (r_var (i := 4) rfl (.inl rfl) rfl rfl rfl) r_nil rfl) rfl) rfl)))) (r_end rfl)) (r_seq (r_if no_tr (jt_cmp G (o := .eq) (JE.toB (r_var (i := 6) rfl (.inl rfl) rfl rfl rfl)) (JE.toB (r_str rfl rfl)) rfl) (r_one (r_ret no_tr (je_ite (jt_cmp G (o := .eq) (JE.toB (je_call G ((k__law_next T).at o rfl (by omega)) rfl rfl (ja_cons (r_var (i := 0) rfl (.inl rfl) rfl rfl rfl) (ja_cons r_int r_nil rfl) rfl) rfl)) (JE.toB r_int) rfl) (je_tup (ja_cons (r_var (i := 6) rfl (.inl rfl) rfl rfl rfl) (ja_cons (r_var (i := 4) rfl (.inl rfl) rfl rfl rfl) (ja_cons (JE.toZ (r_bin G .add (JE.toB r_int) (JE.toB (je_call G ((k__law_next T).at o rfl (by omega)) rfl rfl (ja_cons (r_var (i := 0) rfl (.inl rfl) rfl rfl rfl) (ja_cons r_int r_nil rfl) rfl) rfl)))) (ja_cons (JE.toZ (r_bin G .add (JE.toB r_int) (JE.toB (je_call G ((k__law_next T).at o rfl (by omega)) rfl rfl (ja_cons (r_var (i := 0) rfl (.inl rfl) rfl rfl rfl) (ja_cons r_int r_nil rfl) rfl) rfl)))) r_nil rfl) rfl) rfl) rfl)) (je_tup (ja_cons (r_str rfl rfl) (ja_cons (JE.toZ (r_sl (JE.toB (je_tup (ja_cons (r_var (i := 4) rfl (.inl rfl) rfl rfl rfl) (ja_cons (r_var (i := 5) rfl (.inl rfl) rfl rfl rfl) r_nil rfl) rfl))) r_noO (r_soO (JE.toZ (r_bin G .add (JE.toB r_int) (JE.toB (je_call G ((k__law_next T).at o rfl (by omega)) rfl rfl (ja_cons (r_var (i := 0) rfl (.inl rfl) rfl rfl rfl) (ja_cons r_int r_nil rfl) rfl) rfl))))))) r_nil rfl) rfl))))) (r_end rfl)) (r_one (r_ret no_tr (je_tup (ja_cons (r_var (i := 6) rfl (.inl rfl) rfl rfl rfl) (ja_cons (r_var (i := 4) rfl (.inl rfl) rfl rfl rfl) (ja_cons (r_var (i := 5) rfl (.inl rfl) rfl rfl rfl) r_nil rfl) rfl) rfl))))))))))))⟩
/-! ### is_public -/
abbrev N_is_public : List Str := ["term"]
theorem sc_is_public : FnScope N_is_public ["term"] (defScope (top 15)) := ⟨rfl, rfl, rfl, by decide +kernel, rfl, by decide +kernel, by decide +kernel⟩
def b_is_public : RS := (seqR (retR (cmpR .inn (ixR (varR 0) (cstR (.int 0))) (cstR (.tup [(.str [110, 97, 109, 101]), (.str [110, 117, 109, 98, 101, 114]), (.str [116, 101, 120, 116])])))) nopR)
def f_is_public : List Val → Wd → R Val := fixR 1 1 b_is_public
theorem k_is_public (T : Tx P w K mg base Cx) : FnK P w K mg base (nm Cx) "is_public" 1 f_is_public := by
  refine fnk_fix T.d_is_public sc_is_public (O := ow []) (by decide) (by decide) (fun _ _ _ _ _ _ us hl => match us, hl with | [_], _ => rfl) ?_
  intro a cdv A outer s H E μ hr
  have G := gd_cx (P := P) (w := w) (K := K) (mg := mg) (base := base) (Nn := nm Cx) (N := N_is_public) (O := ow []) (outer := outer) (H := H) (E := E) sc_is_public.nd hr
  have o := of_cx (P := P) (w := w) (K := K) (mg := mg) (base := base) (N := N_is_public) (outer := outer) (H := H) (E := E) hr
  have hp : PassesOwn (model P w) _ _ _ := passes_of (X := cxOf (L2.CX P w) P w K mg base N_is_public "is_public" (defScope (top 15)) a cdv A outer s H E) rfl
  unfold b_is_public
  exact ⟨ow [], (r_one (r_ret no_tr (je_cmp G (o := .inn) (JE.toB (je_ix G (JE.toB (r_var (i := 0) rfl (.inl rfl) rfl rfl rfl)) (JE.toB r_int) (fun _ _ => rfl))) (JE.toB (r_gloT rfl T.c_PUBLIC rfl)) rfl)))⟩
/-! ### recipe_size -/
abbrev N_recipe_size : List Str := ["recipe", "one"]
theorem sc_recipe_size : FnScope N_recipe_size ["recipe"] (defScope (top 23)) := ⟨rfl, rfl, rfl, by decide +kernel, rfl, by decide +kernel, by decide +kernel⟩
def b_recipe_size (self : List Val → Wd → R Val) : RS := (seqR (ifR (orR (cmpR .eq (ixR (varR 0) (cstR (.int 0))) (cstR (.str [97, 116]))) (callR f_is_public (consR (varR 0) nilR))) (seqR (retR (cstR (.int 1))) nopR) nopR) (seqR (ifR (cmpR .eq (ixR (varR 0) (cstR (.int 0))) (cstR (.str [106, 111, 105, 110]))) (seqR (retR (binR .add (cstR (.int 1)) (ap1R (builtin .sum) (comp1R (itemsR (ixR (varR 0) (cstR (.int 1)))) (leafL (callR self (consR (varR 1) nilR))) (.nm 1) yesT [1] finL)))) nopR) nopR) (seqR (retR (binR .add (cstR (.int 1)) (ap1R (builtin .sum) (comp1R (itemsR (slR (varR 0) (soO (cstR (.int 1))) noO)) (leafL (callR self (consR (varR 1) nilR))) (.nm 1) (tst (ap1R (builtin .isTuple) (varR 1))) [1] finL)))) nopR)))
def f_recipe_size : Nat → List Val → Wd → R Val
  | 0 => fun _ _ => .st
  | n + 1 => fixR 1 2 (b_recipe_size (f_recipe_size n))
theorem k_recipe_size (T : Tx P w K mg base Cx) : ∀ n : Nat, FnK P w K mg base (nm Cx) "recipe_size" (1 + n) (f_recipe_size n)
  | 0 => (fnk_st T.d_recipe_size).up (Nat.zero_le _)
  | n + 1 => by
    have F := k_recipe_size T n
    refine fnk_fix (l := 1 + n) T.d_recipe_size sc_recipe_size (O := ow []) (by decide) (by decide) (fun _ _ _ _ _ _ us hl => match us, hl with | [_], _ => rfl) ?_
    intro a cdv A outer s H E μ hr
    have G := gd_cx (P := P) (w := w) (K := K) (mg := mg) (base := base) (Nn := nm Cx) (N := N_recipe_size) (O := ow []) (outer := outer) (H := H) (E := E) sc_recipe_size.nd hr
    have o := of_cx (P := P) (w := w) (K := K) (mg := mg) (base := base) (N := N_recipe_size) (outer := outer) (H := H) (E := E) hr
    have hp : PassesOwn (model P w) _ _ _ := passes_of (X := cxOf (L2.CX P w) P w K mg base N_recipe_size "recipe_size" (defScope (top 23)) a cdv A outer s H E) rfl
    unfold b_recipe_size
    exact ⟨ow [], (r_seq (r_if no_tr (PW.pt (jt_or (jt_cmp G (o := .eq) (JE.toB (je_ix G (JE.toB (r_var (i := 0) rfl (.inl rfl) rfl rfl rfl)) (JE.toB r_int) (fun _ _ => rfl))) (JE.toB (r_str rfl rfl)) rfl) (pw_or1 (jt_val (je_call G ((k_is_public T).at o rfl (by omega)) rfl rfl (ja_cons (r_var (i := 0) rfl (.inl rfl) rfl rfl rfl) r_nil rfl) rfl) (fun _ => rfl))))) (r_one (r_ret no_tr r_int)) (r_end rfl)) (r_seq (r_if no_tr (jt_cmp G (o := .eq) (JE.toB (je_ix G (JE.toB (r_var (i := 0) rfl (.inl rfl) rfl rfl rfl)) (JE.toB r_int) (fun _ _ => rfl))) (JE.toB (r_str rfl rfl)) rfl) (r_one (r_ret no_tr (JE.toZ (r_bin G .add (JE.toB r_int) (JE.toB (je_bi G (b := .sum) (.inr rfl) rfl rfl T.n_sum (JE.toB (r_lc1 G rfl (ji_val (je_ix G (JE.toB (r_var (i := 0) rfl (.inl rfl) rfl rfl rfl)) (JE.toB r_int) (fun _ _ => rfl))) (own := [("one", 1)]) (blk_ok (N := N_recipe_size) (sc := defScope (top 23)) (own := [("one", 1)]) (by decide +kernel)) (fun _ => rfl) (fun s H C cl fp H0 => (jg_nm (Gd.blk G rfl) (i := 1) rfl (.inl rfl) (.inr rfl) rfl)) (fun s H C cl fp H0 => r_yes) (fun s H C cl fp H0 => (je_call (Gd.blk G rfl) (F.at (Of.blk o) rfl (by omega)) rfl rfl (ja_cons (r_var (i := 1) rfl (.inl rfl) rfl rfl rfl) r_nil rfl) rfl)) rfl)) rfl)))))) (r_end rfl)) (r_one (r_ret no_tr (JE.toZ (r_bin G .add (JE.toB r_int) (JE.toB (je_bi G (b := .sum) (.inr rfl) rfl rfl T.n_sum (JE.toB (r_lc1 G rfl (ji_val (JE.toZ (r_sl (JE.toB (r_var (i := 0) rfl (.inl rfl) rfl rfl rfl)) (r_soO r_int) r_noO))) (own := [("one", 1)]) (blk_ok (N := N_recipe_size) (sc := defScope (top 23)) (own := [("one", 1)]) (by decide +kernel)) (fun _ => rfl) (fun s H C cl fp H0 => (jg_nm (Gd.blk G rfl) (i := 1) rfl (.inl rfl) (.inr rfl) rfl)) (fun s H C cl fp H0 => (r_tst (jt_val (je_is (Gd.blk G rfl) (b := .isTuple) rfl rfl T.n_isinstance rfl T.n_tuple (JE.toB (r_var (i := 1) rfl (.inl rfl) rfl rfl rfl)) rfl) (fun _ => rfl)))) (fun s H C cl fp H0 => (je_call (Gd.blk G rfl) (F.at (Of.blk o) rfl (by omega)) rfl rfl (ja_cons (r_var (i := 1) rfl (.inl rfl) rfl rfl rfl) r_nil rfl) rfl)) rfl)) rfl))))))))⟩
/-! ### _law_size -/
abbrev N__law_size : List Str := ["recipe", "one"]
theorem sc__law_size : FnScope N__law_size ["recipe"] (defScope (top 33)) := ⟨rfl, rfl, rfl, by decide +kernel, rfl, by decide +kernel, by decide +kernel⟩
def b__law_size (self : List Val → Wd → R Val) : RS := (seqR (ifR (cmpR .inn (ixR (varR 0) (cstR (.int 0))) (tupR (consR (cstR (.str [97, 116])) (consR (cstR (.str [110, 97, 109, 101])) (consR (cstR (.str [110, 117, 109, 98, 101, 114])) (consR (cstR (.str [116, 101, 120, 116])) nilR)))))) (seqR (retR (cstR (.int 1))) nopR) nopR) (seqR (ifR (cmpR .eq (ixR (varR 0) (cstR (.int 0))) (cstR (.str [106, 111, 105, 110]))) (seqR (retR (binR .add (cstR (.int 1)) (ap1R (builtin .sum) (comp1R (itemsR (ixR (varR 0) (cstR (.int 1)))) (leafL (callR self (consR (varR 1) nilR))) (.nm 1) yesT [1] finL)))) nopR) nopR) (seqR (retR (binR .add (cstR (.int 1)) (ap1R (builtin .sum) (comp1R (itemsR (slR (varR 0) (soO (cstR (.int 1))) noO)) (leafL (callR self (consR (varR 1) nilR))) (.nm 1) (tst (ap1R (builtin .isTuple) (varR 1))) [1] finL)))) nopR)))
def f__law_size : Nat → List Val → Wd → R Val
  | 0 => fun _ _ => .st
  | n + 1 => fixR 1 2 (b__law_size (f__law_size n))
theorem k__law_size (T : Tx P w K mg base Cx) : ∀ n : Nat, FnK P w K mg base (nm Cx) "_law_size" (0 + n) (f__law_size n)
  | 0 => (fnk_st T.d__law_size).up (Nat.zero_le _)
  | n + 1 => by
    have F := k__law_size T n
    refine fnk_fix (l := 0 + n) T.d__law_size sc__law_size (O := ow []) (by decide) (by decide) (fun _ _ _ _ _ _ us hl => match us, hl with | [_], _ => rfl) ?_
    intro a cdv A outer s H E μ hr
    have G := gd_cx (P := P) (w := w) (K := K) (mg := mg) (base := base) (Nn := nm Cx) (N := N__law_size) (O := ow []) (outer := outer) (H := H) (E := E) sc__law_size.nd hr
    have o := of_cx (P := P) (w := w) (K := K) (mg := mg) (base := base) (N := N__law_size) (outer := outer) (H := H) (E := E) hr
    have hp : PassesOwn (model P w) _ _ _ := passes_of (X := cxOf (L2.CX P w) P w K mg base N__law_size "_law_size" (defScope (top 33)) a cdv A outer s H E) rfl
    unfold b__law_size
    exact ⟨ow [], (r_seq (r_if no_tr (jt_cmp G (o := .inn) (JE.toB (je_ix G (JE.toB (r_var (i := 0) rfl (.inl rfl) rfl rfl rfl)) (JE.toB r_int) (fun _ _ => rfl))) (JE.toB (je_tup (ja_cons (r_str rfl rfl) (ja_cons (r_str rfl rfl) (ja_cons (r_str rfl rfl) (ja_cons (r_str rfl rfl) r_nil rfl) rfl) rfl) rfl))) rfl) (r_one (r_ret no_tr r_int)) (r_end rfl)) (r_seq (r_if no_tr (jt_cmp G (o := .eq) (JE.toB (je_ix G (JE.toB (r_var (i := 0) rfl (.inl rfl) rfl rfl rfl)) (JE.toB r_int) (fun _ _ => rfl))) (JE.toB (r_str rfl rfl)) rfl) (r_one (r_ret no_tr (JE.toZ (r_bin G .add (JE.toB r_int) (JE.toB (je_bi G (b := .sum) (.inr rfl) rfl rfl T.n_sum (JE.toB (r_lc1 G rfl (ji_val (je_ix G (JE.toB (r_var (i := 0) rfl (.inl rfl) rfl rfl rfl)) (JE.toB r_int) (fun _ _ => rfl))) (own := [("one", 1)]) (blk_ok (N := N__law_size) (sc := defScope (top 33)) (own := [("one", 1)]) (by decide +kernel)) (fun _ => rfl) (fun s H C cl fp H0 => (jg_nm (Gd.blk G rfl) (i := 1) rfl (.inl rfl) (.inr rfl) rfl)) (fun s H C cl fp H0 => r_yes) (fun s H C cl fp H0 => (je_call (Gd.blk G rfl) (F.at (Of.blk o) rfl (by omega)) rfl rfl (ja_cons (r_var (i := 1) rfl (.inl rfl) rfl rfl rfl) r_nil rfl) rfl)) rfl)) rfl)))))) (r_end rfl)) (r_one (r_ret no_tr (JE.toZ (r_bin G .add (JE.toB r_int) (JE.toB (je_bi G (b := .sum) (.inr rfl) rfl rfl T.n_sum (JE.toB (r_lc1 G rfl (ji_val (JE.toZ (r_sl (JE.toB (r_var (i := 0) rfl (.inl rfl) rfl rfl rfl)) (r_soO r_int) r_noO))) (own := [("one", 1)]) (blk_ok (N := N__law_size) (sc := defScope (top 33)) (own := [("one", 1)]) (by decide +kernel)) (fun _ => rfl) (fun s H C cl fp H0 => (jg_nm (Gd.blk G rfl) (i := 1) rfl (.inl rfl) (.inr rfl) rfl)) (fun s H C cl fp H0 => (r_tst (jt_val (je_is (Gd.blk G rfl) (b := .isTuple) rfl rfl T.n_isinstance rfl T.n_tuple (JE.toB (r_var (i := 1) rfl (.inl rfl) rfl rfl rfl)) rfl) (fun _ => rfl)))) (fun s H C cl fp H0 => (je_call (Gd.blk G rfl) (F.at (Of.blk o) rfl (by omega)) rfl rfl (ja_cons (r_var (i := 1) rfl (.inl rfl) rfl rfl rfl) r_nil rfl) rfl)) rfl)) rfl))))))))⟩
/-! ### join_of -/
abbrev N_join_of : List Str := ["rows", "first", "one"]
theorem sc_join_of : FnScope N_join_of ["rows"] (defScope (top 20)) := ⟨rfl, rfl, rfl, by decide +kernel, rfl, by decide +kernel, by decide +kernel⟩
def b_join_of : RS := (seqR (ifR (orR (cmpR .inn (cstR .non) (varR 0)) (notR (ap1R (builtin .all) (comp1R (itemsR (varR 0)) (leafL (cmpR .eq (ixR (varR 2) (cstR (.int 0))) (cstR (.str [115, 104, 97, 114, 101])))) (.nm 2) yesT [2] finL)))) (seqR (retR (cstR .non)) nopR) nopR) (seqR (setR 1 (ixR (varR 0) (cstR (.int 0)))) (seqR (ifR (notR (ap1R (builtin .all) (comp1R (itemsR (varR 0)) (leafL (andR (cmpR .eq (ixR (varR 2) (cstR (.int 1))) (ixR (varR 1) (cstR (.int 1)))) (cmpR .eq (ixR (varR 2) (cstR (.int 3))) (ixR (varR 1) (cstR (.int 3)))))) (.nm 2) yesT [2] finL))) (seqR (retR (cstR .non)) nopR) nopR) (seqR (ifR (orR (cmpR .ne (ap1R (builtin .len) (comp1R (itemsR (varR 0)) (leafD (ixR (varR 2) (cstR (.int 2))) (cstR (.bl true))) (.nm 2) yesT [2] finD)) (ap1R (builtin .len) (varR 0))) (cmpR .ne (ap1R (builtin .len) (varR 0)) (ixR (varR 1) (cstR (.int 3))))) (seqR (retR (cstR .non)) nopR) nopR) (seqR (retR (ixR (varR 1) (cstR (.int 1)))) nopR)))))
def f_join_of : List Val → Wd → R Val := fixR 1 3 b_join_of
theorem k_join_of (T : Tx P w K mg base Cx) : FnK P w K mg base (nm Cx) "join_of" 1 f_join_of := by
  refine fnk_fix T.d_join_of sc_join_of (O := ow []) (by decide) (by decide) (fun _ _ _ _ _ _ us hl => match us, hl with | [_], _ => rfl) ?_
  intro a cdv A outer s H E μ hr
  have G := gd_cx (P := P) (w := w) (K := K) (mg := mg) (base := base) (Nn := nm Cx) (N := N_join_of) (O := ow []) (outer := outer) (H := H) (E := E) sc_join_of.nd hr
  have o := of_cx (P := P) (w := w) (K := K) (mg := mg) (base := base) (N := N_join_of) (outer := outer) (H := H) (E := E) hr
  have hp : PassesOwn (model P w) _ _ _ := passes_of (X := cxOf (L2.CX P w) P w K mg base N_join_of "join_of" (defScope (top 20)) a cdv A outer s H E) rfl
  unfold b_join_of
  exact ⟨ow [], (r_seq (r_if no_tr (PW.pt (jt_or (jt_cmp G (o := .inn) (JE.toB r_non) (JE.toB (r_var (i := 0) rfl (.inl rfl) rfl rfl rfl)) rfl) (pw_or1 (jt_not (jt_val (je_bi G (b := .all) (.inr rfl) rfl rfl T.n_all (JE.toB (r_lc1 G rfl (ji_val (r_var (i := 0) rfl (.inl rfl) rfl rfl rfl)) (own := [("one", 2)]) (blk_ok (N := N_join_of) (sc := defScope (top 20)) (own := [("one", 2)]) (by decide +kernel)) (fun _ => rfl) (fun s H C cl fp H0 => (jg_nm (Gd.blk G rfl) (i := 2) rfl (.inl rfl) (.inr rfl) rfl)) (fun s H C cl fp H0 => r_yes) (fun s H C cl fp H0 => (je_cmp (Gd.blk G rfl) (o := .eq) (JE.toB (je_ix (Gd.blk G rfl) (JE.toB (r_var (i := 2) rfl (.inl rfl) rfl rfl rfl)) (JE.toB r_int) (fun _ _ => rfl))) (JE.toB (r_str rfl rfl)) rfl)) rfl)) rfl) (fun _ => rfl)))))) (r_one (r_ret no_tr r_non)) (r_end rfl)) (r_seq (r_set G no_tr (i := 1) rfl (.inr rfl) (.inl rfl) rfl rfl (je_ix G (JE.toB (r_var (i := 0) rfl (.inl rfl) rfl rfl rfl)) (JE.toB r_int) (fun _ _ => rfl))) (r_seq (r_if no_tr (jt_not (jt_val (je_bi G (b := .all) (.inr rfl) rfl rfl T.n_all (JE.toB (r_lc1 G rfl (ji_val (r_var (i := 0) rfl (.inl rfl) rfl rfl rfl)) (own := [("one", 2)]) (blk_ok (N := N_join_of) (sc := defScope (top 20)) (own := [("one", 2)]) (by decide +kernel)) (fun _ => rfl) (fun s H C cl fp H0 => (jg_nm (Gd.blk G rfl) (i := 2) rfl (.inl rfl) (.inr rfl) rfl)) (fun s H C cl fp H0 => r_yes) (fun s H C cl fp H0 => (je_and (je_cmp (Gd.blk G rfl) (o := .eq) (JE.toB (je_ix (Gd.blk G rfl) (JE.toB (r_var (i := 2) rfl (.inl rfl) rfl rfl rfl)) (JE.toB r_int) (fun _ _ => rfl))) (JE.toB (je_ix (Gd.blk G rfl) (JE.toB (r_var (i := 1) rfl (.inr (.inl rfl)) rfl rfl rfl)) (JE.toB r_int) (fun _ _ => rfl))) rfl) (je_one (je_cmp (Gd.blk G rfl) (o := .eq) (JE.toB (je_ix (Gd.blk G rfl) (JE.toB (r_var (i := 2) rfl (.inl rfl) rfl rfl rfl)) (JE.toB r_int) (fun _ _ => rfl))) (JE.toB (je_ix (Gd.blk G rfl) (JE.toB (r_var (i := 1) rfl (.inr (.inl rfl)) rfl rfl rfl)) (JE.toB r_int) (fun _ _ => rfl))) rfl)))) rfl)) rfl) (fun _ => rfl))) (r_one (r_ret no_tr r_non)) (r_end rfl)) (r_seq (r_if no_tr (PW.pt (jt_or (jt_cmp G (o := .ne) (JE.toB (je_bi G (b := .len) (.inl rfl) rfl rfl T.n_len (JE.toB (r_dc1 G rfl (ji_val (r_var (i := 0) rfl (.inl rfl) rfl rfl rfl)) (own := [("one", 2)]) (blk_ok (N := N_join_of) (sc := defScope (top 20)) (own := [("one", 2)]) (by decide +kernel)) (fun _ => rfl) (fun s H C cl fp H0 => (jg_nm (Gd.blk G rfl) (i := 2) rfl (.inl rfl) (.inr rfl) rfl)) (fun s H C cl fp H0 => r_yes) (fun s H C cl fp H0 => (je_ix (Gd.blk G rfl) (JE.toB (r_var (i := 2) rfl (.inl rfl) rfl rfl rfl)) (JE.toB r_int) (fun _ _ => rfl))) (fun s H C cl fp H0 => r_bl) rfl)) rfl)) (JE.toB (je_bi G (b := .len) (.inl rfl) rfl rfl T.n_len (JE.toB (r_var (i := 0) rfl (.inl rfl) rfl rfl rfl)) rfl)) rfl) (pw_or1 (jt_cmp G (o := .ne) (JE.toB (je_bi G (b := .len) (.inl rfl) rfl rfl T.n_len (JE.toB (r_var (i := 0) rfl (.inl rfl) rfl rfl rfl)) rfl)) (JE.toB (je_ix G (JE.toB (r_var (i := 1) rfl (.inr (.inl rfl)) rfl rfl rfl)) (JE.toB r_int) (fun _ _ => rfl))) rfl)))) (r_one (r_ret no_tr r_non)) (r_end rfl)) (r_one (r_ret no_tr (je_ix G (JE.toB (r_var (i := 1) rfl (.inr (.inl rfl)) rfl rfl rfl)) (JE.toB r_int) (fun _ _ => rfl))))))))⟩
/-! ### done -/
abbrev N_done : List Str := ["word", "rows", "one", "other"]
theorem sc_done : FnScope N_done ["word", "rows"] (defScope (top 19)) := ⟨rfl, rfl, rfl, by decide +kernel, rfl, by decide +kernel, by decide +kernel⟩
def b_done : RS := (seqR (par2R 2 3 false false (ixR (varR 1) (cstR (.int 0))) (ixR (varR 1) (negR (cstR (.int 1))))) (seqR (mtR (varR 0) [(some [[112, 97, 105, 114], [115, 101, 97, 108]], (seqR (retR (tupR (consR (varR 0) (consR (varR 2) (consR (varR 3) nilR))))) nopR)), (some [[104, 97, 115, 104]], (seqR (retR (tupR (consR (varR 0) (consR (varR 2) nilR)))) nopR)), (some [[115, 105, 103, 110]], (seqR (retR (iteR (cmpR .eq (ixR (varR 2) (cstR (.int 0))) (cstR (.str [115, 101, 99, 114, 101, 116]))) (tupR (consR (cstR (.str [115, 105, 103, 110])) (consR (ixR (varR 2) (cstR (.int 1))) (consR (varR 3) nilR)))) (cstR .non))) nopR)), (some [[102, 105, 114, 115, 116]], (seqR (retR (iteR (cmpR .eq (ixR (varR 2) (cstR (.int 0))) (cstR (.str [112, 97, 105, 114]))) (ixR (varR 2) (cstR (.int 1))) (cstR .non))) nopR)), (some [[115, 101, 99, 111, 110, 100]], (seqR (retR (iteR (cmpR .eq (ixR (varR 2) (cstR (.int 0))) (cstR (.str [112, 97, 105, 114]))) (ixR (varR 2) (cstR (.int 2))) (cstR .non))) nopR)), (some [[111, 112, 101, 110]], (seqR (retR (iteR (cmpR .eq (slR (varR 2) noO (soO (cstR (.int 2)))) (tupR (consR (cstR (.str [115, 101, 97, 108])) (consR (varR 3) nilR)))) (ixR (varR 2) (cstR (.int 2))) (cstR .non))) nopR))]) (seqR (retR (iteR (andR (cmpR .eq (ixR (varR 2) (cstR (.int 0))) (cstR (.str [108, 111, 99, 107]))) (cmpR .eq (varR 3) (tupR (consR (cstR (.str [115, 101, 99, 114, 101, 116])) (consR (ixR (varR 2) (cstR (.int 1))) nilR))))) (ixR (varR 2) (cstR (.int 2))) (cstR .non))) nopR)))
def f_done : List Val → Wd → R Val := fixR 2 4 b_done
theorem k_done (T : Tx P w K mg base Cx) : FnK P w K mg base (nm Cx) "done" 1 f_done := by
  refine fnk_fix T.d_done sc_done (O := ow []) (by decide) (by decide) (fun _ _ _ _ _ _ us hl => match us, hl with | [_, _], _ => rfl) ?_
  intro a cdv A outer s H E μ hr
  have G := gd_cx (P := P) (w := w) (K := K) (mg := mg) (base := base) (Nn := nm Cx) (N := N_done) (O := ow []) (outer := outer) (H := H) (E := E) sc_done.nd hr
  have o := of_cx (P := P) (w := w) (K := K) (mg := mg) (base := base) (N := N_done) (outer := outer) (H := H) (E := E) hr
  have hp : PassesOwn (model P w) _ _ _ := passes_of (X := cxOf (L2.CX P w) P w K mg base N_done "done" (defScope (top 19)) a cdv A outer s H E) rfl
  unfold b_done
  exact ⟨ow [], (r_seq (js_par2 G rfl no_tr (i := 2) (j := 3) (o1 := false) (o2 := false) rfl rfl (by decide) rfl rfl (fun _ _ => rfl) (fun _ _ => rfl) rfl rfl (fun _ => rfl) (fun _ => rfl) rfl rfl (je_ix G (JE.toB (r_var (i := 1) rfl (.inl rfl) rfl rfl rfl)) (JE.toB r_int) (fun _ _ => rfl)) (je_ix G (JE.toB (r_var (i := 1) rfl (.inl rfl) rfl rfl rfl)) (JE.toB (je_neg r_int)) (fun _ _ => rfl)) rfl rfl) (r_seq (js_match (rs := [(some [[112, 97, 105, 114], [115, 101, 97, 108]], (seqR (retR (tupR (consR (varR 0) (consR (varR 2) (consR (varR 3) nilR))))) nopR)), (some [[104, 97, 115, 104]], (seqR (retR (tupR (consR (varR 0) (consR (varR 2) nilR)))) nopR)), (some [[115, 105, 103, 110]], (seqR (retR (iteR (cmpR .eq (ixR (varR 2) (cstR (.int 0))) (cstR (.str [115, 101, 99, 114, 101, 116]))) (tupR (consR (cstR (.str [115, 105, 103, 110])) (consR (ixR (varR 2) (cstR (.int 1))) (consR (varR 3) nilR)))) (cstR .non))) nopR)), (some [[102, 105, 114, 115, 116]], (seqR (retR (iteR (cmpR .eq (ixR (varR 2) (cstR (.int 0))) (cstR (.str [112, 97, 105, 114]))) (ixR (varR 2) (cstR (.int 1))) (cstR .non))) nopR)), (some [[115, 101, 99, 111, 110, 100]], (seqR (retR (iteR (cmpR .eq (ixR (varR 2) (cstR (.int 0))) (cstR (.str [112, 97, 105, 114]))) (ixR (varR 2) (cstR (.int 2))) (cstR .non))) nopR)), (some [[111, 112, 101, 110]], (seqR (retR (iteR (cmpR .eq (slR (varR 2) noO (soO (cstR (.int 2)))) (tupR (consR (cstR (.str [115, 101, 97, 108])) (consR (varR 3) nilR)))) (ixR (varR 2) (cstR (.int 2))) (cstR .non))) nopR))]) G no_tr (JE.toB (r_var (i := 0) rfl (.inl rfl) rfl rfl rfl)) (mc_cons (pat_or (r_pats rfl rfl (r_pats rfl rfl pats_nil))) (r_one (r_ret no_tr (je_tup (ja_cons (r_var (i := 0) rfl (.inl rfl) rfl rfl rfl) (ja_cons (r_var (i := 2) rfl (.inl rfl) rfl rfl rfl) (ja_cons (r_var (i := 3) rfl (.inl rfl) rfl rfl rfl) r_nil rfl) rfl) rfl)))) (mc_cons (r_pat rfl rfl) (r_one (r_ret no_tr (je_tup (ja_cons (r_var (i := 0) rfl (.inl rfl) rfl rfl rfl) (ja_cons (r_var (i := 2) rfl (.inl rfl) rfl rfl rfl) r_nil rfl) rfl)))) (mc_cons (r_pat rfl rfl) (r_one (r_ret no_tr (je_ite (jt_cmp G (o := .eq) (JE.toB (je_ix G (JE.toB (r_var (i := 2) rfl (.inl rfl) rfl rfl rfl)) (JE.toB r_int) (fun _ _ => rfl))) (JE.toB (r_str rfl rfl)) rfl) (je_tup (ja_cons (r_str rfl rfl) (ja_cons (je_ix G (JE.toB (r_var (i := 2) rfl (.inl rfl) rfl rfl rfl)) (JE.toB r_int) (fun _ _ => rfl)) (ja_cons (r_var (i := 3) rfl (.inl rfl) rfl rfl rfl) r_nil rfl) rfl) rfl)) r_non))) (mc_cons (r_pat rfl rfl) (r_one (r_ret no_tr (je_ite (jt_cmp G (o := .eq) (JE.toB (je_ix G (JE.toB (r_var (i := 2) rfl (.inl rfl) rfl rfl rfl)) (JE.toB r_int) (fun _ _ => rfl))) (JE.toB (r_str rfl rfl)) rfl) (je_ix G (JE.toB (r_var (i := 2) rfl (.inl rfl) rfl rfl rfl)) (JE.toB r_int) (fun _ _ => rfl)) r_non))) (mc_cons (r_pat rfl rfl) (r_one (r_ret no_tr (je_ite (jt_cmp G (o := .eq) (JE.toB (je_ix G (JE.toB (r_var (i := 2) rfl (.inl rfl) rfl rfl rfl)) (JE.toB r_int) (fun _ _ => rfl))) (JE.toB (r_str rfl rfl)) rfl) (je_ix G (JE.toB (r_var (i := 2) rfl (.inl rfl) rfl rfl rfl)) (JE.toB r_int) (fun _ _ => rfl)) r_non))) (mc_cons (r_pat rfl rfl) (r_one (r_ret no_tr (je_ite (jt_cmp G (o := .eq) (JE.toB (r_sl (JE.toB (r_var (i := 2) rfl (.inl rfl) rfl rfl rfl)) r_noO (r_soO r_int))) (JE.toB (je_tup (ja_cons (r_str rfl rfl) (ja_cons (r_var (i := 3) rfl (.inl rfl) rfl rfl rfl) r_nil rfl) rfl))) rfl) (je_ix G (JE.toB (r_var (i := 2) rfl (.inl rfl) rfl rfl rfl)) (JE.toB r_int) (fun _ _ => rfl)) r_non))) mc_nil))))))) (r_one (r_ret no_tr (je_ite (PW.pt (jt_and (jt_cmp G (o := .eq) (JE.toB (je_ix G (JE.toB (r_var (i := 2) rfl (.inl rfl) rfl rfl rfl)) (JE.toB r_int) (fun _ _ => rfl))) (JE.toB (r_str rfl rfl)) rfl) (pw_and1 (jt_cmp G (o := .eq) (JE.toB (r_var (i := 3) rfl (.inl rfl) rfl rfl rfl)) (JE.toB (je_tup (ja_cons (r_str rfl rfl) (ja_cons (je_ix G (JE.toB (r_var (i := 2) rfl (.inl rfl) rfl rfl rfl)) (JE.toB r_int) (fun _ _ => rfl)) r_nil rfl) rfl))) rfl)))) (je_ix G (JE.toB (r_var (i := 2) rfl (.inl rfl) rfl rfl rfl)) (JE.toB r_int) (fun _ _ => rfl)) r_non)))))⟩
/-! ### run -/
abbrev N_run : List Str := ["recipe", "frame", "told", "rows", "one"]
theorem sc_run : FnScope N_run ["recipe", "frame"] (defScope (top 18)) := ⟨rfl, rfl, rfl, by decide +kernel, rfl, by decide +kernel, by decide +kernel⟩
def b_run (self : List Val → Wd → R Val) : RS := (seqR (ifR (cmpR .eq (ixR (varR 0) (cstR (.int 0))) (cstR (.str [97, 116]))) (seqR (retR (ixR (varR 1) (ixR (varR 0) (cstR (.int 1))))) nopR) nopR) (seqR (ifR (callR f_is_public (consR (varR 0) nilR)) (seqR (retR (varR 0)) nopR) nopR) (seqR (ifR (cmpR .eq (ixR (varR 0) (cstR (.int 0))) (cstR (.str [106, 111, 105, 110]))) (seqR (retR (callR f_join_of (consR (comp1R (itemsR (ixR (varR 0) (cstR (.int 1)))) (leafL (callR self (consR (varR 4) (consR (varR 1) nilR)))) (.nm 4) yesT [4] finL) nilR))) nopR) nopR) (seqR (ifR (cmpR .inn (ixR (varR 0) (cstR (.int 0))) (tupR (consR (cstR (.str [108, 111, 99, 107])) (consR (cstR (.str [98, 121])) nilR)))) (seqR (setR 2 (callR self (consR (ixR (varR 0) (cstR (.int 2))) (consR (varR 1) nilR)))) (seqR (ifR (cmpR .eq (ixR (varR 0) (cstR (.int 0))) (cstR (.str [108, 111, 99, 107]))) (seqR (retR (iteR (cmpR .isn (varR 2) (cstR .non)) (cstR .non) (tupR (consR (cstR (.str [108, 111, 99, 107])) (consR (ixR (varR 0) (cstR (.int 1))) (consR (varR 2) nilR)))))) nopR) nopR) (seqR (retR (iteR (andR (cmpR .notn (varR 2) (cstR .non)) (cmpR .eq (slR (varR 2) noO (soO (cstR (.int 2)))) (tupR (consR (cstR (.str [115, 105, 103, 110])) (consR (ixR (varR 0) (cstR (.int 1))) nilR))))) (ixR (varR 2) (cstR (.int 2))) (cstR .non))) nopR))) nopR) (seqR (ifR (cmpR .eq (ixR (varR 0) (cstR (.int 0))) (cstR (.str [115, 104, 97, 114, 101]))) (seqR (setR 2 (callR self (consR (ixR (varR 0) (cstR (.int 1))) (consR (varR 1) nilR)))) (seqR (retR (iteR (cmpR .isn (varR 2) (cstR .non)) (cstR .non) (tupR (consR (cstR (.str [115, 104, 97, 114, 101])) (consR (varR 2) (starR (slR (varR 0) (soO (cstR (.int 2))) noO) nilR)))))) nopR)) nopR) (seqR (setcR 3 (comp1R (itemsR (slR (varR 0) (soO (cstR (.int 1))) noO)) (leafL (callR self (consR (varR 4) (consR (varR 1) nilR)))) (.nm 4) yesT [4] finL)) (seqR (retR (iteR (cmpR .inn (cstR .non) (varR 3)) (cstR .non) (callR f_done (consR (ixR (varR 0) (cstR (.int 0))) (consR (varR 3) nilR))))) nopR)))))))
def f_run : Nat → List Val → Wd → R Val
  | 0 => fun _ _ => .st
  | n + 1 => fixR 2 5 (b_run (f_run n))
theorem k_run (T : Tx P w K mg base Cx) : ∀ n : Nat, FnK P w K mg base (nm Cx) "run" (1 + n) (f_run n)
  | 0 => (fnk_st T.d_run).up (Nat.zero_le _)
  | n + 1 => by
    have F := k_run T n
    refine fnk_fix (l := 1 + n) T.d_run sc_run (O := ow []) (by decide) (by decide) (fun _ _ _ _ _ _ us hl => match us, hl with | [_, _], _ => rfl) ?_
    intro a cdv A outer s H E μ hr
    have G := gd_cx (P := P) (w := w) (K := K) (mg := mg) (base := base) (Nn := nm Cx) (N := N_run) (O := ow []) (outer := outer) (H := H) (E := E) sc_run.nd hr
    have o := of_cx (P := P) (w := w) (K := K) (mg := mg) (base := base) (N := N_run) (outer := outer) (H := H) (E := E) hr
    have hp : PassesOwn (model P w) _ _ _ := passes_of (X := cxOf (L2.CX P w) P w K mg base N_run "run" (defScope (top 18)) a cdv A outer s H E) rfl
    unfold b_run
    exact ⟨ow [], (r_seq (r_if no_tr (jt_cmp G (o := .eq) (JE.toB (je_ix G (JE.toB (r_var (i := 0) rfl (.inl rfl) rfl rfl rfl)) (JE.toB r_int) (fun _ _ => rfl))) (JE.toB (r_str rfl rfl)) rfl) (r_one (r_ret no_tr (je_ix G (JE.toB (r_var (i := 1) rfl (.inr (.inl rfl)) rfl rfl rfl)) (JE.toB (je_ix G (JE.toB (r_var (i := 0) rfl (.inl rfl) rfl rfl rfl)) (JE.toB r_int) (fun _ _ => rfl))) (fun _ _ => rfl)))) (r_end rfl)) (r_seq (r_if no_tr (jt_val (je_call G ((k_is_public T).at o rfl (by omega)) rfl rfl (ja_cons (r_var (i := 0) rfl (.inl rfl) rfl rfl rfl) r_nil rfl) rfl) (fun _ => rfl)) (r_one (r_ret no_tr (r_var (i := 0) rfl (.inl rfl) rfl rfl rfl))) (r_end rfl)) (r_seq (r_if no_tr (jt_cmp G (o := .eq) (JE.toB (je_ix G (JE.toB (r_var (i := 0) rfl (.inl rfl) rfl rfl rfl)) (JE.toB r_int) (fun _ _ => rfl))) (JE.toB (r_str rfl rfl)) rfl) (r_one (r_ret no_tr (je_call G ((k_join_of T).at o rfl (by omega)) rfl rfl (ja_cons (JE.toZ (r_lc1 G rfl (ji_val (je_ix G (JE.toB (r_var (i := 0) rfl (.inl rfl) rfl rfl rfl)) (JE.toB r_int) (fun _ _ => rfl))) (own := [("one", 4)]) (blk_ok (N := N_run) (sc := defScope (top 18)) (own := [("one", 4)]) (by decide +kernel)) (fun _ => rfl) (fun s H C cl fp H0 => (jg_nm (Gd.blk G rfl) (i := 4) rfl (.inl rfl) (.inr rfl) rfl)) (fun s H C cl fp H0 => r_yes) (fun s H C cl fp H0 => (je_call (Gd.blk G rfl) (F.at (Of.blk o) rfl (by omega)) rfl rfl (ja_cons (r_var (i := 4) rfl (.inl rfl) rfl rfl rfl) (ja_cons (r_var (i := 1) rfl (.inr (.inl rfl)) rfl rfl rfl) r_nil rfl) rfl) rfl)) rfl)) r_nil rfl) rfl))) (r_end rfl)) (r_seq (r_if no_tr (jt_cmp G (o := .inn) (JE.toB (je_ix G (JE.toB (r_var (i := 0) rfl (.inl rfl) rfl rfl rfl)) (JE.toB r_int) (fun _ _ => rfl))) (JE.toB (je_tup (ja_cons (r_str rfl rfl) (ja_cons (r_str rfl rfl) r_nil rfl) rfl))) rfl) (r_seq (r_set G no_tr (i := 2) rfl (.inl rfl) (.inl rfl) rfl rfl (je_call G (F.at o rfl (by omega)) rfl rfl (ja_cons (je_ix G (JE.toB (r_var (i := 0) rfl (.inl rfl) rfl rfl rfl)) (JE.toB r_int) (fun _ _ => rfl)) (ja_cons (r_var (i := 1) rfl (.inr (.inl rfl)) rfl rfl rfl) r_nil rfl) rfl) rfl)) (r_seq (r_if no_tr (jt_cmp G (o := .eq) (JE.toB (je_ix G (JE.toB (r_var (i := 0) rfl (.inl rfl) rfl rfl rfl)) (JE.toB r_int) (fun _ _ => rfl))) (JE.toB (r_str rfl rfl)) rfl) (r_one (r_ret no_tr (je_ite (jt_cmp G (o := .isn) (JE.toB (r_var (i := 2) rfl (.inl rfl) rfl rfl rfl)) (JE.toB r_non) rfl) r_non (je_tup (ja_cons (r_str rfl rfl) (ja_cons (je_ix G (JE.toB (r_var (i := 0) rfl (.inl rfl) rfl rfl rfl)) (JE.toB r_int) (fun _ _ => rfl)) (ja_cons (r_var (i := 2) rfl (.inl rfl) rfl rfl rfl) r_nil rfl) rfl) rfl))))) (r_end rfl)) (r_one (r_ret no_tr (je_ite (PW.pt (jt_and (jt_cmp G (o := .notn) (JE.toB (r_var (i := 2) rfl (.inl rfl) rfl rfl rfl)) (JE.toB r_non) rfl) (pw_and1 (jt_cmp G (o := .eq) (JE.toB (r_sl (JE.toB (r_var (i := 2) rfl (.inl rfl) rfl rfl rfl)) r_noO (r_soO r_int))) (JE.toB (je_tup (ja_cons (r_str rfl rfl) (ja_cons (je_ix G (JE.toB (r_var (i := 0) rfl (.inl rfl) rfl rfl rfl)) (JE.toB r_int) (fun _ _ => rfl)) r_nil rfl) rfl))) rfl)))) (je_ix G (JE.toB (r_var (i := 2) rfl (.inl rfl) rfl rfl rfl)) (JE.toB r_int) (fun _ _ => rfl)) r_non))))) (r_end rfl)) (r_seq (r_if no_tr (jt_cmp G (o := .eq) (JE.toB (je_ix G (JE.toB (r_var (i := 0) rfl (.inl rfl) rfl rfl rfl)) (JE.toB r_int) (fun _ _ => rfl))) (JE.toB (r_str rfl rfl)) rfl) (r_seq (r_set G no_tr (i := 2) rfl (.inl rfl) (.inl rfl) rfl rfl (je_call G (F.at o rfl (by omega)) rfl rfl (ja_cons (je_ix G (JE.toB (r_var (i := 0) rfl (.inl rfl) rfl rfl rfl)) (JE.toB r_int) (fun _ _ => rfl)) (ja_cons (r_var (i := 1) rfl (.inr (.inl rfl)) rfl rfl rfl) r_nil rfl) rfl) rfl)) (r_one (r_ret no_tr (je_ite (jt_cmp G (o := .isn) (JE.toB (r_var (i := 2) rfl (.inl rfl) rfl rfl rfl)) (JE.toB r_non) rfl) r_non (je_tup (ja_cons (r_str rfl rfl) (ja_cons (r_var (i := 2) rfl (.inl rfl) rfl rfl rfl) (ja_star (JE.toB (r_sl (JE.toB (r_var (i := 0) rfl (.inl rfl) rfl rfl rfl)) (r_soO r_int) r_noO)) r_nil) rfl) rfl)))))) (r_end rfl)) (r_seq (js_setc1 G rfl no_tr (i := 3) false rfl rfl (fun _ _ => rfl) rfl (fun _ => rfl) rfl (ji_val (JE.toZ (r_sl (JE.toB (r_var (i := 0) rfl (.inl rfl) rfl rfl rfl)) (r_soO r_int) r_noO))) (own := [("one", 4)]) (blk_ok (N := N_run) (sc := defScope (top 18)) (own := [("one", 4)]) (by decide +kernel)) (fun _ => rfl) (fun s H C cl fp H0 => (jg_nm (Gd.blk G rfl) (i := 4) rfl (.inl rfl) (.inr rfl) rfl)) (fun s H C cl fp H0 => r_yes) (fun s H C cl fp H0 => (je_call (Gd.blk G rfl) (F.at (Of.blk o) rfl (by omega)) rfl rfl (ja_cons (r_var (i := 4) rfl (.inl rfl) rfl rfl rfl) (ja_cons (r_var (i := 1) rfl (.inr (.inl rfl)) rfl rfl rfl) r_nil rfl) rfl) rfl)) rfl) (r_one (r_ret no_tr (je_ite (jt_cmp G (o := .inn) (JE.toB r_non) (JE.toB (r_var (i := 3) rfl (.inl rfl) rfl rfl rfl)) rfl) r_non (je_call G ((k_done T).at o rfl (by omega)) rfl rfl (ja_cons (je_ix G (JE.toB (r_var (i := 0) rfl (.inl rfl) rfl rfl rfl)) (JE.toB r_int) (fun _ _ => rfl)) (ja_cons (r_var (i := 3) rfl (.inl rfl) rfl rfl rfl) r_nil rfl) rfl) rfl))))))))))⟩
/-! ### _law_run -/
abbrev N__law_run : List Str := ["recipe", "frame", "word", "rows", "first", "fits", "one", "other"]
theorem sc__law_run : FnScope N__law_run ["recipe", "frame"] (defScope (top 31)) := ⟨rfl, rfl, rfl, by decide +kernel, rfl, by decide +kernel, by decide +kernel⟩
def b__law_run (self : List Val → Wd → R Val) : RS := (seqR (setR 2 (ixR (varR 0) (cstR (.int 0)))) (seqR (ifR (cmpR .eq (varR 2) (cstR (.str [97, 116]))) (seqR (retR (ixR (varR 1) (ixR (varR 0) (cstR (.int 1))))) nopR) nopR) (seqR (ifR (cmpR .inn (varR 2) (tupR (consR (cstR (.str [110, 97, 109, 101])) (consR (cstR (.str [110, 117, 109, 98, 101, 114])) (consR (cstR (.str [116, 101, 120, 116])) nilR))))) (seqR (retR (varR 0)) nopR) nopR) (seqR (ifR (cmpR .eq (varR 2) (cstR (.str [106, 111, 105, 110]))) (seqR (setR 3 (comp1R (itemsR (ixR (varR 0) (cstR (.int 1)))) (leafL (callR self (consR (varR 6) (consR (varR 1) nilR)))) (.nm 6) yesT [6] finL)) (seqR (ifR (ap1R (builtin .any) (comp1R (itemsR (varR 3)) (leafL (orR (cmpR .isn (varR 6) (cstR .non)) (cmpR .ne (ixR (varR 6) (cstR (.int 0))) (cstR (.str [115, 104, 97, 114, 101]))))) (.nm 6) yesT [6] finL)) (seqR (retR (cstR .non)) nopR) nopR) (seqR (setR 4 (ixR (varR 3) (cstR (.int 0)))) (seqR (setR 5 (andR (ap1R (builtin .all) (comp1R (itemsR (varR 3)) (leafL (cmpR .eq (tupR (consR (ixR (varR 6) (cstR (.int 1))) (consR (ixR (varR 6) (cstR (.int 3))) nilR))) (tupR (consR (ixR (varR 4) (cstR (.int 1))) (consR (ap1R (builtin .len) (varR 3)) nilR))))) (.nm 6) yesT [6] finL)) (cmpR .eq (ap1R lenSet (comp1R (itemsR (varR 3)) (leafL (ixR (varR 6) (cstR (.int 2)))) (.nm 6) yesT [6] finL)) (ap1R (builtin .len) (varR 3))))) (seqR (retR (iteR (varR 5) (ixR (varR 4) (cstR (.int 1))) (cstR .non))) nopR))))) nopR) (seqR (ifR (cmpR .inn (varR 2) (tupR (consR (cstR (.str [108, 111, 99, 107])) (consR (cstR (.str [98, 121])) nilR)))) (seqR (setR 6 (callR self (consR (ixR (varR 0) (cstR (.int 2))) (consR (varR 1) nilR)))) (seqR (ifR (cmpR .eq (varR 2) (cstR (.str [108, 111, 99, 107]))) (seqR (retR (iteR (cmpR .notn (varR 6) (cstR .non)) (tupR (consR (cstR (.str [108, 111, 99, 107])) (consR (ixR (varR 0) (cstR (.int 1))) (consR (varR 6) nilR)))) (cstR .non))) nopR) nopR) (seqR (retR (iteR (andR (cmpR .notn (varR 6) (cstR .non)) (cmpR .eq (slR (varR 6) noO (soO (cstR (.int 2)))) (tupR (consR (cstR (.str [115, 105, 103, 110])) (consR (ixR (varR 0) (cstR (.int 1))) nilR))))) (ixR (varR 6) (cstR (.int 2))) (cstR .non))) nopR))) nopR) (seqR (setR 6 (callR self (consR (ixR (varR 0) (cstR (.int 1))) (consR (varR 1) nilR)))) (seqR (ifR (cmpR .isn (varR 6) (cstR .non)) (seqR (retR (cstR .non)) nopR) nopR) (seqR (ifR (cmpR .eq (varR 2) (cstR (.str [115, 104, 97, 114, 101]))) (seqR (retR (tupR (consR (cstR (.str [115, 104, 97, 114, 101])) (consR (varR 6) (consR (ixR (varR 0) (cstR (.int 2))) (consR (ixR (varR 0) (cstR (.int 3))) nilR)))))) nopR) nopR) (seqR (ifR (cmpR .eq (varR 2) (cstR (.str [104, 97, 115, 104]))) (seqR (retR (tupR (consR (cstR (.str [104, 97, 115, 104])) (consR (varR 6) nilR)))) nopR) nopR) (seqR (ifR (cmpR .inn (varR 2) (tupR (consR (cstR (.str [102, 105, 114, 115, 116])) (consR (cstR (.str [115, 101, 99, 111, 110, 100])) nilR)))) (seqR (retR (iteR (cmpR .eq (ixR (varR 6) (cstR (.int 0))) (cstR (.str [112, 97, 105, 114]))) (ixR (varR 6) (iteR (cmpR .eq (varR 2) (cstR (.str [102, 105, 114, 115, 116]))) (cstR (.int 1)) (cstR (.int 2)))) (cstR .non))) nopR) nopR) (seqR (setR 7 (callR self (consR (ixR (varR 0) (cstR (.int 2))) (consR (varR 1) nilR)))) (seqR (ifR (cmpR .isn (varR 7) (cstR .non)) (seqR (retR (cstR .non)) nopR) nopR) (seqR (ifR (cmpR .eq (varR 2) (cstR (.str [115, 105, 103, 110]))) (seqR (retR (iteR (cmpR .eq (ixR (varR 6) (cstR (.int 0))) (cstR (.str [115, 101, 99, 114, 101, 116]))) (tupR (consR (cstR (.str [115, 105, 103, 110])) (consR (ixR (varR 6) (cstR (.int 1))) (consR (varR 7) nilR)))) (cstR .non))) nopR) nopR) (seqR (ifR (cmpR .eq (varR 2) (cstR (.str [111, 112, 101, 110]))) (seqR (retR (iteR (cmpR .eq (slR (varR 6) noO (soO (cstR (.int 2)))) (tupR (consR (cstR (.str [115, 101, 97, 108])) (consR (varR 7) nilR)))) (ixR (varR 6) (cstR (.int 2))) (cstR .non))) nopR) nopR) (seqR (ifR (cmpR .eq (varR 2) (cstR (.str [117, 110, 108, 111, 99, 107]))) (seqR (retR (iteR (andR (cmpR .eq (ixR (varR 6) (cstR (.int 0))) (cstR (.str [108, 111, 99, 107]))) (cmpR .eq (varR 7) (tupR (consR (cstR (.str [115, 101, 99, 114, 101, 116])) (consR (ixR (varR 6) (cstR (.int 1))) nilR))))) (ixR (varR 6) (cstR (.int 2))) (cstR .non))) nopR) nopR) (seqR (retR (tupR (consR (varR 2) (consR (varR 6) (consR (varR 7) nilR))))) nopR))))))))))))))))
def f__law_run : Nat → List Val → Wd → R Val
  | 0 => fun _ _ => .st
  | n + 1 => fixR 2 8 (b__law_run (f__law_run n))
theorem k__law_run (T : Tx P w K mg base Cx) : ∀ n : Nat, FnK P w K mg base (nm Cx) "_law_run" (0 + n) (f__law_run n)
  | 0 => (fnk_st T.d__law_run).up (Nat.zero_le _)
  | n + 1 => by
    have F := k__law_run T n
    refine fnk_fix (l := 0 + n) T.d__law_run sc__law_run (O := ow []) (by decide) (by decide) (fun _ _ _ _ _ _ us hl => match us, hl with | [_, _], _ => rfl) ?_
    intro a cdv A outer s H E μ hr
    have G := gd_cx (P := P) (w := w) (K := K) (mg := mg) (base := base) (Nn := nm Cx) (N := N__law_run) (O := ow []) (outer := outer) (H := H) (E := E) sc__law_run.nd hr
    have o := of_cx (P := P) (w := w) (K := K) (mg := mg) (base := base) (N := N__law_run) (outer := outer) (H := H) (E := E) hr
    have hp : PassesOwn (model P w) _ _ _ := passes_of (X := cxOf (L2.CX P w) P w K mg base N__law_run "_law_run" (defScope (top 31)) a cdv A outer s H E) rfl
    unfold b__law_run
    exact ⟨ow [], (r_seq (r_set G no_tr (i := 2) rfl (.inl rfl) (.inl rfl) rfl rfl (je_ix G (JE.toB (r_var (i := 0) rfl (.inl rfl) rfl rfl rfl)) (JE.toB r_int) (fun _ _ => rfl))) (r_seq (r_if no_tr (jt_cmp G (o := .eq) (JE.toB (r_var (i := 2) rfl (.inl rfl) rfl rfl rfl)) (JE.toB (r_str rfl rfl)) rfl) (r_one (r_ret no_tr (je_ix G (JE.toB (r_var (i := 1) rfl (.inr (.inl rfl)) rfl rfl rfl)) (JE.toB (je_ix G (JE.toB (r_var (i := 0) rfl (.inl rfl) rfl rfl rfl)) (JE.toB r_int) (fun _ _ => rfl))) (fun _ _ => rfl)))) (r_end rfl)) (r_seq (r_if no_tr (jt_cmp G (o := .inn) (JE.toB (r_var (i := 2) rfl (.inl rfl) rfl rfl rfl)) (JE.toB (je_tup (ja_cons (r_str rfl rfl) (ja_cons (r_str rfl rfl) (ja_cons (r_str rfl rfl) r_nil rfl) rfl) rfl))) rfl) (r_one (r_ret no_tr (r_var (i := 0) rfl (.inl rfl) rfl rfl rfl))) (r_end rfl)) (r_seq (r_if no_tr (jt_cmp G (o := .eq) (JE.toB (r_var (i := 2) rfl (.inl rfl) rfl rfl rfl)) (JE.toB (r_str rfl rfl)) rfl) (r_seq (r_set G no_tr (i := 3) rfl (.inr rfl) (.inl rfl) rfl rfl (JE.toZ (r_lc1 G rfl (ji_val (je_ix G (JE.toB (r_var (i := 0) rfl (.inl rfl) rfl rfl rfl)) (JE.toB r_int) (fun _ _ => rfl))) (own := [("one", 6)]) (blk_ok (N := N__law_run) (sc := defScope (top 31)) (own := [("one", 6)]) (by decide +kernel)) (fun _ => rfl) (fun s H C cl fp H0 => (jg_nm (Gd.blk G rfl) (i := 6) rfl (.inl rfl) (.inr rfl) rfl)) (fun s H C cl fp H0 => r_yes) (fun s H C cl fp H0 => (je_call (Gd.blk G rfl) (F.at (Of.blk o) rfl (by omega)) rfl rfl (ja_cons (r_var (i := 6) rfl (.inl rfl) rfl rfl rfl) (ja_cons (r_var (i := 1) rfl (.inr (.inl rfl)) rfl rfl rfl) r_nil rfl) rfl) rfl)) rfl))) (r_seq (r_if no_tr (jt_val (je_bi G (b := .any) (.inr rfl) rfl rfl T.n_any (JE.toB (r_lc1 G rfl (ji_val (r_var (i := 3) rfl (.inr (.inl rfl)) rfl rfl rfl)) (own := [("one", 6)]) (blk_ok (N := N__law_run) (sc := defScope (top 31)) (own := [("one", 6)]) (by decide +kernel)) (fun _ => rfl) (fun s H C cl fp H0 => (jg_nm (Gd.blk G rfl) (i := 6) rfl (.inl rfl) (.inr rfl) rfl)) (fun s H C cl fp H0 => r_yes) (fun s H C cl fp H0 => (je_or (je_cmp (Gd.blk G rfl) (o := .isn) (JE.toB (r_var (i := 6) rfl (.inl rfl) rfl rfl rfl)) (JE.toB r_non) rfl) (je_one (je_cmp (Gd.blk G rfl) (o := .ne) (JE.toB (je_ix (Gd.blk G rfl) (JE.toB (r_var (i := 6) rfl (.inl rfl) rfl rfl rfl)) (JE.toB r_int) (fun _ _ => rfl))) (JE.toB (r_str rfl rfl)) rfl)))) rfl)) rfl) (fun _ => rfl)) (r_one (r_ret no_tr r_non)) (r_end rfl)) (r_seq (r_set G no_tr (i := 4) rfl (.inr rfl) (.inl rfl) rfl rfl (je_ix G (JE.toB (r_var (i := 3) rfl (.inr (.inl rfl)) rfl rfl rfl)) (JE.toB r_int) (fun _ _ => rfl))) (r_seq (r_set G no_tr (i := 5) rfl (.inl rfl) (.inl rfl) rfl rfl (je_and (JE.toZ (je_bi G (b := .all) (.inr rfl) rfl rfl T.n_all (JE.toB (r_lc1 G rfl (ji_val (r_var (i := 3) rfl (.inr (.inl rfl)) rfl rfl rfl)) (own := [("one", 6)]) (blk_ok (N := N__law_run) (sc := defScope (top 31)) (own := [("one", 6)]) (by decide +kernel)) (fun _ => rfl) (fun s H C cl fp H0 => (jg_nm (Gd.blk G rfl) (i := 6) rfl (.inl rfl) (.inr rfl) rfl)) (fun s H C cl fp H0 => r_yes) (fun s H C cl fp H0 => (je_cmp (Gd.blk G rfl) (o := .eq) (JE.toB (je_tup (ja_cons (je_ix (Gd.blk G rfl) (JE.toB (r_var (i := 6) rfl (.inl rfl) rfl rfl rfl)) (JE.toB r_int) (fun _ _ => rfl)) (ja_cons (je_ix (Gd.blk G rfl) (JE.toB (r_var (i := 6) rfl (.inl rfl) rfl rfl rfl)) (JE.toB r_int) (fun _ _ => rfl)) r_nil rfl) rfl))) (JE.toB (je_tup (ja_cons (je_ix (Gd.blk G rfl) (JE.toB (r_var (i := 4) rfl (.inr (.inl rfl)) rfl rfl rfl)) (JE.toB r_int) (fun _ _ => rfl)) (ja_cons (JE.toZ (je_bi (Gd.blk G rfl) (b := .len) (.inl rfl) rfl rfl T.n_len (JE.toB (r_var (i := 3) rfl (.inr (.inl rfl)) rfl rfl rfl)) rfl)) r_nil rfl) rfl))) rfl)) rfl)) rfl)) (je_one (je_cmp G (o := .eq) (JE.toB (je_lenset G rfl rfl T.n_len rfl T.n_set (JE.toB (r_lc1 G rfl (ji_val (r_var (i := 3) rfl (.inr (.inl rfl)) rfl rfl rfl)) (own := [("one", 6)]) (blk_ok (N := N__law_run) (sc := defScope (top 31)) (own := [("one", 6)]) (by decide +kernel)) (fun _ => rfl) (fun s H C cl fp H0 => (jg_nm (Gd.blk G rfl) (i := 6) rfl (.inl rfl) (.inr rfl) rfl)) (fun s H C cl fp H0 => r_yes) (fun s H C cl fp H0 => (je_ix (Gd.blk G rfl) (JE.toB (r_var (i := 6) rfl (.inl rfl) rfl rfl rfl)) (JE.toB r_int) (fun _ _ => rfl))) rfl)) rfl rfl)) (JE.toB (je_bi G (b := .len) (.inl rfl) rfl rfl T.n_len (JE.toB (r_var (i := 3) rfl (.inr (.inl rfl)) rfl rfl rfl)) rfl)) rfl)))) (r_one (r_ret no_tr (je_ite (jt_val (r_var (i := 5) rfl (.inl rfl) rfl rfl rfl) (fun _ => rfl)) (je_ix G (JE.toB (r_var (i := 4) rfl (.inr (.inl rfl)) rfl rfl rfl)) (JE.toB r_int) (fun _ _ => rfl)) r_non))))))) (r_end rfl)) (r_seq (r_if no_tr (jt_cmp G (o := .inn) (JE.toB (r_var (i := 2) rfl (.inl rfl) rfl rfl rfl)) (JE.toB (je_tup (ja_cons (r_str rfl rfl) (ja_cons (r_str rfl rfl) r_nil rfl) rfl))) rfl) (r_seq (r_set G no_tr (i := 6) rfl (.inl rfl) (.inl rfl) rfl rfl (je_call G (F.at o rfl (by omega)) rfl rfl (ja_cons (je_ix G (JE.toB (r_var (i := 0) rfl (.inl rfl) rfl rfl rfl)) (JE.toB r_int) (fun _ _ => rfl)) (ja_cons (r_var (i := 1) rfl (.inr (.inl rfl)) rfl rfl rfl) r_nil rfl) rfl) rfl)) (r_seq (r_if no_tr (jt_cmp G (o := .eq) (JE.toB (r_var (i := 2) rfl (.inl rfl) rfl rfl rfl)) (JE.toB (r_str rfl rfl)) rfl) (r_one (r_ret no_tr (je_ite (jt_cmp G (o := .notn) (JE.toB (r_var (i := 6) rfl (.inl rfl) rfl rfl rfl)) (JE.toB r_non) rfl) (je_tup (ja_cons (r_str rfl rfl) (ja_cons (je_ix G (JE.toB (r_var (i := 0) rfl (.inl rfl) rfl rfl rfl)) (JE.toB r_int) (fun _ _ => rfl)) (ja_cons (r_var (i := 6) rfl (.inl rfl) rfl rfl rfl) r_nil rfl) rfl) rfl)) r_non))) (r_end rfl)) (r_one (r_ret no_tr (je_ite (PW.pt (jt_and (jt_cmp G (o := .notn) (JE.toB (r_var (i := 6) rfl (.inl rfl) rfl rfl rfl)) (JE.toB r_non) rfl) (pw_and1 (jt_cmp G (o := .eq) (JE.toB (r_sl (JE.toB (r_var (i := 6) rfl (.inl rfl) rfl rfl rfl)) r_noO (r_soO r_int))) (JE.toB (je_tup (ja_cons (r_str rfl rfl) (ja_cons (je_ix G (JE.toB (r_var (i := 0) rfl (.inl rfl) rfl rfl rfl)) (JE.toB r_int) (fun _ _ => rfl)) r_nil rfl) rfl))) rfl)))) (je_ix G (JE.toB (r_var (i := 6) rfl (.inl rfl) rfl rfl rfl)) (JE.toB r_int) (fun _ _ => rfl)) r_non))))) (r_end rfl)) (r_seq (r_set G no_tr (i := 6) rfl (.inl rfl) (.inl rfl) rfl rfl (je_call G (F.at o rfl (by omega)) rfl rfl (ja_cons (je_ix G (JE.toB (r_var (i := 0) rfl (.inl rfl) rfl rfl rfl)) (JE.toB r_int) (fun _ _ => rfl)) (ja_cons (r_var (i := 1) rfl (.inr (.inl rfl)) rfl rfl rfl) r_nil rfl) rfl) rfl)) (r_seq (r_if no_tr (jt_cmp G (o := .isn) (JE.toB (r_var (i := 6) rfl (.inl rfl) rfl rfl rfl)) (JE.toB r_non) rfl) (r_one (r_ret no_tr r_non)) (r_end rfl)) (r_seq (r_if no_tr (jt_cmp G (o := .eq) (JE.toB (r_var (i := 2) rfl (.inl rfl) rfl rfl rfl)) (JE.toB (r_str rfl rfl)) rfl) (r_one (r_ret no_tr (je_tup (ja_cons (r_str rfl rfl) (ja_cons (r_var (i := 6) rfl (.inl rfl) rfl rfl rfl) (ja_cons (je_ix G (JE.toB (r_var (i := 0) rfl (.inl rfl) rfl rfl rfl)) (JE.toB r_int) (fun _ _ => rfl)) (ja_cons (je_ix G (JE.toB (r_var (i := 0) rfl (.inl rfl) rfl rfl rfl)) (JE.toB r_int) (fun _ _ => rfl)) r_nil rfl) rfl) rfl) rfl)))) (r_end rfl)) (r_seq (r_if no_tr (jt_cmp G (o := .eq) (JE.toB (r_var (i := 2) rfl (.inl rfl) rfl rfl rfl)) (JE.toB (r_str rfl rfl)) rfl) (r_one (r_ret no_tr (je_tup (ja_cons (r_str rfl rfl) (ja_cons (r_var (i := 6) rfl (.inl rfl) rfl rfl rfl) r_nil rfl) rfl)))) (r_end rfl)) (r_seq (r_if no_tr (jt_cmp G (o := .inn) (JE.toB (r_var (i := 2) rfl (.inl rfl) rfl rfl rfl)) (JE.toB (je_tup (ja_cons (r_str rfl rfl) (ja_cons (r_str rfl rfl) r_nil rfl) rfl))) rfl) (r_one (r_ret no_tr (je_ite (jt_cmp G (o := .eq) (JE.toB (je_ix G (JE.toB (r_var (i := 6) rfl (.inl rfl) rfl rfl rfl)) (JE.toB r_int) (fun _ _ => rfl))) (JE.toB (r_str rfl rfl)) rfl) (je_ix G (JE.toB (r_var (i := 6) rfl (.inl rfl) rfl rfl rfl)) (JE.toB (je_ite (jt_cmp G (o := .eq) (JE.toB (r_var (i := 2) rfl (.inl rfl) rfl rfl rfl)) (JE.toB (r_str rfl rfl)) rfl) r_int r_int)) (fun _ _ => rfl)) r_non))) (r_end rfl)) (r_seq (r_set G no_tr (i := 7) rfl (.inl rfl) (.inl rfl) rfl rfl (je_call G (F.at o rfl (by omega)) rfl rfl (ja_cons (je_ix G (JE.toB (r_var (i := 0) rfl (.inl rfl) rfl rfl rfl)) (JE.toB r_int) (fun _ _ => rfl)) (ja_cons (r_var (i := 1) rfl (.inr (.inl rfl)) rfl rfl rfl) r_nil rfl) rfl) rfl)) (r_seq (r_if no_tr (jt_cmp G (o := .isn) (JE.toB (r_var (i := 7) rfl (.inl rfl) rfl rfl rfl)) (JE.toB r_non) rfl) (r_one (r_ret no_tr r_non)) (r_end rfl)) (r_seq (r_if no_tr (jt_cmp G (o := .eq) (JE.toB (r_var (i := 2) rfl (.inl rfl) rfl rfl rfl)) (JE.toB (r_str rfl rfl)) rfl) (r_one (r_ret no_tr (je_ite (jt_cmp G (o := .eq) (JE.toB (je_ix G (JE.toB (r_var (i := 6) rfl (.inl rfl) rfl rfl rfl)) (JE.toB r_int) (fun _ _ => rfl))) (JE.toB (r_str rfl rfl)) rfl) (je_tup (ja_cons (r_str rfl rfl) (ja_cons (je_ix G (JE.toB (r_var (i := 6) rfl (.inl rfl) rfl rfl rfl)) (JE.toB r_int) (fun _ _ => rfl)) (ja_cons (r_var (i := 7) rfl (.inl rfl) rfl rfl rfl) r_nil rfl) rfl) rfl)) r_non))) (r_end rfl)) (r_seq (r_if no_tr (jt_cmp G (o := .eq) (JE.toB (r_var (i := 2) rfl (.inl rfl) rfl rfl rfl)) (JE.toB (r_str rfl rfl)) rfl) (r_one (r_ret no_tr (je_ite (jt_cmp G (o := .eq) (JE.toB (r_sl (JE.toB (r_var (i := 6) rfl (.inl rfl) rfl rfl rfl)) r_noO (r_soO r_int))) (JE.toB (je_tup (ja_cons (r_str rfl rfl) (ja_cons (r_var (i := 7) rfl (.inl rfl) rfl rfl rfl) r_nil rfl) rfl))) rfl) (je_ix G (JE.toB (r_var (i := 6) rfl (.inl rfl) rfl rfl rfl)) (JE.toB r_int) (fun _ _ => rfl)) r_non))) (r_end rfl)) (r_seq (r_if no_tr (jt_cmp G (o := .eq) (JE.toB (r_var (i := 2) rfl (.inl rfl) rfl rfl rfl)) (JE.toB (r_str rfl rfl)) rfl) (r_one (r_ret no_tr (je_ite (PW.pt (jt_and (jt_cmp G (o := .eq) (JE.toB (je_ix G (JE.toB (r_var (i := 6) rfl (.inl rfl) rfl rfl rfl)) (JE.toB r_int) (fun _ _ => rfl))) (JE.toB (r_str rfl rfl)) rfl) (pw_and1 (jt_cmp G (o := .eq) (JE.toB (r_var (i := 7) rfl (.inl rfl) rfl rfl rfl)) (JE.toB (je_tup (ja_cons (r_str rfl rfl) (ja_cons (je_ix G (JE.toB (r_var (i := 6) rfl (.inl rfl) rfl rfl rfl)) (JE.toB r_int) (fun _ _ => rfl)) r_nil rfl) rfl))) rfl)))) (je_ix G (JE.toB (r_var (i := 6) rfl (.inl rfl) rfl rfl rfl)) (JE.toB r_int) (fun _ _ => rfl)) r_non))) (r_end rfl)) (r_one (r_ret no_tr (je_tup (ja_cons (r_var (i := 2) rfl (.inl rfl) rfl rfl rfl) (ja_cons (r_var (i := 6) rfl (.inl rfl) rfl rfl rfl) (ja_cons (r_var (i := 7) rfl (.inl rfl) rfl rfl rfl) r_nil rfl) rfl) rfl)))))))))))))))))))⟩
/-! ### is_row -/
abbrev N_is_row : List Str := ["thing", "many"]
theorem sc_is_row : FnScope N_is_row ["thing", "many"] (defScope (top 7)) := ⟨rfl, rfl, rfl, by decide +kernel, rfl, by decide +kernel, by decide +kernel⟩
def b_is_row : RS := (seqR (retR (andR (ap1R (builtin .isTuple) (varR 0)) (cmpR .eq (ap1R (builtin .len) (varR 0)) (varR 1)))) nopR)
def f_is_row : List Val → Wd → R Val := fixR 2 2 b_is_row
theorem k_is_row (T : Tx P w K mg base Cx) : FnK P w K mg base (nm Cx) "is_row" 1 f_is_row := by
  refine fnk_fix T.d_is_row sc_is_row (O := ow []) (by decide) (by decide) (fun _ _ _ _ _ _ us hl => match us, hl with | [_, _], _ => rfl) ?_
  intro a cdv A outer s H E μ hr
  have G := gd_cx (P := P) (w := w) (K := K) (mg := mg) (base := base) (Nn := nm Cx) (N := N_is_row) (O := ow []) (outer := outer) (H := H) (E := E) sc_is_row.nd hr
  have o := of_cx (P := P) (w := w) (K := K) (mg := mg) (base := base) (N := N_is_row) (outer := outer) (H := H) (E := E) hr
  have hp : PassesOwn (model P w) _ _ _ := passes_of (X := cxOf (L2.CX P w) P w K mg base N_is_row "is_row" (defScope (top 7)) a cdv A outer s H E) rfl
  unfold b_is_row
  exact ⟨ow [], (r_one (r_ret no_tr (je_and (je_is G (b := .isTuple) rfl rfl T.n_isinstance rfl T.n_tuple (JE.toB (r_var (i := 0) rfl (.inl rfl) rfl rfl rfl)) rfl) (je_one (je_cmp G (o := .eq) (JE.toB (je_bi G (b := .len) (.inl rfl) rfl rfl T.n_len (JE.toB (r_var (i := 0) rfl (.inl rfl) rfl rfl rfl)) rfl)) (JE.toB (r_var (i := 1) rfl (.inl rfl) rfl rfl rfl)) rfl)))))⟩
/-! ### is_whole -/
abbrev N_is_whole : List Str := ["thing"]
theorem sc_is_whole : FnScope N_is_whole ["thing"] (defScope (top 5)) := ⟨rfl, rfl, rfl, by decide +kernel, rfl, by decide +kernel, by decide +kernel⟩
def b_is_whole : RS := (seqR (retR (andR (ap1R (builtin .isInt) (varR 0)) (notR (ap1R (builtin .isBool) (varR 0))))) nopR)
def f_is_whole : List Val → Wd → R Val := fixR 1 1 b_is_whole
theorem k_is_whole (T : Tx P w K mg base Cx) : FnK P w K mg base (nm Cx) "is_whole" 1 f_is_whole := by
  refine fnk_fix T.d_is_whole sc_is_whole (O := ow []) (by decide) (by decide) (fun _ _ _ _ _ _ us hl => match us, hl with | [_], _ => rfl) ?_
  intro a cdv A outer s H E μ hr
  have G := gd_cx (P := P) (w := w) (K := K) (mg := mg) (base := base) (Nn := nm Cx) (N := N_is_whole) (O := ow []) (outer := outer) (H := H) (E := E) sc_is_whole.nd hr
  have o := of_cx (P := P) (w := w) (K := K) (mg := mg) (base := base) (N := N_is_whole) (outer := outer) (H := H) (E := E) hr
  have hp : PassesOwn (model P w) _ _ _ := passes_of (X := cxOf (L2.CX P w) P w K mg base N_is_whole "is_whole" (defScope (top 5)) a cdv A outer s H E) rfl
  unfold b_is_whole
  exact ⟨ow [], (r_one (r_ret no_tr (je_and (je_is G (b := .isInt) rfl rfl T.n_isinstance rfl T.n_int (JE.toB (r_var (i := 0) rfl (.inl rfl) rfl rfl rfl)) rfl) (je_one (je_not (je_is G (b := .isBool) rfl rfl T.n_isinstance rfl T.n_bool (JE.toB (r_var (i := 0) rfl (.inl rfl) rfl rfl rfl)) rfl))))))⟩
/-! ### is_from -/
abbrev N_is_from : List Str := ["thing", "least", "most"]
theorem sc_is_from : FnScope N_is_from ["thing", "least", "most"] (defScope (top 6)) := ⟨rfl, rfl, rfl, by decide +kernel, rfl, by decide +kernel, by decide +kernel⟩
def b_is_from : RS := (seqR (retR (andR (callR f_is_whole (consR (varR 0) nilR)) (cmp2R .le .le (varR 1) (varR 0) (varR 2)))) nopR)
def f_is_from : List Val → Wd → R Val := fixR 3 3 b_is_from
theorem k_is_from (T : Tx P w K mg base Cx) : FnK P w K mg base (nm Cx) "is_from" 2 f_is_from := by
  refine fnk_fix T.d_is_from sc_is_from (O := ow []) (by decide) (by decide) (fun _ _ _ _ _ _ us hl => match us, hl with | [_, _, _], _ => rfl) ?_
  intro a cdv A outer s H E μ hr
  have G := gd_cx (P := P) (w := w) (K := K) (mg := mg) (base := base) (Nn := nm Cx) (N := N_is_from) (O := ow []) (outer := outer) (H := H) (E := E) sc_is_from.nd hr
  have o := of_cx (P := P) (w := w) (K := K) (mg := mg) (base := base) (N := N_is_from) (outer := outer) (H := H) (E := E) hr
  have hp : PassesOwn (model P w) _ _ _ := passes_of (X := cxOf (L2.CX P w) P w K mg base N_is_from "is_from" (defScope (top 6)) a cdv A outer s H E) rfl
  unfold b_is_from
  exact ⟨ow [], (r_one (r_ret no_tr (je_and (je_call G ((k_is_whole T).at o rfl (by decide)) rfl rfl (ja_cons (r_var (i := 0) rfl (.inl rfl) rfl rfl rfl) r_nil rfl) rfl) (je_one (je_cmp2 G (o := .le) (p := .le) (JE.toB (r_var (i := 1) rfl (.inl rfl) rfl rfl rfl)) (JE.toB (r_var (i := 0) rfl (.inl rfl) rfl rfl rfl)) (JE.toB (r_var (i := 2) rfl (.inl rfl) rfl rfl rfl)) rfl)))))⟩
/-! ### is_words -/
abbrev N_is_words : List Str := ["thing", "sign"]
theorem sc_is_words : FnScope N_is_words ["thing"] (defScope (top 9)) := ⟨rfl, rfl, rfl, by decide +kernel, rfl, by decide +kernel, by decide +kernel⟩
def b_is_words : RS := (seqR (ifR (orR (notR (ap1R (builtin .isStr) (varR 0))) (cmpR .gt (ap1R (builtin .len) (varR 0)) (cstR (.int 30)))) (seqR (retR (cstR (.bl false))) nopR) nopR) (seqR (retR (ap1R (builtin .all) (comp1R (itemsR (varR 0)) (leafL (orR (cmpR .inn (varR 1) (cstR (.str [97, 98, 99, 100, 101, 102, 103, 104, 105, 106, 107, 108, 109, 110, 111, 112, 113, 114, 115, 116, 117, 118, 119, 120, 121, 122]))) (orR (cmpR .inn (varR 1) (cstR (.str [48, 49, 50, 51, 52, 53, 54, 55, 56, 57]))) (cmpR .eq (varR 1) (cstR (.str [32])))))) (.nm 1) yesT [1] finL))) nopR))
def f_is_words : List Val → Wd → R Val := fixR 1 2 b_is_words
theorem k_is_words (T : Tx P w K mg base Cx) : FnK P w K mg base (nm Cx) "is_words" 1 f_is_words := by
  refine fnk_fix T.d_is_words sc_is_words (O := ow []) (by decide) (by decide) (fun _ _ _ _ _ _ us hl => match us, hl with | [_], _ => rfl) ?_
  intro a cdv A outer s H E μ hr
  have G := gd_cx (P := P) (w := w) (K := K) (mg := mg) (base := base) (Nn := nm Cx) (N := N_is_words) (O := ow []) (outer := outer) (H := H) (E := E) sc_is_words.nd hr
  have o := of_cx (P := P) (w := w) (K := K) (mg := mg) (base := base) (N := N_is_words) (outer := outer) (H := H) (E := E) hr
  have hp : PassesOwn (model P w) _ _ _ := passes_of (X := cxOf (L2.CX P w) P w K mg base N_is_words "is_words" (defScope (top 9)) a cdv A outer s H E) rfl
  unfold b_is_words
  exact ⟨ow [], (r_seq (r_if no_tr (PW.pt (jt_or (jt_not (jt_val (je_is G (b := .isStr) rfl rfl T.n_isinstance rfl T.n_str (JE.toB (r_var (i := 0) rfl (.inl rfl) rfl rfl rfl)) rfl) (fun _ => rfl))) (pw_or1 (jt_cmp G (o := .gt) (JE.toB (je_bi G (b := .len) (.inl rfl) rfl rfl T.n_len (JE.toB (r_var (i := 0) rfl (.inl rfl) rfl rfl rfl)) rfl)) (JE.toB (r_gloI rfl T.c_MOST_TEXT rfl)) rfl)))) (r_one (r_ret no_tr r_bl)) (r_end rfl)) (r_one (r_ret no_tr (JE.toZ (je_bi G (b := .all) (.inr rfl) rfl rfl T.n_all (JE.toB (r_lc1 G rfl (ji_val (r_var (i := 0) rfl (.inl rfl) rfl rfl rfl)) (own := [("sign", 1)]) (blk_ok (N := N_is_words) (sc := defScope (top 9)) (own := [("sign", 1)]) (by decide +kernel)) (fun _ => rfl) (fun s H C cl fp H0 => (jg_nm (Gd.blk G rfl) (i := 1) rfl (.inl rfl) (.inr rfl) rfl)) (fun s H C cl fp H0 => r_yes) (fun s H C cl fp H0 => (je_or (je_cmp (Gd.blk G rfl) (o := .inn) (JE.toB (r_var (i := 1) rfl (.inl rfl) rfl rfl rfl)) (JE.toB (r_gloS rfl T.c_LETTERS rfl rfl)) rfl) (je_or (je_cmp (Gd.blk G rfl) (o := .inn) (JE.toB (r_var (i := 1) rfl (.inl rfl) rfl rfl rfl)) (JE.toB (r_gloS rfl T.c_FIGURES rfl rfl)) rfl) (je_one (je_cmp (Gd.blk G rfl) (o := .eq) (JE.toB (r_var (i := 1) rfl (.inl rfl) rfl rfl rfl)) (JE.toB (r_str rfl rfl)) rfl))))) rfl)) rfl)))))⟩
/-! ### is_name -/
abbrev N_is_name : List Str := ["thing", "sign"]
theorem sc_is_name : FnScope N_is_name ["thing"] (defScope (top 8)) := ⟨rfl, rfl, rfl, by decide +kernel, rfl, by decide +kernel, by decide +kernel⟩
def b_is_name : RS := (seqR (ifR (orR (notR (ap1R (builtin .isStr) (varR 0))) (orR (notR (cmp2R .le .le (cstR (.int 1)) (ap1R (builtin .len) (varR 0)) (cstR (.int 8)))) (cmpR .nin (ixR (varR 0) (cstR (.int 0))) (cstR (.str [97, 98, 99, 100, 101, 102, 103, 104, 105, 106, 107, 108, 109, 110, 111, 112, 113, 114, 115, 116, 117, 118, 119, 120, 121, 122]))))) (seqR (retR (cstR (.bl false))) nopR) nopR) (seqR (retR (ap1R (builtin .all) (comp1R (itemsR (varR 0)) (leafL (orR (cmpR .inn (varR 1) (cstR (.str [97, 98, 99, 100, 101, 102, 103, 104, 105, 106, 107, 108, 109, 110, 111, 112, 113, 114, 115, 116, 117, 118, 119, 120, 121, 122]))) (cmpR .inn (varR 1) (cstR (.str [48, 49, 50, 51, 52, 53, 54, 55, 56, 57]))))) (.nm 1) yesT [1] finL))) nopR))
def f_is_name : List Val → Wd → R Val := fixR 1 2 b_is_name
theorem k_is_name (T : Tx P w K mg base Cx) : FnK P w K mg base (nm Cx) "is_name" 1 f_is_name := by
  refine fnk_fix T.d_is_name sc_is_name (O := ow []) (by decide) (by decide) (fun _ _ _ _ _ _ us hl => match us, hl with | [_], _ => rfl) ?_
  intro a cdv A outer s H E μ hr
  have G := gd_cx (P := P) (w := w) (K := K) (mg := mg) (base := base) (Nn := nm Cx) (N := N_is_name) (O := ow []) (outer := outer) (H := H) (E := E) sc_is_name.nd hr
  have o := of_cx (P := P) (w := w) (K := K) (mg := mg) (base := base) (N := N_is_name) (outer := outer) (H := H) (E := E) hr
  have hp : PassesOwn (model P w) _ _ _ := passes_of (X := cxOf (L2.CX P w) P w K mg base N_is_name "is_name" (defScope (top 8)) a cdv A outer s H E) rfl
  unfold b_is_name
  exact ⟨ow [], (r_seq (r_if no_tr (PW.pt (jt_or (jt_not (jt_val (je_is G (b := .isStr) rfl rfl T.n_isinstance rfl T.n_str (JE.toB (r_var (i := 0) rfl (.inl rfl) rfl rfl rfl)) rfl) (fun _ => rfl))) (jt_or (jt_not (jt_cmp2 G (o := .le) (p := .le) (JE.toB r_int) (JE.toB (je_bi G (b := .len) (.inl rfl) rfl rfl T.n_len (JE.toB (r_var (i := 0) rfl (.inl rfl) rfl rfl rfl)) rfl)) (JE.toB (r_gloI rfl T.c_MOST_NAME rfl)) rfl)) (pw_or1 (jt_cmp G (o := .nin) (JE.toB (je_ix G (JE.toB (r_var (i := 0) rfl (.inl rfl) rfl rfl rfl)) (JE.toB r_int) (fun _ _ => rfl))) (JE.toB (r_gloS rfl T.c_LETTERS rfl rfl)) rfl))))) (r_one (r_ret no_tr r_bl)) (r_end rfl)) (r_one (r_ret no_tr (JE.toZ (je_bi G (b := .all) (.inr rfl) rfl rfl T.n_all (JE.toB (r_lc1 G rfl (ji_val (r_var (i := 0) rfl (.inl rfl) rfl rfl rfl)) (own := [("sign", 1)]) (blk_ok (N := N_is_name) (sc := defScope (top 8)) (own := [("sign", 1)]) (by decide +kernel)) (fun _ => rfl) (fun s H C cl fp H0 => (jg_nm (Gd.blk G rfl) (i := 1) rfl (.inl rfl) (.inr rfl) rfl)) (fun s H C cl fp H0 => r_yes) (fun s H C cl fp H0 => (je_or (je_cmp (Gd.blk G rfl) (o := .inn) (JE.toB (r_var (i := 1) rfl (.inl rfl) rfl rfl rfl)) (JE.toB (r_gloS rfl T.c_LETTERS rfl rfl)) rfl) (je_one (je_cmp (Gd.blk G rfl) (o := .inn) (JE.toB (r_var (i := 1) rfl (.inl rfl) rfl rfl rfl)) (JE.toB (r_gloS rfl T.c_FIGURES rfl rfl)) rfl)))) rfl)) rfl)))))⟩
/-! ### is_atom -/
abbrev N_is_atom : List Str := ["thing"]
theorem sc_is_atom : FnScope N_is_atom ["thing"] (defScope (top 14)) := ⟨rfl, rfl, rfl, by decide +kernel, rfl, by decide +kernel, by decide +kernel⟩
def b_is_atom : RS := (seqR (ifR (orR (notR (callR f_is_row (consR (varR 0) (consR (cstR (.int 2)) nilR)))) (notR (ap1R (builtin .isStr) (ixR (varR 0) (cstR (.int 0)))))) (seqR (retR (cstR (.bl false))) nopR) nopR) (seqR (ifR (cmpR .eq (ixR (varR 0) (cstR (.int 0))) (cstR (.str [110, 117, 109, 98, 101, 114]))) (seqR (retR (callR f_is_from (consR (ixR (varR 0) (cstR (.int 1))) (consR (cstR (.int 0)) (consR (cstR (.int 1000000)) nilR))))) nopR) nopR) (seqR (ifR (cmpR .eq (ixR (varR 0) (cstR (.int 0))) (cstR (.str [116, 101, 120, 116]))) (seqR (retR (callR f_is_words (consR (ixR (varR 0) (cstR (.int 1))) nilR))) nopR) nopR) (seqR (retR (andR (cmpR .inn (ixR (varR 0) (cstR (.int 0))) (tupR (consR (cstR (.str [110, 97, 109, 101])) (starR (cstR (.tup [(.str [107, 101, 121]), (.str [110, 111, 110, 99, 101]), (.str [115, 101, 99, 114, 101, 116])])) nilR)))) (callR f_is_name (consR (ixR (varR 0) (cstR (.int 1))) nilR)))) nopR))))
def f_is_atom : List Val → Wd → R Val := fixR 1 1 b_is_atom
theorem k_is_atom (T : Tx P w K mg base Cx) : FnK P w K mg base (nm Cx) "is_atom" 3 f_is_atom := by
  refine fnk_fix T.d_is_atom sc_is_atom (O := ow []) (by decide) (by decide) (fun _ _ _ _ _ _ us hl => match us, hl with | [_], _ => rfl) ?_
  intro a cdv A outer s H E μ hr
  have G := gd_cx (P := P) (w := w) (K := K) (mg := mg) (base := base) (Nn := nm Cx) (N := N_is_atom) (O := ow []) (outer := outer) (H := H) (E := E) sc_is_atom.nd hr
  have o := of_cx (P := P) (w := w) (K := K) (mg := mg) (base := base) (N := N_is_atom) (outer := outer) (H := H) (E := E) hr
  have hp : PassesOwn (model P w) _ _ _ := passes_of (X := cxOf (L2.CX P w) P w K mg base N_is_atom "is_atom" (defScope (top 14)) a cdv A outer s H E) rfl
  unfold b_is_atom
  exact ⟨ow [], (r_seq (r_if no_tr (PW.pt (jt_or (jt_not (jt_val (je_call G ((k_is_row T).at o rfl (by decide)) rfl rfl (ja_cons (r_var (i := 0) rfl (.inl rfl) rfl rfl rfl) (ja_cons r_int r_nil rfl) rfl) rfl) (fun _ => rfl))) (pw_or1 (jt_not (jt_val (je_is G (b := .isStr) rfl rfl T.n_isinstance rfl T.n_str (JE.toB (je_ix G (JE.toB (r_var (i := 0) rfl (.inl rfl) rfl rfl rfl)) (JE.toB r_int) (fun _ _ => rfl))) rfl) (fun _ => rfl)))))) (r_one (r_ret no_tr r_bl)) (r_end rfl)) (r_seq (r_if no_tr (jt_cmp G (o := .eq) (JE.toB (je_ix G (JE.toB (r_var (i := 0) rfl (.inl rfl) rfl rfl rfl)) (JE.toB r_int) (fun _ _ => rfl))) (JE.toB (r_str rfl rfl)) rfl) (r_one (r_ret no_tr (je_call G ((k_is_from T).at o rfl (by decide)) rfl rfl (ja_cons (je_ix G (JE.toB (r_var (i := 0) rfl (.inl rfl) rfl rfl rfl)) (JE.toB r_int) (fun _ _ => rfl)) (ja_cons r_int (ja_cons (r_gloI rfl T.c_MOST_NUMBER rfl) r_nil rfl) rfl) rfl) rfl))) (r_end rfl)) (r_seq (r_if no_tr (jt_cmp G (o := .eq) (JE.toB (je_ix G (JE.toB (r_var (i := 0) rfl (.inl rfl) rfl rfl rfl)) (JE.toB r_int) (fun _ _ => rfl))) (JE.toB (r_str rfl rfl)) rfl) (r_one (r_ret no_tr (je_call G ((k_is_words T).at o rfl (by decide)) rfl rfl (ja_cons (je_ix G (JE.toB (r_var (i := 0) rfl (.inl rfl) rfl rfl rfl)) (JE.toB r_int) (fun _ _ => rfl)) r_nil rfl) rfl))) (r_end rfl)) (r_one (r_ret no_tr (je_and (je_cmp G (o := .inn) (JE.toB (je_ix G (JE.toB (r_var (i := 0) rfl (.inl rfl) rfl rfl rfl)) (JE.toB r_int) (fun _ _ => rfl))) (JE.toB (je_tup (ja_cons (r_str rfl rfl) (ja_star (JE.toB (r_gloT rfl T.c_UNKNOWN rfl)) r_nil) rfl))) rfl) (je_one (je_call G ((k_is_name T).at o rfl (by decide)) rfl rfl (ja_cons (je_ix G (JE.toB (r_var (i := 0) rfl (.inl rfl) rfl rfl rfl)) (JE.toB r_int) (fun _ _ => rfl)) r_nil rfl) rfl))))))))⟩
/-! ### is_recipe -/
abbrev N_is_recipe : List Str := ["thing", "many", "one"]
theorem sc_is_recipe : FnScope N_is_recipe ["thing", "many"] (defScope (top 17)) := ⟨rfl, rfl, rfl, by decide +kernel, rfl, by decide +kernel, by decide +kernel⟩
def b_is_recipe (self : List Val → Wd → R Val) : RS := (seqR (ifR (andR (callR f_is_row (consR (varR 0) (consR (cstR (.int 2)) nilR))) (cmpR .eq (ixR (varR 0) (cstR (.int 0))) (cstR (.str [97, 116])))) (seqR (retR (callR f_is_from (consR (ixR (varR 0) (cstR (.int 1))) (consR (cstR (.int 0)) (consR (binR .sub (varR 1) (cstR (.int 1))) nilR))))) nopR) nopR) (seqR (ifR (callR f_is_atom (consR (varR 0) nilR)) (seqR (retR (callR f_is_public (consR (varR 0) nilR))) nopR) nopR) (seqR (ifR (orR (notR (ap1R (builtin .isTuple) (varR 0))) (orR (cmpR .eq (ap1R (builtin .len) (varR 0)) (cstR (.int 0))) (notR (ap1R (builtin .isStr) (ixR (varR 0) (cstR (.int 0))))))) (seqR (retR (cstR (.bl false))) nopR) nopR) (seqR (mtR (ixR (varR 0) (cstR (.int 0))) [(some [[112, 97, 105, 114], [115, 101, 97, 108], [115, 105, 103, 110], [111, 112, 101, 110], [117, 110, 108, 111, 99, 107]], (seqR (retR (andR (cmpR .eq (ap1R (builtin .len) (varR 0)) (cstR (.int 3))) (andR (callR self (consR (ixR (varR 0) (cstR (.int 1))) (consR (varR 1) nilR))) (callR self (consR (ixR (varR 0) (cstR (.int 2))) (consR (varR 1) nilR)))))) nopR)), (some [[104, 97, 115, 104], [102, 105, 114, 115, 116], [115, 101, 99, 111, 110, 100]], (seqR (retR (andR (cmpR .eq (ap1R (builtin .len) (varR 0)) (cstR (.int 2))) (callR self (consR (ixR (varR 0) (cstR (.int 1))) (consR (varR 1) nilR))))) nopR)), (some [[108, 111, 99, 107], [98, 121]], (seqR (retR (andR (cmpR .eq (ap1R (builtin .len) (varR 0)) (cstR (.int 3))) (andR (callR f_is_name (consR (ixR (varR 0) (cstR (.int 1))) nilR)) (callR self (consR (ixR (varR 0) (cstR (.int 2))) (consR (varR 1) nilR)))))) nopR)), (some [[115, 104, 97, 114, 101]], (seqR (ifR (orR (cmpR .ne (ap1R (builtin .len) (varR 0)) (cstR (.int 4))) (orR (notR (callR f_is_from (consR (ixR (varR 0) (cstR (.int 2))) (consR (cstR (.int 1)) (consR (cstR (.int 9)) nilR))))) (notR (callR f_is_from (consR (ixR (varR 0) (cstR (.int 3))) (consR (cstR (.int 1)) (consR (cstR (.int 9)) nilR))))))) (seqR (retR (cstR (.bl false))) nopR) nopR) (seqR (retR (callR self (consR (ixR (varR 0) (cstR (.int 1))) (consR (varR 1) nilR)))) nopR))), (some [[106, 111, 105, 110]], (seqR (ifR (orR (cmpR .ne (ap1R (builtin .len) (varR 0)) (cstR (.int 2))) (orR (notR (ap1R (builtin .isTuple) (ixR (varR 0) (cstR (.int 1))))) (cmpR .eq (ixR (varR 0) (cstR (.int 1))) (tupR nilR)))) (seqR (retR (cstR (.bl false))) nopR) nopR) (seqR (retR (ap1R (builtin .all) (comp1R (itemsR (ixR (varR 0) (cstR (.int 1)))) (leafL (callR self (consR (varR 2) (consR (varR 1) nilR)))) (.nm 2) yesT [2] finL))) nopR)))]) (seqR (retR (cstR (.bl false))) nopR)))))
def f_is_recipe : Nat → List Val → Wd → R Val
  | 0 => fun _ _ => .st
  | n + 1 => fixR 2 3 (b_is_recipe (f_is_recipe n))
theorem k_is_recipe (T : Tx P w K mg base Cx) : ∀ n : Nat, FnK P w K mg base (nm Cx) "is_recipe" (3 + n) (f_is_recipe n)
  | 0 => (fnk_st T.d_is_recipe).up (Nat.zero_le _)
  | n + 1 => by
    have F := k_is_recipe T n
    refine fnk_fix (l := 3 + n) T.d_is_recipe sc_is_recipe (O := ow []) (by decide) (by decide) (fun _ _ _ _ _ _ us hl => match us, hl with | [_, _], _ => rfl) ?_
    intro a cdv A outer s H E μ hr
    have G := gd_cx (P := P) (w := w) (K := K) (mg := mg) (base := base) (Nn := nm Cx) (N := N_is_recipe) (O := ow []) (outer := outer) (H := H) (E := E) sc_is_recipe.nd hr
    have o := of_cx (P := P) (w := w) (K := K) (mg := mg) (base := base) (N := N_is_recipe) (outer := outer) (H := H) (E := E) hr
    have hp : PassesOwn (model P w) _ _ _ := passes_of (X := cxOf (L2.CX P w) P w K mg base N_is_recipe "is_recipe" (defScope (top 17)) a cdv A outer s H E) rfl
    unfold b_is_recipe
    exact ⟨ow [], (r_seq (r_if no_tr (PW.pt (jt_and (jt_val (je_call G ((k_is_row T).at o rfl (by omega)) rfl rfl (ja_cons (r_var (i := 0) rfl (.inl rfl) rfl rfl rfl) (ja_cons r_int r_nil rfl) rfl) rfl) (fun _ => rfl)) (pw_and1 (jt_cmp G (o := .eq) (JE.toB (je_ix G (JE.toB (r_var (i := 0) rfl (.inl rfl) rfl rfl rfl)) (JE.toB r_int) (fun _ _ => rfl))) (JE.toB (r_str rfl rfl)) rfl)))) (r_one (r_ret no_tr (je_call G ((k_is_from T).at o rfl (by omega)) rfl rfl (ja_cons (je_ix G (JE.toB (r_var (i := 0) rfl (.inl rfl) rfl rfl rfl)) (JE.toB r_int) (fun _ _ => rfl)) (ja_cons r_int (ja_cons (JE.toZ (r_bin G .sub (JE.toB (r_var (i := 1) rfl (.inr (.inl rfl)) rfl rfl rfl)) (JE.toB r_int))) r_nil rfl) rfl) rfl) rfl))) (r_end rfl)) (r_seq (r_if no_tr (jt_val (je_call G ((k_is_atom T).at o rfl (by omega)) rfl rfl (ja_cons (r_var (i := 0) rfl (.inl rfl) rfl rfl rfl) r_nil rfl) rfl) (fun _ => rfl)) (r_one (r_ret no_tr (je_call G ((k_is_public T).at o rfl (by omega)) rfl rfl (ja_cons (r_var (i := 0) rfl (.inl rfl) rfl rfl rfl) r_nil rfl) rfl))) (r_end rfl)) (r_seq (r_if no_tr (PW.pt (jt_or (jt_not (jt_val (je_is G (b := .isTuple) rfl rfl T.n_isinstance rfl T.n_tuple (JE.toB (r_var (i := 0) rfl (.inl rfl) rfl rfl rfl)) rfl) (fun _ => rfl))) (jt_or (jt_cmp G (o := .eq) (JE.toB (je_bi G (b := .len) (.inl rfl) rfl rfl T.n_len (JE.toB (r_var (i := 0) rfl (.inl rfl) rfl rfl rfl)) rfl)) (JE.toB r_int) rfl) (pw_or1 (jt_not (jt_val (je_is G (b := .isStr) rfl rfl T.n_isinstance rfl T.n_str (JE.toB (je_ix G (JE.toB (r_var (i := 0) rfl (.inl rfl) rfl rfl rfl)) (JE.toB r_int) (fun _ _ => rfl))) rfl) (fun _ => rfl))))))) (r_one (r_ret no_tr r_bl)) (r_end rfl)) (r_seq (js_match (rs := [(some [[112, 97, 105, 114], [115, 101, 97, 108], [115, 105, 103, 110], [111, 112, 101, 110], [117, 110, 108, 111, 99, 107]], (seqR (retR (andR (cmpR .eq (ap1R (builtin .len) (varR 0)) (cstR (.int 3))) (andR (callR (f_is_recipe n) (consR (ixR (varR 0) (cstR (.int 1))) (consR (varR 1) nilR))) (callR (f_is_recipe n) (consR (ixR (varR 0) (cstR (.int 2))) (consR (varR 1) nilR)))))) nopR)), (some [[104, 97, 115, 104], [102, 105, 114, 115, 116], [115, 101, 99, 111, 110, 100]], (seqR (retR (andR (cmpR .eq (ap1R (builtin .len) (varR 0)) (cstR (.int 2))) (callR (f_is_recipe n) (consR (ixR (varR 0) (cstR (.int 1))) (consR (varR 1) nilR))))) nopR)), (some [[108, 111, 99, 107], [98, 121]], (seqR (retR (andR (cmpR .eq (ap1R (builtin .len) (varR 0)) (cstR (.int 3))) (andR (callR f_is_name (consR (ixR (varR 0) (cstR (.int 1))) nilR)) (callR (f_is_recipe n) (consR (ixR (varR 0) (cstR (.int 2))) (consR (varR 1) nilR)))))) nopR)), (some [[115, 104, 97, 114, 101]], (seqR (ifR (orR (cmpR .ne (ap1R (builtin .len) (varR 0)) (cstR (.int 4))) (orR (notR (callR f_is_from (consR (ixR (varR 0) (cstR (.int 2))) (consR (cstR (.int 1)) (consR (cstR (.int 9)) nilR))))) (notR (callR f_is_from (consR (ixR (varR 0) (cstR (.int 3))) (consR (cstR (.int 1)) (consR (cstR (.int 9)) nilR))))))) (seqR (retR (cstR (.bl false))) nopR) nopR) (seqR (retR (callR (f_is_recipe n) (consR (ixR (varR 0) (cstR (.int 1))) (consR (varR 1) nilR)))) nopR))), (some [[106, 111, 105, 110]], (seqR (ifR (orR (cmpR .ne (ap1R (builtin .len) (varR 0)) (cstR (.int 2))) (orR (notR (ap1R (builtin .isTuple) (ixR (varR 0) (cstR (.int 1))))) (cmpR .eq (ixR (varR 0) (cstR (.int 1))) (tupR nilR)))) (seqR (retR (cstR (.bl false))) nopR) nopR) (seqR (retR (ap1R (builtin .all) (comp1R (itemsR (ixR (varR 0) (cstR (.int 1)))) (leafL (callR (f_is_recipe n) (consR (varR 2) (consR (varR 1) nilR)))) (.nm 2) yesT [2] finL))) nopR)))]) G no_tr (JE.toB (je_ix G (JE.toB (r_var (i := 0) rfl (.inl rfl) rfl rfl rfl)) (JE.toB r_int) (fun _ _ => rfl))) (mc_cons (pat_or (r_pats rfl rfl (r_pats rfl rfl (r_pats rfl rfl (r_pats rfl rfl (r_pats rfl rfl pats_nil)))))) (r_one (r_ret no_tr (je_and (je_cmp G (o := .eq) (JE.toB (je_bi G (b := .len) (.inl rfl) rfl rfl T.n_len (JE.toB (r_var (i := 0) rfl (.inl rfl) rfl rfl rfl)) rfl)) (JE.toB r_int) rfl) (je_and (je_call G (F.at o rfl (by omega)) rfl rfl (ja_cons (je_ix G (JE.toB (r_var (i := 0) rfl (.inl rfl) rfl rfl rfl)) (JE.toB r_int) (fun _ _ => rfl)) (ja_cons (r_var (i := 1) rfl (.inr (.inl rfl)) rfl rfl rfl) r_nil rfl) rfl) rfl) (je_one (je_call G (F.at o rfl (by omega)) rfl rfl (ja_cons (je_ix G (JE.toB (r_var (i := 0) rfl (.inl rfl) rfl rfl rfl)) (JE.toB r_int) (fun _ _ => rfl)) (ja_cons (r_var (i := 1) rfl (.inr (.inl rfl)) rfl rfl rfl) r_nil rfl) rfl) rfl)))))) (mc_cons (pat_or (r_pats rfl rfl (r_pats rfl rfl (r_pats rfl rfl pats_nil)))) (r_one (r_ret no_tr (je_and (je_cmp G (o := .eq) (JE.toB (je_bi G (b := .len) (.inl rfl) rfl rfl T.n_len (JE.toB (r_var (i := 0) rfl (.inl rfl) rfl rfl rfl)) rfl)) (JE.toB r_int) rfl) (je_one (je_call G (F.at o rfl (by omega)) rfl rfl (ja_cons (je_ix G (JE.toB (r_var (i := 0) rfl (.inl rfl) rfl rfl rfl)) (JE.toB r_int) (fun _ _ => rfl)) (ja_cons (r_var (i := 1) rfl (.inr (.inl rfl)) rfl rfl rfl) r_nil rfl) rfl) rfl))))) (mc_cons (pat_or (r_pats rfl rfl (r_pats rfl rfl pats_nil))) (r_one (r_ret no_tr (je_and (je_cmp G (o := .eq) (JE.toB (je_bi G (b := .len) (.inl rfl) rfl rfl T.n_len (JE.toB (r_var (i := 0) rfl (.inl rfl) rfl rfl rfl)) rfl)) (JE.toB r_int) rfl) (je_and (je_call G ((k_is_name T).at o rfl (by omega)) rfl rfl (ja_cons (je_ix G (JE.toB (r_var (i := 0) rfl (.inl rfl) rfl rfl rfl)) (JE.toB r_int) (fun _ _ => rfl)) r_nil rfl) rfl) (je_one (je_call G (F.at o rfl (by omega)) rfl rfl (ja_cons (je_ix G (JE.toB (r_var (i := 0) rfl (.inl rfl) rfl rfl rfl)) (JE.toB r_int) (fun _ _ => rfl)) (ja_cons (r_var (i := 1) rfl (.inr (.inl rfl)) rfl rfl rfl) r_nil rfl) rfl) rfl)))))) (mc_cons (r_pat rfl rfl) (r_seq (r_if no_tr (PW.pt (jt_or (jt_cmp G (o := .ne) (JE.toB (je_bi G (b := .len) (.inl rfl) rfl rfl T.n_len (JE.toB (r_var (i := 0) rfl (.inl rfl) rfl rfl rfl)) rfl)) (JE.toB r_int) rfl) (jt_or (jt_not (jt_val (je_call G ((k_is_from T).at o rfl (by omega)) rfl rfl (ja_cons (je_ix G (JE.toB (r_var (i := 0) rfl (.inl rfl) rfl rfl rfl)) (JE.toB r_int) (fun _ _ => rfl)) (ja_cons r_int (ja_cons r_int r_nil rfl) rfl) rfl) rfl) (fun _ => rfl))) (pw_or1 (jt_not (jt_val (je_call G ((k_is_from T).at o rfl (by omega)) rfl rfl (ja_cons (je_ix G (JE.toB (r_var (i := 0) rfl (.inl rfl) rfl rfl rfl)) (JE.toB r_int) (fun _ _ => rfl)) (ja_cons r_int (ja_cons r_int r_nil rfl) rfl) rfl) rfl) (fun _ => rfl))))))) (r_one (r_ret no_tr r_bl)) (r_end rfl)) (r_one (r_ret no_tr (je_call G (F.at o rfl (by omega)) rfl rfl (ja_cons (je_ix G (JE.toB (r_var (i := 0) rfl (.inl rfl) rfl rfl rfl)) (JE.toB r_int) (fun _ _ => rfl)) (ja_cons (r_var (i := 1) rfl (.inr (.inl rfl)) rfl rfl rfl) r_nil rfl) rfl) rfl)))) (mc_cons (r_pat rfl rfl) (r_seq (r_if no_tr (PW.pt (jt_or (jt_cmp G (o := .ne) (JE.toB (je_bi G (b := .len) (.inl rfl) rfl rfl T.n_len (JE.toB (r_var (i := 0) rfl (.inl rfl) rfl rfl rfl)) rfl)) (JE.toB r_int) rfl) (jt_or (jt_not (jt_val (je_is G (b := .isTuple) rfl rfl T.n_isinstance rfl T.n_tuple (JE.toB (je_ix G (JE.toB (r_var (i := 0) rfl (.inl rfl) rfl rfl rfl)) (JE.toB r_int) (fun _ _ => rfl))) rfl) (fun _ => rfl))) (pw_or1 (jt_cmp G (o := .eq) (JE.toB (je_ix G (JE.toB (r_var (i := 0) rfl (.inl rfl) rfl rfl rfl)) (JE.toB r_int) (fun _ _ => rfl))) (JE.toB (je_tup r_nil)) rfl))))) (r_one (r_ret no_tr r_bl)) (r_end rfl)) (r_one (r_ret no_tr (JE.toZ (je_bi G (b := .all) (.inr rfl) rfl rfl T.n_all (JE.toB (r_lc1 G rfl (ji_val (je_ix G (JE.toB (r_var (i := 0) rfl (.inl rfl) rfl rfl rfl)) (JE.toB r_int) (fun _ _ => rfl))) (own := [("one", 2)]) (blk_ok (N := N_is_recipe) (sc := defScope (top 17)) (own := [("one", 2)]) (by decide +kernel)) (fun _ => rfl) (fun s H C cl fp H0 => (jg_nm (Gd.blk G rfl) (i := 2) rfl (.inl rfl) (.inr rfl) rfl)) (fun s H C cl fp H0 => r_yes) (fun s H C cl fp H0 => (je_call (Gd.blk G rfl) (F.at (Of.blk o) rfl (by omega)) rfl rfl (ja_cons (r_var (i := 2) rfl (.inl rfl) rfl rfl rfl) (ja_cons (r_var (i := 1) rfl (.inr (.inl rfl)) rfl rfl rfl) r_nil rfl) rfl) rfl)) rfl)) rfl))))) mc_nil)))))) (r_one (r_ret no_tr r_bl))))))⟩
/-! ### holds -/
abbrev N_holds : List Str := ["test", "frame", "one", "other"]
theorem sc_holds : FnScope N_holds ["test", "frame"] (defScope (top 21)) := ⟨rfl, rfl, rfl, by decide +kernel, rfl, by decide +kernel, by decide +kernel⟩
def b_holds : RS := (seqR (par2R 2 3 false false (callR (f_run 12) (consR (ixR (varR 0) (cstR (.int 0))) (consR (varR 1) nilR))) (callR (f_run 12) (consR (ixR (varR 0) (cstR (.int 1))) (consR (varR 1) nilR)))) (seqR (retR (andR (cmpR .notn (varR 2) (cstR .non)) (cmpR .eq (varR 2) (varR 3)))) nopR))
def f_holds : List Val → Wd → R Val := fixR 2 4 b_holds
theorem k_holds (T : Tx P w K mg base Cx) : FnK P w K mg base (nm Cx) "holds" 14 f_holds := by
  refine fnk_fix T.d_holds sc_holds (O := ow []) (by decide) (by decide) (fun _ _ _ _ _ _ us hl => match us, hl with | [_, _], _ => rfl) ?_
  intro a cdv A outer s H E μ hr
  have G := gd_cx (P := P) (w := w) (K := K) (mg := mg) (base := base) (Nn := nm Cx) (N := N_holds) (O := ow []) (outer := outer) (H := H) (E := E) sc_holds.nd hr
  have o := of_cx (P := P) (w := w) (K := K) (mg := mg) (base := base) (N := N_holds) (outer := outer) (H := H) (E := E) hr
  have hp : PassesOwn (model P w) _ _ _ := passes_of (X := cxOf (L2.CX P w) P w K mg base N_holds "holds" (defScope (top 21)) a cdv A outer s H E) rfl
  unfold b_holds
  exact ⟨ow [], (r_seq (js_par2 G rfl no_tr (i := 2) (j := 3) (o1 := false) (o2 := false) rfl rfl (by decide) rfl rfl (fun _ _ => rfl) (fun _ _ => rfl) rfl rfl (fun _ => rfl) (fun _ => rfl) rfl rfl (je_call G ((k_run T 12).at o rfl (by decide)) rfl rfl (ja_cons (je_ix G (JE.toB (r_var (i := 0) rfl (.inl rfl) rfl rfl rfl)) (JE.toB r_int) (fun _ _ => rfl)) (ja_cons (r_var (i := 1) rfl (.inl rfl) rfl rfl rfl) r_nil rfl) rfl) rfl) (je_call G ((k_run T 12).at o rfl (by decide)) rfl rfl (ja_cons (je_ix G (JE.toB (r_var (i := 0) rfl (.inl rfl) rfl rfl rfl)) (JE.toB r_int) (fun _ _ => rfl)) (ja_cons (r_var (i := 1) rfl (.inl rfl) rfl rfl rfl) r_nil rfl) rfl) rfl) rfl rfl) (r_one (r_ret no_tr (je_and (je_cmp G (o := .notn) (JE.toB (r_var (i := 2) rfl (.inl rfl) rfl rfl rfl)) (JE.toB r_non) rfl) (je_one (je_cmp G (o := .eq) (JE.toB (r_var (i := 2) rfl (.inl rfl) rfl rfl rfl)) (JE.toB (r_var (i := 3) rfl (.inl rfl) rfl rfl rfl)) rfl))))))⟩
/-! ### is_test -/
abbrev N_is_test : List Str := ["thing", "frame", "other", "one"]
theorem sc_is_test : FnScope N_is_test ["thing", "frame", "other"] (defScope (top 22)) := ⟨rfl, rfl, rfl, by decide +kernel, rfl, by decide +kernel, by decide +kernel⟩
def b_is_test : RS := (seqR (ifR (orR (cmpR .ne (ap1R (builtin .len) (varR 1)) (ap1R (builtin .len) (varR 2))) (orR (notR (callR f_is_row (consR (varR 0) (consR (cstR (.int 2)) nilR)))) (notR (ap1R (builtin .all) (comp1R (itemsR (varR 0)) (leafL (callR (f_is_recipe 12) (consR (varR 3) (consR (ap1R (builtin .len) (varR 1)) nilR)))) (.nm 3) yesT [3] finL))))) (seqR (retR (cstR (.bl false))) nopR) nopR) (seqR (retR (cmpR .ne (callR f_holds (consR (varR 0) (consR (varR 1) nilR))) (callR f_holds (consR (varR 0) (consR (varR 2) nilR))))) nopR))
def f_is_test : List Val → Wd → R Val := fixR 3 4 b_is_test
theorem k_is_test (T : Tx P w K mg base Cx) : FnK P w K mg base (nm Cx) "is_test" 16 f_is_test := by
  refine fnk_fix T.d_is_test sc_is_test (O := ow []) (by decide) (by decide) (fun _ _ _ _ _ _ us hl => match us, hl with | [_, _, _], _ => rfl) ?_
  intro a cdv A outer s H E μ hr
  have G := gd_cx (P := P) (w := w) (K := K) (mg := mg) (base := base) (Nn := nm Cx) (N := N_is_test) (O := ow []) (outer := outer) (H := H) (E := E) sc_is_test.nd hr
  have o := of_cx (P := P) (w := w) (K := K) (mg := mg) (base := base) (N := N_is_test) (outer := outer) (H := H) (E := E) hr
  have hp : PassesOwn (model P w) _ _ _ := passes_of (X := cxOf (L2.CX P w) P w K mg base N_is_test "is_test" (defScope (top 22)) a cdv A outer s H E) rfl
  unfold b_is_test
  exact ⟨ow [], (r_seq (r_if no_tr (PW.pt (jt_or (jt_cmp G (o := .ne) (JE.toB (je_bi G (b := .len) (.inl rfl) rfl rfl T.n_len (JE.toB (r_var (i := 1) rfl (.inr (.inl rfl)) rfl rfl rfl)) rfl)) (JE.toB (je_bi G (b := .len) (.inl rfl) rfl rfl T.n_len (JE.toB (r_var (i := 2) rfl (.inl rfl) rfl rfl rfl)) rfl)) rfl) (jt_or (jt_not (jt_val (je_call G ((k_is_row T).at o rfl (by decide)) rfl rfl (ja_cons (r_var (i := 0) rfl (.inl rfl) rfl rfl rfl) (ja_cons r_int r_nil rfl) rfl) rfl) (fun _ => rfl))) (pw_or1 (jt_not (jt_val (je_bi G (b := .all) (.inr rfl) rfl rfl T.n_all (JE.toB (r_lc1 G rfl (ji_val (r_var (i := 0) rfl (.inl rfl) rfl rfl rfl)) (own := [("one", 3)]) (blk_ok (N := N_is_test) (sc := defScope (top 22)) (own := [("one", 3)]) (by decide +kernel)) (fun _ => rfl) (fun s H C cl fp H0 => (jg_nm (Gd.blk G rfl) (i := 3) rfl (.inl rfl) (.inr rfl) rfl)) (fun s H C cl fp H0 => r_yes) (fun s H C cl fp H0 => (je_call (Gd.blk G rfl) ((k_is_recipe T 12).at (Of.blk o) rfl (by decide)) rfl rfl (ja_cons (r_var (i := 3) rfl (.inl rfl) rfl rfl rfl) (ja_cons (JE.toZ (je_bi (Gd.blk G rfl) (b := .len) (.inl rfl) rfl rfl T.n_len (JE.toB (r_var (i := 1) rfl (.inr (.inl rfl)) rfl rfl rfl)) rfl)) r_nil rfl) rfl) rfl)) rfl)) rfl) (fun _ => rfl))))))) (r_one (r_ret no_tr r_bl)) (r_end rfl)) (r_one (r_ret no_tr (je_cmp G (o := .ne) (JE.toB (je_call G ((k_holds T).at o rfl (by decide)) rfl rfl (ja_cons (r_var (i := 0) rfl (.inl rfl) rfl rfl rfl) (ja_cons (r_var (i := 1) rfl (.inr (.inl rfl)) rfl rfl rfl) r_nil rfl) rfl) rfl)) (JE.toB (je_call G ((k_holds T).at o rfl (by decide)) rfl rfl (ja_cons (r_var (i := 0) rfl (.inl rfl) rfl rfl rfl) (ja_cons (r_var (i := 2) rfl (.inl rfl) rfl rfl rfl) r_nil rfl) rfl) rfl)) rfl))))⟩
/-! ### law -/
abbrev N_law : List Str := ["script", "draw", "many", "frame", "other", "turn", "one", "two", "due", "late", "wrong", "step", "thing"]
theorem sc_law : FnScope N_law ["script"] (defScope (top 34)) := ⟨rfl, rfl, rfl, by decide +kernel, rfl, by decide +kernel, by decide +kernel⟩
def b_law : RS := (seqR (setR 2 (binR .add (cstR (.int 1)) (callR f__law_next (consR (varR 1) (consR (cstR (.int 5)) nilR))))) (seqR (unlS [3, 4] (comp1R (rngR (cstR (.int 0)) (cstR (.int 2))) (leafL (ap1R (builtin .tuple) (comp1R (rngR (cstR (.int 0)) (varR 2)) (leafL (callR (f__law_term 6) (consR (varR 1) (consR (cstR (.int 3)) nilR)))) (.nm 5) yesT [5] finL))) (.nm 11) yesT [11] finL)) (seqR (ifR (cmpR .eq (callR f__law_next (consR (varR 1) (consR (cstR (.int 2)) nilR))) (cstR (.int 0))) (seqR (setR 4 (binR .add (slR (varR 3) noO (soO (negR (cstR (.int 1))))) (slR (varR 4) (soO (negR (cstR (.int 1)))) noO))) nopR) nopR) (seqR (forR (rngR (cstR (.int 0)) (cstR (.int 12))) (.nm 5) (seqR (tupS [6, 7] (tupR (consR (callR (f__law_recipe 6) (consR (varR 1) (consR (varR 2) (consR (cstR (.int 3)) nilR)))) (consR (callR (f__law_recipe 6) (consR (varR 1) (consR (varR 2) (consR (cstR (.int 2)) nilR)))) nilR)))) (seqR (ifR (orR (notR (callR (f_is_recipe 12) (consR (varR 6) (consR (varR 2) nilR)))) (orR (cmpR .ne (callR (f_run 12) (consR (varR 6) (consR (varR 3) nilR))) (callR (f__law_run 12) (consR (varR 6) (consR (varR 3) nilR)))) (cmpR .ne (callR (f_recipe_size 12) (consR (varR 6) nilR)) (callR (f__law_size 12) (consR (varR 6) nilR))))) (seqR (retR (cstR (.bl false))) nopR) nopR) (seqR (setR 8 (andR (cmpR .notn (callR (f__law_run 12) (consR (varR 6) (consR (varR 3) nilR))) (cstR .non)) (cmpR .eq (callR (f__law_run 12) (consR (varR 6) (consR (varR 3) nilR))) (callR (f__law_run 12) (consR (varR 7) (consR (varR 3) nilR)))))) (seqR (setR 9 (andR (cmpR .notn (callR (f__law_run 12) (consR (varR 6) (consR (varR 4) nilR))) (cstR .non)) (cmpR .eq (callR (f__law_run 12) (consR (varR 6) (consR (varR 4) nilR))) (callR (f__law_run 12) (consR (varR 7) (consR (varR 4) nilR)))))) (seqR (ifR (orR (cmpR .ne (callR f_holds (consR (tupR (consR (varR 6) (consR (varR 7) nilR))) (consR (varR 3) nilR))) (varR 8)) (cmpR .ne (callR f_is_test (consR (tupR (consR (varR 6) (consR (varR 7) nilR))) (consR (varR 3) (consR (varR 4) nilR)))) (cmpR .ne (varR 8) (varR 9)))) (seqR (retR (cstR (.bl false))) nopR) nopR) nopR)))))) (seqR (setR 6 (tupR (consR (cstR (.str [97, 116])) (consR (cstR (.int 0)) nilR)))) (seqR (setR 10 (lstR (consR (cstR .non) (consR (tupR nilR) (consR (tupR (consR (cstR (.str [97, 116])) (consR (varR 2) nilR))) (consR (tupR (consR (cstR (.str [97, 116])) (consR (negR (cstR (.int 1))) nilR))) (consR (tupR (consR (cstR (.str [97, 116])) (consR (cstR (.bl true)) nilR))) (consR (tupR (consR (cstR (.str [97, 116])) nilR)) (consR (tupR (consR (cstR (.str [107, 101, 121])) (consR (cstR (.str [107])) nilR))) (consR (tupR (consR (cstR (.str [115, 101, 99, 114, 101, 116])) (consR (cstR (.str [112])) nilR))) (consR (tupR (consR (cstR (.str [110, 111, 110, 99, 101])) (consR (cstR (.str [110])) nilR))) (consR (tupR (consR (cstR (.str [112, 97, 105, 114])) (consR (varR 6) nilR))) (consR (tupR (consR (cstR (.str [104, 97, 115, 104])) (consR (cstR .non) nilR))) (consR (tupR (consR (cstR (.str [108, 111, 99, 107])) (consR (varR 6) (consR (varR 6) nilR)))) (consR (tupR (consR (cstR (.str [98, 121])) (consR (cstR (.str [80])) (consR (varR 6) nilR)))) (consR (tupR (consR (cstR (.str [115, 104, 97, 114, 101])) (consR (varR 6) (consR (cstR (.int 0)) (consR (cstR (.int 1)) nilR))))) (consR (tupR (consR (cstR (.str [115, 104, 97, 114, 101])) (consR (varR 6) (consR (cstR (.int 1)) nilR)))) (consR (tupR (consR (cstR (.str [106, 111, 105, 110])) (consR (tupR nilR) nilR))) (consR (tupR (consR (cstR (.str [106, 111, 105, 110])) (consR (varR 6) nilR))) nilR))))))))))))))))))) (seqR (setR 10 (binR .add (varR 10) (lstR (consR (tupR (consR (cstR (.str [106, 111, 105, 110])) (consR (lstR (consR (varR 6) nilR)) nilR))) (consR (tupR (consR (cstR (.str [111, 112, 101, 110])) (consR (varR 6) nilR))) (consR (tupR (consR (cstR (.str [102, 105, 114, 115, 116])) (consR (varR 6) (consR (varR 6) nilR)))) (consR (tupR (consR (cstR (.str [103, 111])) (consR (varR 6) nilR))) (consR (lstR (consR (cstR (.str [97, 116])) (consR (cstR (.int 0)) nilR))) (consR (tupR (consR (cstR (.str [110, 97, 109, 101])) (consR (cstR (.str [65])) nilR))) (consR (tupR (consR (cstR (.str [115, 105, 103, 110])) (consR (cstR (.str [112])) (consR (varR 6) nilR)))) (consR (cstR (.str [97, 116])) (consR (cstR (.int 3)) nilR)))))))))))) (seqR (ifR (orR (ap1R (builtin .any) (comp1R (itemsR (varR 10)) (leafL (callR (f_is_recipe 12) (consR (varR 12) (consR (varR 2) nilR)))) (.nm 12) yesT [12] finL)) (ap1R (builtin .any) (comp1R (itemsR (varR 10)) (leafL (callR f_is_test (consR (tupR (consR (varR 6) (consR (varR 12) nilR))) (consR (varR 3) (consR (varR 4) nilR))))) (.nm 12) yesT [12] finL))) (seqR (retR (cstR (.bl false))) nopR) nopR) (seqR (retR (andR (notR (callR f_is_test (consR (tupR (consR (varR 6) nilR)) (consR (varR 3) (consR (varR 4) nilR))))) (andR (notR (callR f_is_test (consR (cstR .non) (consR (varR 3) (consR (varR 4) nilR))))) (notR (callR f_is_test (consR (tupR (consR (tupR (consR (cstR (.str [110, 117, 109, 98, 101, 114])) (consR (cstR (.int 0)) nilR))) (consR (tupR (consR (cstR (.str [110, 117, 109, 98, 101, 114])) (consR (cstR (.int 0)) nilR))) nilR))) (consR (varR 3) (consR (slR (varR 4) noO (soO (negR (cstR (.int 1))))) nilR)))))))) nopR)))))))))
theorem d_law (T : Tx P w K mg base Cx) : ∀ (a : Addr) (cdv : Value), BodyOk P w K mg base (nm Cx) 16 N_law "law" (defScope (top 34)) a cdv (defBody (top 34)).tail (ow []) b_law := by
  intro a cdv A outer s H E μ hr
  have G := gd_cx (P := P) (w := w) (K := K) (mg := mg) (base := base) (Nn := nm Cx) (N := N_law) (O := ow []) (outer := outer) (H := H) (E := E) sc_law.nd hr
  have o := of_cx (P := P) (w := w) (K := K) (mg := mg) (base := base) (N := N_law) (outer := outer) (H := H) (E := E) hr
  have hp : PassesOwn (model P w) _ _ _ := passes_of (X := cxOf (L2.CX P w) P w K mg base N_law "law" (defScope (top 34)) a cdv A outer s H E) rfl
  unfold b_law
  exact ⟨ow [], (r_seq (r_set G no_tr (i := 2) rfl (.inr rfl) (.inl rfl) rfl rfl (JE.toZ (r_bin G .add (JE.toB r_int) (JE.toB (je_call G ((k__law_next T).at o rfl (by decide)) rfl rfl (ja_cons (r_var (i := 1) rfl (.inr (.inl rfl)) rfl rfl rfl) (ja_cons r_int r_nil rfl) rfl) rfl))))) (r_seq (js_unl G rfl no_tr (es := [("frame", _), ("other", _)]) (is := [3, 4]) ⟨rfl, (.inr rfl), (.inl rfl), rfl, ⟨rfl, (.inr rfl), (.inl rfl), rfl, trivial⟩⟩ (JE.toZ (r_lc1 G rfl (r_rng1 G rfl T.n_range r_int rfl) (own := [("step", 11)]) (blk_ok (N := N_law) (sc := defScope (top 34)) (own := [("step", 11)]) (by decide +kernel)) (fun _ => rfl) (fun s H C cl fp H0 => (jg_nm (Gd.blk G rfl) (i := 11) rfl (.inl rfl) (.inr rfl) rfl)) (fun s H C cl fp H0 => r_yes) (fun s H C cl fp H0 => (JE.toZ (je_bi (Gd.blk G rfl) (b := .tuple) (.inl rfl) rfl rfl T.n_tuple (JE.toB (r_lc1 (Gd.blk G rfl) rfl (r_rng1 (Gd.blk G rfl) rfl T.n_range (r_var (i := 2) rfl (.inr (.inl rfl)) rfl rfl rfl) rfl) (own := [("turn", 5)]) (blk_ok (N := N_law) (own := [("turn", 5)]) (by kernel_rfl)) (fun _ => rfl) (fun s H C cl fp H0 => (jg_nm (Gd.blk2 G rfl) (i := 5) rfl (.inl rfl) (.inr rfl) rfl)) (fun s H C cl fp H0 => r_yes) (fun s H C cl fp H0 => (je_call (Gd.blk2 G rfl) ((k__law_term T 6).at (Of.blk (Of.blk o)) rfl (by decide)) rfl rfl (ja_cons (r_var (i := 1) rfl (.inr (.inl rfl)) rfl rfl rfl) (ja_cons r_int r_nil rfl) rfl) rfl)) rfl)) rfl))) rfl)) rfl rfl rfl) (r_seq (r_if no_tr (jt_cmp G (o := .eq) (JE.toB (je_call G ((k__law_next T).at o rfl (by decide)) rfl rfl (ja_cons (r_var (i := 1) rfl (.inr (.inl rfl)) rfl rfl rfl) (ja_cons r_int r_nil rfl) rfl) rfl)) (JE.toB r_int) rfl) (r_seq (r_set G no_tr (i := 4) rfl (.inr rfl) (.inl rfl) rfl rfl (JE.toZ (r_bin G .add (JE.toB (r_sl (JE.toB (r_var (i := 3) rfl (.inr (.inl rfl)) rfl rfl rfl)) r_noO (r_soO (je_neg r_int)))) (JE.toB (r_sl (JE.toB (r_var (i := 4) rfl (.inr (.inl rfl)) rfl rfl rfl)) (r_soO (je_neg r_int)) r_noO))))) (r_end rfl)) (r_end rfl)) (r_seq (js_for G rfl hp no_tr (r_rng1 G rfl T.n_range r_int rfl) (jg_nm G (i := 5) rfl (.inl rfl) (.inl rfl) rfl) (r_seq (r_tup G rfl no_tr (es := [("one", _), ("two", _)]) (is := [6, 7]) ⟨rfl, (.inr rfl), (.inl rfl), rfl, ⟨rfl, (.inl rfl), (.inl rfl), rfl, trivial⟩⟩ (je_tup (ja_cons (je_call G ((k__law_recipe T 6).at o rfl (by decide)) rfl rfl (ja_cons (r_var (i := 1) rfl (.inr (.inl rfl)) rfl rfl rfl) (ja_cons (r_var (i := 2) rfl (.inr (.inl rfl)) rfl rfl rfl) (ja_cons r_int r_nil rfl) rfl) rfl) rfl) (ja_cons (je_call G ((k__law_recipe T 6).at o rfl (by decide)) rfl rfl (ja_cons (r_var (i := 1) rfl (.inr (.inl rfl)) rfl rfl rfl) (ja_cons (r_var (i := 2) rfl (.inr (.inl rfl)) rfl rfl rfl) (ja_cons r_int r_nil rfl) rfl) rfl) rfl) r_nil rfl) rfl)) rfl rfl rfl) (r_seq (r_if no_tr (PW.pt (jt_or (jt_not (jt_val (je_call G ((k_is_recipe T 12).at o rfl (by decide)) rfl rfl (ja_cons (r_var (i := 6) rfl (.inr (.inl rfl)) rfl rfl rfl) (ja_cons (r_var (i := 2) rfl (.inr (.inl rfl)) rfl rfl rfl) r_nil rfl) rfl) rfl) (fun _ => rfl))) (jt_or (jt_cmp G (o := .ne) (JE.toB (je_call G ((k_run T 12).at o rfl (by decide)) rfl rfl (ja_cons (r_var (i := 6) rfl (.inr (.inl rfl)) rfl rfl rfl) (ja_cons (r_var (i := 3) rfl (.inr (.inl rfl)) rfl rfl rfl) r_nil rfl) rfl) rfl)) (JE.toB (je_call G ((k__law_run T 12).at o rfl (by decide)) rfl rfl (ja_cons (r_var (i := 6) rfl (.inr (.inl rfl)) rfl rfl rfl) (ja_cons (r_var (i := 3) rfl (.inr (.inl rfl)) rfl rfl rfl) r_nil rfl) rfl) rfl)) rfl) (pw_or1 (jt_cmp G (o := .ne) (JE.toB (je_call G ((k_recipe_size T 12).at o rfl (by decide)) rfl rfl (ja_cons (r_var (i := 6) rfl (.inr (.inl rfl)) rfl rfl rfl) r_nil rfl) rfl)) (JE.toB (je_call G ((k__law_size T 12).at o rfl (by decide)) rfl rfl (ja_cons (r_var (i := 6) rfl (.inr (.inl rfl)) rfl rfl rfl) r_nil rfl) rfl)) rfl))))) (r_one (r_ret no_tr r_bl)) (r_end rfl)) (r_seq (r_set G no_tr (i := 8) rfl (.inl rfl) (.inl rfl) rfl rfl (je_and (je_cmp G (o := .notn) (JE.toB (je_call G ((k__law_run T 12).at o rfl (by decide)) rfl rfl (ja_cons (r_var (i := 6) rfl (.inr (.inl rfl)) rfl rfl rfl) (ja_cons (r_var (i := 3) rfl (.inr (.inl rfl)) rfl rfl rfl) r_nil rfl) rfl) rfl)) (JE.toB r_non) rfl) (je_one (je_cmp G (o := .eq) (JE.toB (je_call G ((k__law_run T 12).at o rfl (by decide)) rfl rfl (ja_cons (r_var (i := 6) rfl (.inr (.inl rfl)) rfl rfl rfl) (ja_cons (r_var (i := 3) rfl (.inr (.inl rfl)) rfl rfl rfl) r_nil rfl) rfl) rfl)) (JE.toB (je_call G ((k__law_run T 12).at o rfl (by decide)) rfl rfl (ja_cons (r_var (i := 7) rfl (.inl rfl) rfl rfl rfl) (ja_cons (r_var (i := 3) rfl (.inr (.inl rfl)) rfl rfl rfl) r_nil rfl) rfl) rfl)) rfl)))) (r_seq (r_set G no_tr (i := 9) rfl (.inl rfl) (.inl rfl) rfl rfl (je_and (je_cmp G (o := .notn) (JE.toB (je_call G ((k__law_run T 12).at o rfl (by decide)) rfl rfl (ja_cons (r_var (i := 6) rfl (.inr (.inl rfl)) rfl rfl rfl) (ja_cons (r_var (i := 4) rfl (.inr (.inl rfl)) rfl rfl rfl) r_nil rfl) rfl) rfl)) (JE.toB r_non) rfl) (je_one (je_cmp G (o := .eq) (JE.toB (je_call G ((k__law_run T 12).at o rfl (by decide)) rfl rfl (ja_cons (r_var (i := 6) rfl (.inr (.inl rfl)) rfl rfl rfl) (ja_cons (r_var (i := 4) rfl (.inr (.inl rfl)) rfl rfl rfl) r_nil rfl) rfl) rfl)) (JE.toB (je_call G ((k__law_run T 12).at o rfl (by decide)) rfl rfl (ja_cons (r_var (i := 7) rfl (.inl rfl) rfl rfl rfl) (ja_cons (r_var (i := 4) rfl (.inr (.inl rfl)) rfl rfl rfl) r_nil rfl) rfl) rfl)) rfl)))) (r_one (r_if no_tr (PW.pt (jt_or (jt_cmp G (o := .ne) (JE.toB (je_call G ((k_holds T).at o rfl (by decide)) rfl rfl (ja_cons (je_tup (ja_cons (r_var (i := 6) rfl (.inr (.inl rfl)) rfl rfl rfl) (ja_cons (r_var (i := 7) rfl (.inl rfl) rfl rfl rfl) r_nil rfl) rfl)) (ja_cons (r_var (i := 3) rfl (.inr (.inl rfl)) rfl rfl rfl) r_nil rfl) rfl) rfl)) (JE.toB (r_var (i := 8) rfl (.inl rfl) rfl rfl rfl)) rfl) (pw_or1 (jt_cmp G (o := .ne) (JE.toB (je_call G ((k_is_test T).at o rfl (by decide)) rfl rfl (ja_cons (je_tup (ja_cons (r_var (i := 6) rfl (.inr (.inl rfl)) rfl rfl rfl) (ja_cons (r_var (i := 7) rfl (.inl rfl) rfl rfl rfl) r_nil rfl) rfl)) (ja_cons (r_var (i := 3) rfl (.inr (.inl rfl)) rfl rfl rfl) (ja_cons (r_var (i := 4) rfl (.inr (.inl rfl)) rfl rfl rfl) r_nil rfl) rfl) rfl) rfl)) (JE.toB (je_cmp G (o := .ne) (JE.toB (r_var (i := 8) rfl (.inl rfl) rfl rfl rfl)) (JE.toB (r_var (i := 9) rfl (.inl rfl) rfl rfl rfl)) rfl)) rfl)))) (r_one (r_ret no_tr r_bl)) (r_end rfl))))))) (fun _ => rfl)) (r_seq (r_set G no_tr (i := 6) rfl (.inr rfl) (.inl rfl) rfl rfl (je_tup (ja_cons (r_str rfl rfl) (ja_cons r_int r_nil rfl) rfl))) (r_seq (r_set G no_tr (i := 10) rfl (.inl rfl) (.inl rfl) rfl rfl (JE.toZ (je_lst (ja_cons r_non (ja_cons (je_tup r_nil) (ja_cons (je_tup (ja_cons (r_str rfl rfl) (ja_cons (r_var (i := 2) rfl (.inr (.inl rfl)) rfl rfl rfl) r_nil rfl) rfl)) (ja_cons (je_tup (ja_cons (r_str rfl rfl) (ja_cons (je_neg r_int) r_nil rfl) rfl)) (ja_cons (je_tup (ja_cons (r_str rfl rfl) (ja_cons r_bl r_nil rfl) rfl)) (ja_cons (je_tup (ja_cons (r_str rfl rfl) r_nil rfl)) (ja_cons (je_tup (ja_cons (r_str rfl rfl) (ja_cons (r_str rfl rfl) r_nil rfl) rfl)) (ja_cons (je_tup (ja_cons (r_str rfl rfl) (ja_cons (r_str rfl rfl) r_nil rfl) rfl)) (ja_cons (je_tup (ja_cons (r_str rfl rfl) (ja_cons (r_str rfl rfl) r_nil rfl) rfl)) (ja_cons (je_tup (ja_cons (r_str rfl rfl) (ja_cons (r_var (i := 6) rfl (.inr (.inl rfl)) rfl rfl rfl) r_nil rfl) rfl)) (ja_cons (je_tup (ja_cons (r_str rfl rfl) (ja_cons r_non r_nil rfl) rfl)) (ja_cons (je_tup (ja_cons (r_str rfl rfl) (ja_cons (r_var (i := 6) rfl (.inr (.inl rfl)) rfl rfl rfl) (ja_cons (r_var (i := 6) rfl (.inr (.inl rfl)) rfl rfl rfl) r_nil rfl) rfl) rfl)) (ja_cons (je_tup (ja_cons (r_str rfl rfl) (ja_cons (r_str rfl rfl) (ja_cons (r_var (i := 6) rfl (.inr (.inl rfl)) rfl rfl rfl) r_nil rfl) rfl) rfl)) (ja_cons (je_tup (ja_cons (r_str rfl rfl) (ja_cons (r_var (i := 6) rfl (.inr (.inl rfl)) rfl rfl rfl) (ja_cons r_int (ja_cons r_int r_nil rfl) rfl) rfl) rfl)) (ja_cons (je_tup (ja_cons (r_str rfl rfl) (ja_cons (r_var (i := 6) rfl (.inr (.inl rfl)) rfl rfl rfl) (ja_cons r_int r_nil rfl) rfl) rfl)) (ja_cons (je_tup (ja_cons (r_str rfl rfl) (ja_cons (je_tup r_nil) r_nil rfl) rfl)) (ja_cons (je_tup (ja_cons (r_str rfl rfl) (ja_cons (r_var (i := 6) rfl (.inr (.inl rfl)) rfl rfl rfl) r_nil rfl) rfl)) r_nil rfl) rfl) rfl) rfl) rfl) rfl) rfl) rfl) rfl) rfl) rfl) rfl) rfl) rfl) rfl) rfl) rfl)))) (r_seq (r_set G no_tr (i := 10) rfl (.inl rfl) (.inl rfl) rfl rfl (JE.toZ (r_bin G .add (JE.toB (r_var (i := 10) rfl (.inl rfl) rfl rfl rfl)) (JE.toB (je_lst (ja_cons (je_tup (ja_cons (r_str rfl rfl) (ja_cons (JE.toZ (je_lst (ja_cons (r_var (i := 6) rfl (.inr (.inl rfl)) rfl rfl rfl) r_nil rfl))) r_nil rfl) rfl)) (ja_cons (je_tup (ja_cons (r_str rfl rfl) (ja_cons (r_var (i := 6) rfl (.inr (.inl rfl)) rfl rfl rfl) r_nil rfl) rfl)) (ja_cons (je_tup (ja_cons (r_str rfl rfl) (ja_cons (r_var (i := 6) rfl (.inr (.inl rfl)) rfl rfl rfl) (ja_cons (r_var (i := 6) rfl (.inr (.inl rfl)) rfl rfl rfl) r_nil rfl) rfl) rfl)) (ja_cons (je_tup (ja_cons (r_str rfl rfl) (ja_cons (r_var (i := 6) rfl (.inr (.inl rfl)) rfl rfl rfl) r_nil rfl) rfl)) (ja_cons (JE.toZ (je_lst (ja_cons (r_str rfl rfl) (ja_cons r_int r_nil rfl) rfl))) (ja_cons (je_tup (ja_cons (r_str rfl rfl) (ja_cons (r_str rfl rfl) r_nil rfl) rfl)) (ja_cons (je_tup (ja_cons (r_str rfl rfl) (ja_cons (r_str rfl rfl) (ja_cons (r_var (i := 6) rfl (.inr (.inl rfl)) rfl rfl rfl) r_nil rfl) rfl) rfl)) (ja_cons (r_str rfl rfl) (ja_cons r_int r_nil rfl) rfl) rfl) rfl) rfl) rfl) rfl) rfl) rfl)))))) (r_seq (r_if no_tr (PW.pt (jt_or (jt_val (je_bi G (b := .any) (.inr rfl) rfl rfl T.n_any (JE.toB (r_lc1 G rfl (ji_val (r_var (i := 10) rfl (.inl rfl) rfl rfl rfl)) (own := [("thing", 12)]) (blk_ok (N := N_law) (sc := defScope (top 34)) (own := [("thing", 12)]) (by decide +kernel)) (fun _ => rfl) (fun s H C cl fp H0 => (jg_nm (Gd.blk G rfl) (i := 12) rfl (.inl rfl) (.inr rfl) rfl)) (fun s H C cl fp H0 => r_yes) (fun s H C cl fp H0 => (je_call (Gd.blk G rfl) ((k_is_recipe T 12).at (Of.blk o) rfl (by decide)) rfl rfl (ja_cons (r_var (i := 12) rfl (.inl rfl) rfl rfl rfl) (ja_cons (r_var (i := 2) rfl (.inr (.inl rfl)) rfl rfl rfl) r_nil rfl) rfl) rfl)) rfl)) rfl) (fun _ => rfl)) (pw_or1 (jt_val (je_bi G (b := .any) (.inr rfl) rfl rfl T.n_any (JE.toB (r_lc1 G rfl (ji_val (r_var (i := 10) rfl (.inl rfl) rfl rfl rfl)) (own := [("thing", 12)]) (blk_ok (N := N_law) (sc := defScope (top 34)) (own := [("thing", 12)]) (by decide +kernel)) (fun _ => rfl) (fun s H C cl fp H0 => (jg_nm (Gd.blk G rfl) (i := 12) rfl (.inl rfl) (.inr rfl) rfl)) (fun s H C cl fp H0 => r_yes) (fun s H C cl fp H0 => (je_call (Gd.blk G rfl) ((k_is_test T).at (Of.blk o) rfl (by decide)) rfl rfl (ja_cons (je_tup (ja_cons (r_var (i := 6) rfl (.inr (.inl rfl)) rfl rfl rfl) (ja_cons (r_var (i := 12) rfl (.inl rfl) rfl rfl rfl) r_nil rfl) rfl)) (ja_cons (r_var (i := 3) rfl (.inr (.inl rfl)) rfl rfl rfl) (ja_cons (r_var (i := 4) rfl (.inr (.inl rfl)) rfl rfl rfl) r_nil rfl) rfl) rfl) rfl)) rfl)) rfl) (fun _ => rfl))))) (r_one (r_ret no_tr r_bl)) (r_end rfl)) (r_one (r_ret no_tr (je_and (je_not (je_call G ((k_is_test T).at o rfl (by decide)) rfl rfl (ja_cons (je_tup (ja_cons (r_var (i := 6) rfl (.inr (.inl rfl)) rfl rfl rfl) r_nil rfl)) (ja_cons (r_var (i := 3) rfl (.inr (.inl rfl)) rfl rfl rfl) (ja_cons (r_var (i := 4) rfl (.inr (.inl rfl)) rfl rfl rfl) r_nil rfl) rfl) rfl) rfl)) (je_and (je_not (je_call G ((k_is_test T).at o rfl (by decide)) rfl rfl (ja_cons r_non (ja_cons (r_var (i := 3) rfl (.inr (.inl rfl)) rfl rfl rfl) (ja_cons (r_var (i := 4) rfl (.inr (.inl rfl)) rfl rfl rfl) r_nil rfl) rfl) rfl) rfl)) (je_one (je_not (je_call G ((k_is_test T).at o rfl (by decide)) rfl rfl (ja_cons (je_tup (ja_cons (je_tup (ja_cons (r_str rfl rfl) (ja_cons r_int r_nil rfl) rfl)) (ja_cons (je_tup (ja_cons (r_str rfl rfl) (ja_cons r_int r_nil rfl) rfl)) r_nil rfl) rfl)) (ja_cons (r_var (i := 3) rfl (.inr (.inl rfl)) rfl rfl rfl) (ja_cons (JE.toZ (r_sl (JE.toB (r_var (i := 4) rfl (.inr (.inl rfl)) rfl rfl rfl)) r_noO (r_soO (je_neg r_int)))) r_nil rfl) rfl) rfl) rfl)))))))))))))))⟩
theorem fn_end {w : World} {K : PySem.W.Frag} {mg : Str → Option Value} {Cx : Nat → Addr} (T : ∀ base, K.In base → base.Ns mainGlobals mg → Tx P w K mg base Cx) (D : DefAt K mg "law" (top 34)) (hplain : ∀ ns : List Int, ns.length ≤ 63 → ∃ W', b_law (env0 13) (world0 ns) = .rt (.d (.bl true)) W') {fa : Addr} (hfa : mg "law" = some (.ref fa)) :
    ∃ fd : FuncData, (∀ (s : Shared) (u : Value), BindsTo s fd ⟨[u], []⟩ [("script", u)]) ∧ ∀ base : Heap, K.In base → base.Ns mainGlobals mg → FnOk P w K mg base (L2.CX P w) 17 fa fd ["script"] (spLaw K) := by
  obtain ⟨fd, h1, h2⟩ := fn_law (P := P) (w := w) (nl := 13) (O := ow []) D rfl ⟨_, _, _, _, _, _, _, _, _, _, _, _, rfl⟩ sc_law rfl (.inl rfl) (.inr rfl) (by decide) (by decide) rfl (fun _ _ _ _ _ _ us hl => match us, hl with | [_], _ => rfl) hplain hfa
  exact ⟨fd, h1, fun base KB G => h2 base (d_law (T base KB G))⟩
end
end K04
end
section
set_option Elab.async false
set_option linter.all false
set_option maxRecDepth 100000
set_option maxHeartbeats 4000000
namespace K04
open PySem PySem.Spec PyProof.Rows L2 Rx NdefX LamX
def clsB (s : Stmt) : List Stmt := match s with
  | .ClassDef _ _ _ b _ _ _ _ _ _ _ => b
  | _ => []
def meth (i j : Nat) : Stmt := (clsB (top i)).getD j (.Pass ⟨0, 0, 0, 0⟩)
theorem exm_by {K : PySem.W.Frag} {C S : Addr} {b : Bool} (h1 : PySem.W.subIn K (.ref S) (.type "BaseException") = some true) (h2 : PySem.W.isClsIn K S = true) (h3 : PySem.W.typeIn K (.ref S) = some (.type "type")) (h4 : PySem.W.subIn K (.ref C) (.ref S) = some b) (h5 : PySem.W.subIn K (.ref C) (.type "BaseException") = some true) :
    PySem.W.exmOne K (.ref C) (.ref S) = some b := by
  have e1 : (PySem.W.subIn K (.ref S) (.type "BaseException") == some true) = true := by rw [h1] <;> rfl
  have e2 : ((PySem.W.clsIn K S).isSome && PySem.W.typeIn K (.ref S) == some (.type "type")) = true := by
    have z : (PySem.W.clsIn K S).isSome = true := h2
    rw [z, h3] <;> rfl
  show (if (PySem.W.subIn K (.ref S) (.type "BaseException") == some true) = true then (if ((PySem.W.clsIn K S).isSome && PySem.W.typeIn K (.ref S) == some (.type "type")) = true then PySem.W.subIn K (.ref C) (.ref S) else none) else none) = some b
  exact (if_pos e1).trans ((if_pos e2).trans h4)
def cxs : Nat → Addr := fun _ => 0
theorem tx_mk {P : Program} {w : World} {K : PySem.W.Frag} {h : Heap} {mg : Str → Option Value} (X : K.In h) (G : h.Ns mainGlobals mg)
    {f0 : Addr} {od0 an0 : Option Addr} {sl0 : Array (Option Value)} {oc0 kV0 dc0 pm0 cd0 ct0 : Value}
    {f1 : Addr} {od1 an1 : Option Addr} {sl1 : Array (Option Value)} {oc1 kV1 dc1 pm1 cd1 ct1 : Value}
    {f2 : Addr} {od2 an2 : Option Addr} {sl2 : Array (Option Value)} {oc2 kV2 dc2 pm2 cd2 ct2 : Value}
    {f3 : Addr} {od3 an3 : Option Addr} {sl3 : Array (Option Value)} {oc3 kV3 dc3 pm3 cd3 ct3 : Value}
    {f4 : Addr} {od4 an4 : Option Addr} {sl4 : Array (Option Value)} {oc4 kV4 dc4 pm4 cd4 ct4 : Value}
    {f5 : Addr} {od5 an5 : Option Addr} {sl5 : Array (Option Value)} {oc5 kV5 dc5 pm5 cd5 ct5 : Value}
    {f6 : Addr} {od6 an6 : Option Addr} {sl6 : Array (Option Value)} {oc6 kV6 dc6 pm6 cd6 ct6 : Value}
    {f7 : Addr} {od7 an7 : Option Addr} {sl7 : Array (Option Value)} {oc7 kV7 dc7 pm7 cd7 ct7 : Value}
    {f8 : Addr} {od8 an8 : Option Addr} {sl8 : Array (Option Value)} {oc8 kV8 dc8 pm8 cd8 ct8 : Value}
    {f9 : Addr} {od9 an9 : Option Addr} {sl9 : Array (Option Value)} {oc9 kV9 dc9 pm9 cd9 ct9 : Value}
    {f10 : Addr} {od10 an10 : Option Addr} {sl10 : Array (Option Value)} {oc10 kV10 dc10 pm10 cd10 ct10 : Value}
    {f11 : Addr} {od11 an11 : Option Addr} {sl11 : Array (Option Value)} {oc11 kV11 dc11 pm11 cd11 ct11 : Value}
    {f12 : Addr} {od12 an12 : Option Addr} {sl12 : Array (Option Value)} {oc12 kV12 dc12 pm12 cd12 ct12 : Value}
    {f13 : Addr} {od13 an13 : Option Addr} {sl13 : Array (Option Value)} {oc13 kV13 dc13 pm13 cd13 ct13 : Value}
    {f14 : Addr} {od14 an14 : Option Addr} {sl14 : Array (Option Value)} {oc14 kV14 dc14 pm14 cd14 ct14 : Value}
    {f15 : Addr} {od15 an15 : Option Addr} {sl15 : Array (Option Value)} {oc15 kV15 dc15 pm15 cd15 ct15 : Value}
    {f16 : Addr} {od16 an16 : Option Addr} {sl16 : Array (Option Value)} {oc16 kV16 dc16 pm16 cd16 ct16 : Value}
    {f17 : Addr} {od17 an17 : Option Addr} {sl17 : Array (Option Value)} {oc17 kV17 dc17 pm17 cd17 ct17 : Value}
    {f18 : Addr} {od18 an18 : Option Addr} {sl18 : Array (Option Value)} {oc18 kV18 dc18 pm18 cd18 ct18 : Value}
    {f19 : Addr} {od19 an19 : Option Addr} {sl19 : Array (Option Value)} {oc19 kV19 dc19 pm19 cd19 ct19 : Value}
    {f20 : Addr} {od20 an20 : Option Addr} {sl20 : Array (Option Value)} {oc20 kV20 dc20 pm20 cd20 ct20 : Value}
    {f21 : Addr} {od21 an21 : Option Addr} {sl21 : Array (Option Value)} {oc21 kV21 dc21 pm21 cd21 ct21 : Value}
    {f22 : Addr} {od22 an22 : Option Addr} {sl22 : Array (Option Value)} {oc22 kV22 dc22 pm22 cd22 ct22 : Value}
    {f23 : Addr} {od23 an23 : Option Addr} {sl23 : Array (Option Value)} {oc23 kV23 dc23 pm23 cd23 ct23 : Value}
    {t_FIGURES : Tok}
    {t_LETTERS : Tok}
    {t_MOST_NAME : Tok}
    {t_MOST_NUMBER : Tok}
    {t_MOST_TEXT : Tok}
    {u_PUBLIC : Addr} {gd_PUBLIC : Option Addr} {gn_PUBLIC : Nat} {gs_PUBLIC : Array (Option Value)} {t_PUBLIC_0 : Tok} {t_PUBLIC_1 : Tok} {t_PUBLIC_2 : Tok}
    {u_UNKNOWN : Addr} {gd_UNKNOWN : Option Addr} {gn_UNKNOWN : Nat} {gs_UNKNOWN : Array (Option Value)} {t_UNKNOWN_0 : Tok} {t_UNKNOWN_1 : Tok} {t_UNKNOWN_2 : Tok}
    (a0 : PySem.W.nsIn K mainGlobals "_law_cell_at" = some (some (.ref f0)))
    (l0 : K.lookup f0 = some ⟨oc0, od0, .func (PySem.W.fnOf "_law_cell_at" "_law_cell_at" (defArgs (top 25)) (defBody (top 25)) (defScope (top 25)) .none kV0 dc0 pm0 an0 cd0 ct0), sl0⟩)
    (c0 : PySem.W.codeIn K cd0 "_law_cell_at" = true)
    (k0 : PySem.W.keepIn K (.ref f0) = true)
    (a1 : PySem.W.nsIn K mainGlobals "_law_draw" = some (some (.ref f1)))
    (l1 : K.lookup f1 = some ⟨oc1, od1, .func (PySem.W.fnOf "_law_draw" "_law_draw" (defArgs (top 26)) (defBody (top 26)) (defScope (top 26)) .none kV1 dc1 pm1 an1 cd1 ct1), sl1⟩)
    (c1 : PySem.W.codeIn K cd1 "_law_draw" = true)
    (k1 : PySem.W.keepIn K (.ref f1) = true)
    (a2 : PySem.W.nsIn K mainGlobals "_law_number" = some (some (.ref f2)))
    (l2 : K.lookup f2 = some ⟨oc2, od2, .func (PySem.W.fnOf "_law_number" "_law_number" (defArgs (top 27)) (defBody (top 27)) (defScope (top 27)) .none kV2 dc2 pm2 an2 cd2 ct2), sl2⟩)
    (c2 : PySem.W.codeIn K cd2 "_law_number" = true)
    (k2 : PySem.W.keepIn K (.ref f2) = true)
    (a3 : PySem.W.nsIn K mainGlobals "_law_next" = some (some (.ref f3)))
    (l3 : K.lookup f3 = some ⟨oc3, od3, .func (PySem.W.fnOf "_law_next" "_law_next" (defArgs (top 28)) (defBody (top 28)) (defScope (top 28)) .none kV3 dc3 pm3 an3 cd3 ct3), sl3⟩)
    (c3 : PySem.W.codeIn K cd3 "_law_next" = true)
    (k3 : PySem.W.keepIn K (.ref f3) = true)
    (a4 : PySem.W.nsIn K mainGlobals "_law_pick" = some (some (.ref f4)))
    (l4 : K.lookup f4 = some ⟨oc4, od4, .func (PySem.W.fnOf "_law_pick" "_law_pick" (defArgs (top 29)) (defBody (top 29)) (defScope (top 29)) .none kV4 dc4 pm4 an4 cd4 ct4), sl4⟩)
    (c4 : PySem.W.codeIn K cd4 "_law_pick" = true)
    (k4 : PySem.W.keepIn K (.ref f4) = true)
    (a5 : PySem.W.nsIn K mainGlobals "_law_term" = some (some (.ref f5)))
    (l5 : K.lookup f5 = some ⟨oc5, od5, .func (PySem.W.fnOf "_law_term" "_law_term" (defArgs (top 30)) (defBody (top 30)) (defScope (top 30)) .none kV5 dc5 pm5 an5 cd5 ct5), sl5⟩)
    (c5 : PySem.W.codeIn K cd5 "_law_term" = true)
    (k5 : PySem.W.keepIn K (.ref f5) = true)
    (a6 : PySem.W.nsIn K mainGlobals "_law_recipe" = some (some (.ref f6)))
    (l6 : K.lookup f6 = some ⟨oc6, od6, .func (PySem.W.fnOf "_law_recipe" "_law_recipe" (defArgs (top 32)) (defBody (top 32)) (defScope (top 32)) .none kV6 dc6 pm6 an6 cd6 ct6), sl6⟩)
    (c6 : PySem.W.codeIn K cd6 "_law_recipe" = true)
    (k6 : PySem.W.keepIn K (.ref f6) = true)
    (a7 : PySem.W.nsIn K mainGlobals "is_public" = some (some (.ref f7)))
    (l7 : K.lookup f7 = some ⟨oc7, od7, .func (PySem.W.fnOf "is_public" "is_public" (defArgs (top 15)) (defBody (top 15)) (defScope (top 15)) .none kV7 dc7 pm7 an7 cd7 ct7), sl7⟩)
    (c7 : PySem.W.codeIn K cd7 "is_public" = true)
    (k7 : PySem.W.keepIn K (.ref f7) = true)
    (a8 : PySem.W.nsIn K mainGlobals "recipe_size" = some (some (.ref f8)))
    (l8 : K.lookup f8 = some ⟨oc8, od8, .func (PySem.W.fnOf "recipe_size" "recipe_size" (defArgs (top 23)) (defBody (top 23)) (defScope (top 23)) .none kV8 dc8 pm8 an8 cd8 ct8), sl8⟩)
    (c8 : PySem.W.codeIn K cd8 "recipe_size" = true)
    (k8 : PySem.W.keepIn K (.ref f8) = true)
    (a9 : PySem.W.nsIn K mainGlobals "_law_size" = some (some (.ref f9)))
    (l9 : K.lookup f9 = some ⟨oc9, od9, .func (PySem.W.fnOf "_law_size" "_law_size" (defArgs (top 33)) (defBody (top 33)) (defScope (top 33)) .none kV9 dc9 pm9 an9 cd9 ct9), sl9⟩)
    (c9 : PySem.W.codeIn K cd9 "_law_size" = true)
    (k9 : PySem.W.keepIn K (.ref f9) = true)
    (a10 : PySem.W.nsIn K mainGlobals "join_of" = some (some (.ref f10)))
    (l10 : K.lookup f10 = some ⟨oc10, od10, .func (PySem.W.fnOf "join_of" "join_of" (defArgs (top 20)) (defBody (top 20)) (defScope (top 20)) .none kV10 dc10 pm10 an10 cd10 ct10), sl10⟩)
    (c10 : PySem.W.codeIn K cd10 "join_of" = true)
    (k10 : PySem.W.keepIn K (.ref f10) = true)
    (a11 : PySem.W.nsIn K mainGlobals "done" = some (some (.ref f11)))
    (l11 : K.lookup f11 = some ⟨oc11, od11, .func (PySem.W.fnOf "done" "done" (defArgs (top 19)) (defBody (top 19)) (defScope (top 19)) .none kV11 dc11 pm11 an11 cd11 ct11), sl11⟩)
    (c11 : PySem.W.codeIn K cd11 "done" = true)
    (k11 : PySem.W.keepIn K (.ref f11) = true)
    (a12 : PySem.W.nsIn K mainGlobals "run" = some (some (.ref f12)))
    (l12 : K.lookup f12 = some ⟨oc12, od12, .func (PySem.W.fnOf "run" "run" (defArgs (top 18)) (defBody (top 18)) (defScope (top 18)) .none kV12 dc12 pm12 an12 cd12 ct12), sl12⟩)
    (c12 : PySem.W.codeIn K cd12 "run" = true)
    (k12 : PySem.W.keepIn K (.ref f12) = true)
    (a13 : PySem.W.nsIn K mainGlobals "_law_run" = some (some (.ref f13)))
    (l13 : K.lookup f13 = some ⟨oc13, od13, .func (PySem.W.fnOf "_law_run" "_law_run" (defArgs (top 31)) (defBody (top 31)) (defScope (top 31)) .none kV13 dc13 pm13 an13 cd13 ct13), sl13⟩)
    (c13 : PySem.W.codeIn K cd13 "_law_run" = true)
    (k13 : PySem.W.keepIn K (.ref f13) = true)
    (a14 : PySem.W.nsIn K mainGlobals "is_row" = some (some (.ref f14)))
    (l14 : K.lookup f14 = some ⟨oc14, od14, .func (PySem.W.fnOf "is_row" "is_row" (defArgs (top 7)) (defBody (top 7)) (defScope (top 7)) .none kV14 dc14 pm14 an14 cd14 ct14), sl14⟩)
    (c14 : PySem.W.codeIn K cd14 "is_row" = true)
    (k14 : PySem.W.keepIn K (.ref f14) = true)
    (a15 : PySem.W.nsIn K mainGlobals "is_whole" = some (some (.ref f15)))
    (l15 : K.lookup f15 = some ⟨oc15, od15, .func (PySem.W.fnOf "is_whole" "is_whole" (defArgs (top 5)) (defBody (top 5)) (defScope (top 5)) .none kV15 dc15 pm15 an15 cd15 ct15), sl15⟩)
    (c15 : PySem.W.codeIn K cd15 "is_whole" = true)
    (k15 : PySem.W.keepIn K (.ref f15) = true)
    (a16 : PySem.W.nsIn K mainGlobals "is_from" = some (some (.ref f16)))
    (l16 : K.lookup f16 = some ⟨oc16, od16, .func (PySem.W.fnOf "is_from" "is_from" (defArgs (top 6)) (defBody (top 6)) (defScope (top 6)) .none kV16 dc16 pm16 an16 cd16 ct16), sl16⟩)
    (c16 : PySem.W.codeIn K cd16 "is_from" = true)
    (k16 : PySem.W.keepIn K (.ref f16) = true)
    (a17 : PySem.W.nsIn K mainGlobals "is_words" = some (some (.ref f17)))
    (l17 : K.lookup f17 = some ⟨oc17, od17, .func (PySem.W.fnOf "is_words" "is_words" (defArgs (top 9)) (defBody (top 9)) (defScope (top 9)) .none kV17 dc17 pm17 an17 cd17 ct17), sl17⟩)
    (c17 : PySem.W.codeIn K cd17 "is_words" = true)
    (k17 : PySem.W.keepIn K (.ref f17) = true)
    (a18 : PySem.W.nsIn K mainGlobals "is_name" = some (some (.ref f18)))
    (l18 : K.lookup f18 = some ⟨oc18, od18, .func (PySem.W.fnOf "is_name" "is_name" (defArgs (top 8)) (defBody (top 8)) (defScope (top 8)) .none kV18 dc18 pm18 an18 cd18 ct18), sl18⟩)
    (c18 : PySem.W.codeIn K cd18 "is_name" = true)
    (k18 : PySem.W.keepIn K (.ref f18) = true)
    (a19 : PySem.W.nsIn K mainGlobals "is_atom" = some (some (.ref f19)))
    (l19 : K.lookup f19 = some ⟨oc19, od19, .func (PySem.W.fnOf "is_atom" "is_atom" (defArgs (top 14)) (defBody (top 14)) (defScope (top 14)) .none kV19 dc19 pm19 an19 cd19 ct19), sl19⟩)
    (c19 : PySem.W.codeIn K cd19 "is_atom" = true)
    (k19 : PySem.W.keepIn K (.ref f19) = true)
    (a20 : PySem.W.nsIn K mainGlobals "is_recipe" = some (some (.ref f20)))
    (l20 : K.lookup f20 = some ⟨oc20, od20, .func (PySem.W.fnOf "is_recipe" "is_recipe" (defArgs (top 17)) (defBody (top 17)) (defScope (top 17)) .none kV20 dc20 pm20 an20 cd20 ct20), sl20⟩)
    (c20 : PySem.W.codeIn K cd20 "is_recipe" = true)
    (k20 : PySem.W.keepIn K (.ref f20) = true)
    (a21 : PySem.W.nsIn K mainGlobals "holds" = some (some (.ref f21)))
    (l21 : K.lookup f21 = some ⟨oc21, od21, .func (PySem.W.fnOf "holds" "holds" (defArgs (top 21)) (defBody (top 21)) (defScope (top 21)) .none kV21 dc21 pm21 an21 cd21 ct21), sl21⟩)
    (c21 : PySem.W.codeIn K cd21 "holds" = true)
    (k21 : PySem.W.keepIn K (.ref f21) = true)
    (a22 : PySem.W.nsIn K mainGlobals "is_test" = some (some (.ref f22)))
    (l22 : K.lookup f22 = some ⟨oc22, od22, .func (PySem.W.fnOf "is_test" "is_test" (defArgs (top 22)) (defBody (top 22)) (defScope (top 22)) .none kV22 dc22 pm22 an22 cd22 ct22), sl22⟩)
    (c22 : PySem.W.codeIn K cd22 "is_test" = true)
    (k22 : PySem.W.keepIn K (.ref f22) = true)
    (a23 : PySem.W.nsIn K mainGlobals "law" = some (some (.ref f23)))
    (l23 : K.lookup f23 = some ⟨oc23, od23, .func (PySem.W.fnOf "law" "law" (defArgs (top 34)) (defBody (top 34)) (defScope (top 34)) .none kV23 dc23 pm23 an23 cd23 ct23), sl23⟩)
    (c23 : PySem.W.codeIn K cd23 "law" = true)
    (k23 : PySem.W.keepIn K (.ref f23) = true)
    (z_all : PySem.W.nsIn K mainGlobals "all" = some none)
    (z_any : PySem.W.nsIn K mainGlobals "any" = some none)
    (z_bool : PySem.W.nsIn K mainGlobals "bool" = some none)
    (z_int : PySem.W.nsIn K mainGlobals "int" = some none)
    (z_isinstance : PySem.W.nsIn K mainGlobals "isinstance" = some none)
    (z_len : PySem.W.nsIn K mainGlobals "len" = some none)
    (z_range : PySem.W.nsIn K mainGlobals "range" = some none)
    (z_set : PySem.W.nsIn K mainGlobals "set" = some none)
    (z_str : PySem.W.nsIn K mainGlobals "str" = some none)
    (z_sum : PySem.W.nsIn K mainGlobals "sum" = some none)
    (z_tuple : PySem.W.nsIn K mainGlobals "tuple" = some none)
    (g_FIGURES : PySem.W.nsIn K mainGlobals "FIGURES" = some (some (.str "0123456789" t_FIGURES)))
    (g_LETTERS : PySem.W.nsIn K mainGlobals "LETTERS" = some (some (.str "abcdefghijklmnopqrstuvwxyz" t_LETTERS)))
    (g_MOST_NAME : PySem.W.nsIn K mainGlobals "MOST_NAME" = some (some (.int 8 t_MOST_NAME)))
    (g_MOST_NUMBER : PySem.W.nsIn K mainGlobals "MOST_NUMBER" = some (some (.int 1000000 t_MOST_NUMBER)))
    (g_MOST_TEXT : PySem.W.nsIn K mainGlobals "MOST_TEXT" = some (some (.int 30 t_MOST_TEXT)))
    (g_PUBLIC : PySem.W.nsIn K mainGlobals "PUBLIC" = some (some (.ref u_PUBLIC)))
    (gl_PUBLIC : K.lookup u_PUBLIC = some ⟨.type "tuple", gd_PUBLIC, .seq #[.str "name" t_PUBLIC_0, .str "number" t_PUBLIC_1, .str "text" t_PUBLIC_2] gn_PUBLIC, gs_PUBLIC⟩)
    (g_UNKNOWN : PySem.W.nsIn K mainGlobals "UNKNOWN" = some (some (.ref u_UNKNOWN)))
    (gl_UNKNOWN : K.lookup u_UNKNOWN = some ⟨.type "tuple", gd_UNKNOWN, .seq #[.str "key" t_UNKNOWN_0, .str "nonce" t_UNKNOWN_1, .str "secret" t_UNKNOWN_2] gn_UNKNOWN, gs_UNKNOWN⟩)
    (xp : (P.main.scope.names.lookup ("super" : Str)).isSome = false)
    (base : Heap) : Tx P w K mg base cxs := by
  exact {
    n_all := PySem.W.mg_none_of X G z_all
    n_any := PySem.W.mg_none_of X G z_any
    n_bool := PySem.W.mg_none_of X G z_bool
    n_int := PySem.W.mg_none_of X G z_int
    n_isinstance := PySem.W.mg_none_of X G z_isinstance
    n_len := PySem.W.mg_none_of X G z_len
    n_range := PySem.W.mg_none_of X G z_range
    n_set := PySem.W.mg_none_of X G z_set
    n_str := PySem.W.mg_none_of X G z_str
    n_sum := PySem.W.mg_none_of X G z_sum
    n_tuple := PySem.W.mg_none_of X G z_tuple
    c_FIGURES := ⟨_, PySem.W.mg_of X G g_FIGURES⟩
    c_LETTERS := ⟨_, PySem.W.mg_of X G g_LETTERS⟩
    c_MOST_NAME := ⟨_, PySem.W.mg_of X G g_MOST_NAME⟩
    c_MOST_NUMBER := ⟨_, PySem.W.mg_of X G g_MOST_NUMBER⟩
    c_MOST_TEXT := ⟨_, PySem.W.mg_of X G g_MOST_TEXT⟩
    c_PUBLIC := ⟨_, .ref u_PUBLIC, PySem.W.mg_of X G g_PUBLIC, rfl, fun H => tup_top (ss := [[110, 97, 109, 101], [110, 117, 109, 98, 101, 114], [116, 101, 120, 116]]) gl_PUBLIC (.cons ⟨_, rfl⟩ (.cons ⟨_, rfl⟩ (.cons ⟨_, rfl⟩ .nil))) (by rw [sizeLine_eq]; decide) (by rw [sizeLine_eq]; decide) H⟩
    c_UNKNOWN := ⟨_, .ref u_UNKNOWN, PySem.W.mg_of X G g_UNKNOWN, rfl, fun H => tup_top (ss := [[107, 101, 121], [110, 111, 110, 99, 101], [115, 101, 99, 114, 101, 116]]) gl_UNKNOWN (.cons ⟨_, rfl⟩ (.cons ⟨_, rfl⟩ (.cons ⟨_, rfl⟩ .nil))) (by rw [sizeLine_eq]; decide) (by rw [sizeLine_eq]; decide) H⟩
    d__law_cell_at := ⟨_, _, _, _, _, _, _, _, _, _, PySem.W.mg_of X G a0, k0, l0, c0⟩
    d__law_draw := ⟨_, _, _, _, _, _, _, _, _, _, PySem.W.mg_of X G a1, k1, l1, c1⟩
    d__law_number := ⟨_, _, _, _, _, _, _, _, _, _, PySem.W.mg_of X G a2, k2, l2, c2⟩
    d__law_next := ⟨_, _, _, _, _, _, _, _, _, _, PySem.W.mg_of X G a3, k3, l3, c3⟩
    d__law_pick := ⟨_, _, _, _, _, _, _, _, _, _, PySem.W.mg_of X G a4, k4, l4, c4⟩
    d__law_term := ⟨_, _, _, _, _, _, _, _, _, _, PySem.W.mg_of X G a5, k5, l5, c5⟩
    d__law_recipe := ⟨_, _, _, _, _, _, _, _, _, _, PySem.W.mg_of X G a6, k6, l6, c6⟩
    d_is_public := ⟨_, _, _, _, _, _, _, _, _, _, PySem.W.mg_of X G a7, k7, l7, c7⟩
    d_recipe_size := ⟨_, _, _, _, _, _, _, _, _, _, PySem.W.mg_of X G a8, k8, l8, c8⟩
    d__law_size := ⟨_, _, _, _, _, _, _, _, _, _, PySem.W.mg_of X G a9, k9, l9, c9⟩
    d_join_of := ⟨_, _, _, _, _, _, _, _, _, _, PySem.W.mg_of X G a10, k10, l10, c10⟩
    d_done := ⟨_, _, _, _, _, _, _, _, _, _, PySem.W.mg_of X G a11, k11, l11, c11⟩
    d_run := ⟨_, _, _, _, _, _, _, _, _, _, PySem.W.mg_of X G a12, k12, l12, c12⟩
    d__law_run := ⟨_, _, _, _, _, _, _, _, _, _, PySem.W.mg_of X G a13, k13, l13, c13⟩
    d_is_row := ⟨_, _, _, _, _, _, _, _, _, _, PySem.W.mg_of X G a14, k14, l14, c14⟩
    d_is_whole := ⟨_, _, _, _, _, _, _, _, _, _, PySem.W.mg_of X G a15, k15, l15, c15⟩
    d_is_from := ⟨_, _, _, _, _, _, _, _, _, _, PySem.W.mg_of X G a16, k16, l16, c16⟩
    d_is_words := ⟨_, _, _, _, _, _, _, _, _, _, PySem.W.mg_of X G a17, k17, l17, c17⟩
    d_is_name := ⟨_, _, _, _, _, _, _, _, _, _, PySem.W.mg_of X G a18, k18, l18, c18⟩
    d_is_atom := ⟨_, _, _, _, _, _, _, _, _, _, PySem.W.mg_of X G a19, k19, l19, c19⟩
    d_is_recipe := ⟨_, _, _, _, _, _, _, _, _, _, PySem.W.mg_of X G a20, k20, l20, c20⟩
    d_holds := ⟨_, _, _, _, _, _, _, _, _, _, PySem.W.mg_of X G a21, k21, l21, c21⟩
    d_is_test := ⟨_, _, _, _, _, _, _, _, _, _, PySem.W.mg_of X G a22, k22, l22, c22⟩
    d_law := ⟨_, _, _, _, _, _, _, _, _, _, PySem.W.mg_of X G a23, k23, l23, c23⟩
  }
theorem fn_all {P : Program} {w : World} {K : PySem.W.Frag} {h : Heap} {mg : Str → Option Value} (X : K.In h) (G : h.Ns mainGlobals mg)
    {f0 : Addr} {od0 an0 : Option Addr} {sl0 : Array (Option Value)} {oc0 kV0 dc0 pm0 cd0 ct0 : Value}
    {f1 : Addr} {od1 an1 : Option Addr} {sl1 : Array (Option Value)} {oc1 kV1 dc1 pm1 cd1 ct1 : Value}
    {f2 : Addr} {od2 an2 : Option Addr} {sl2 : Array (Option Value)} {oc2 kV2 dc2 pm2 cd2 ct2 : Value}
    {f3 : Addr} {od3 an3 : Option Addr} {sl3 : Array (Option Value)} {oc3 kV3 dc3 pm3 cd3 ct3 : Value}
    {f4 : Addr} {od4 an4 : Option Addr} {sl4 : Array (Option Value)} {oc4 kV4 dc4 pm4 cd4 ct4 : Value}
    {f5 : Addr} {od5 an5 : Option Addr} {sl5 : Array (Option Value)} {oc5 kV5 dc5 pm5 cd5 ct5 : Value}
    {f6 : Addr} {od6 an6 : Option Addr} {sl6 : Array (Option Value)} {oc6 kV6 dc6 pm6 cd6 ct6 : Value}
    {f7 : Addr} {od7 an7 : Option Addr} {sl7 : Array (Option Value)} {oc7 kV7 dc7 pm7 cd7 ct7 : Value}
    {f8 : Addr} {od8 an8 : Option Addr} {sl8 : Array (Option Value)} {oc8 kV8 dc8 pm8 cd8 ct8 : Value}
    {f9 : Addr} {od9 an9 : Option Addr} {sl9 : Array (Option Value)} {oc9 kV9 dc9 pm9 cd9 ct9 : Value}
    {f10 : Addr} {od10 an10 : Option Addr} {sl10 : Array (Option Value)} {oc10 kV10 dc10 pm10 cd10 ct10 : Value}
    {f11 : Addr} {od11 an11 : Option Addr} {sl11 : Array (Option Value)} {oc11 kV11 dc11 pm11 cd11 ct11 : Value}
    {f12 : Addr} {od12 an12 : Option Addr} {sl12 : Array (Option Value)} {oc12 kV12 dc12 pm12 cd12 ct12 : Value}
    {f13 : Addr} {od13 an13 : Option Addr} {sl13 : Array (Option Value)} {oc13 kV13 dc13 pm13 cd13 ct13 : Value}
    {f14 : Addr} {od14 an14 : Option Addr} {sl14 : Array (Option Value)} {oc14 kV14 dc14 pm14 cd14 ct14 : Value}
    {f15 : Addr} {od15 an15 : Option Addr} {sl15 : Array (Option Value)} {oc15 kV15 dc15 pm15 cd15 ct15 : Value}
    {f16 : Addr} {od16 an16 : Option Addr} {sl16 : Array (Option Value)} {oc16 kV16 dc16 pm16 cd16 ct16 : Value}
    {f17 : Addr} {od17 an17 : Option Addr} {sl17 : Array (Option Value)} {oc17 kV17 dc17 pm17 cd17 ct17 : Value}
    {f18 : Addr} {od18 an18 : Option Addr} {sl18 : Array (Option Value)} {oc18 kV18 dc18 pm18 cd18 ct18 : Value}
    {f19 : Addr} {od19 an19 : Option Addr} {sl19 : Array (Option Value)} {oc19 kV19 dc19 pm19 cd19 ct19 : Value}
    {f20 : Addr} {od20 an20 : Option Addr} {sl20 : Array (Option Value)} {oc20 kV20 dc20 pm20 cd20 ct20 : Value}
    {f21 : Addr} {od21 an21 : Option Addr} {sl21 : Array (Option Value)} {oc21 kV21 dc21 pm21 cd21 ct21 : Value}
    {f22 : Addr} {od22 an22 : Option Addr} {sl22 : Array (Option Value)} {oc22 kV22 dc22 pm22 cd22 ct22 : Value}
    {f23 : Addr} {od23 an23 : Option Addr} {sl23 : Array (Option Value)} {oc23 kV23 dc23 pm23 cd23 ct23 : Value}
    {t_FIGURES : Tok}
    {t_LETTERS : Tok}
    {t_MOST_NAME : Tok}
    {t_MOST_NUMBER : Tok}
    {t_MOST_TEXT : Tok}
    {u_PUBLIC : Addr} {gd_PUBLIC : Option Addr} {gn_PUBLIC : Nat} {gs_PUBLIC : Array (Option Value)} {t_PUBLIC_0 : Tok} {t_PUBLIC_1 : Tok} {t_PUBLIC_2 : Tok}
    {u_UNKNOWN : Addr} {gd_UNKNOWN : Option Addr} {gn_UNKNOWN : Nat} {gs_UNKNOWN : Array (Option Value)} {t_UNKNOWN_0 : Tok} {t_UNKNOWN_1 : Tok} {t_UNKNOWN_2 : Tok}
    (a0 : PySem.W.nsIn K mainGlobals "_law_cell_at" = some (some (.ref f0)))
    (l0 : K.lookup f0 = some ⟨oc0, od0, .func (PySem.W.fnOf "_law_cell_at" "_law_cell_at" (defArgs (top 25)) (defBody (top 25)) (defScope (top 25)) .none kV0 dc0 pm0 an0 cd0 ct0), sl0⟩)
    (c0 : PySem.W.codeIn K cd0 "_law_cell_at" = true)
    (k0 : PySem.W.keepIn K (.ref f0) = true)
    (a1 : PySem.W.nsIn K mainGlobals "_law_draw" = some (some (.ref f1)))
    (l1 : K.lookup f1 = some ⟨oc1, od1, .func (PySem.W.fnOf "_law_draw" "_law_draw" (defArgs (top 26)) (defBody (top 26)) (defScope (top 26)) .none kV1 dc1 pm1 an1 cd1 ct1), sl1⟩)
    (c1 : PySem.W.codeIn K cd1 "_law_draw" = true)
    (k1 : PySem.W.keepIn K (.ref f1) = true)
    (a2 : PySem.W.nsIn K mainGlobals "_law_number" = some (some (.ref f2)))
    (l2 : K.lookup f2 = some ⟨oc2, od2, .func (PySem.W.fnOf "_law_number" "_law_number" (defArgs (top 27)) (defBody (top 27)) (defScope (top 27)) .none kV2 dc2 pm2 an2 cd2 ct2), sl2⟩)
    (c2 : PySem.W.codeIn K cd2 "_law_number" = true)
    (k2 : PySem.W.keepIn K (.ref f2) = true)
    (a3 : PySem.W.nsIn K mainGlobals "_law_next" = some (some (.ref f3)))
    (l3 : K.lookup f3 = some ⟨oc3, od3, .func (PySem.W.fnOf "_law_next" "_law_next" (defArgs (top 28)) (defBody (top 28)) (defScope (top 28)) .none kV3 dc3 pm3 an3 cd3 ct3), sl3⟩)
    (c3 : PySem.W.codeIn K cd3 "_law_next" = true)
    (k3 : PySem.W.keepIn K (.ref f3) = true)
    (a4 : PySem.W.nsIn K mainGlobals "_law_pick" = some (some (.ref f4)))
    (l4 : K.lookup f4 = some ⟨oc4, od4, .func (PySem.W.fnOf "_law_pick" "_law_pick" (defArgs (top 29)) (defBody (top 29)) (defScope (top 29)) .none kV4 dc4 pm4 an4 cd4 ct4), sl4⟩)
    (c4 : PySem.W.codeIn K cd4 "_law_pick" = true)
    (k4 : PySem.W.keepIn K (.ref f4) = true)
    (a5 : PySem.W.nsIn K mainGlobals "_law_term" = some (some (.ref f5)))
    (l5 : K.lookup f5 = some ⟨oc5, od5, .func (PySem.W.fnOf "_law_term" "_law_term" (defArgs (top 30)) (defBody (top 30)) (defScope (top 30)) .none kV5 dc5 pm5 an5 cd5 ct5), sl5⟩)
    (c5 : PySem.W.codeIn K cd5 "_law_term" = true)
    (k5 : PySem.W.keepIn K (.ref f5) = true)
    (a6 : PySem.W.nsIn K mainGlobals "_law_recipe" = some (some (.ref f6)))
    (l6 : K.lookup f6 = some ⟨oc6, od6, .func (PySem.W.fnOf "_law_recipe" "_law_recipe" (defArgs (top 32)) (defBody (top 32)) (defScope (top 32)) .none kV6 dc6 pm6 an6 cd6 ct6), sl6⟩)
    (c6 : PySem.W.codeIn K cd6 "_law_recipe" = true)
    (k6 : PySem.W.keepIn K (.ref f6) = true)
    (a7 : PySem.W.nsIn K mainGlobals "is_public" = some (some (.ref f7)))
    (l7 : K.lookup f7 = some ⟨oc7, od7, .func (PySem.W.fnOf "is_public" "is_public" (defArgs (top 15)) (defBody (top 15)) (defScope (top 15)) .none kV7 dc7 pm7 an7 cd7 ct7), sl7⟩)
    (c7 : PySem.W.codeIn K cd7 "is_public" = true)
    (k7 : PySem.W.keepIn K (.ref f7) = true)
    (a8 : PySem.W.nsIn K mainGlobals "recipe_size" = some (some (.ref f8)))
    (l8 : K.lookup f8 = some ⟨oc8, od8, .func (PySem.W.fnOf "recipe_size" "recipe_size" (defArgs (top 23)) (defBody (top 23)) (defScope (top 23)) .none kV8 dc8 pm8 an8 cd8 ct8), sl8⟩)
    (c8 : PySem.W.codeIn K cd8 "recipe_size" = true)
    (k8 : PySem.W.keepIn K (.ref f8) = true)
    (a9 : PySem.W.nsIn K mainGlobals "_law_size" = some (some (.ref f9)))
    (l9 : K.lookup f9 = some ⟨oc9, od9, .func (PySem.W.fnOf "_law_size" "_law_size" (defArgs (top 33)) (defBody (top 33)) (defScope (top 33)) .none kV9 dc9 pm9 an9 cd9 ct9), sl9⟩)
    (c9 : PySem.W.codeIn K cd9 "_law_size" = true)
    (k9 : PySem.W.keepIn K (.ref f9) = true)
    (a10 : PySem.W.nsIn K mainGlobals "join_of" = some (some (.ref f10)))
    (l10 : K.lookup f10 = some ⟨oc10, od10, .func (PySem.W.fnOf "join_of" "join_of" (defArgs (top 20)) (defBody (top 20)) (defScope (top 20)) .none kV10 dc10 pm10 an10 cd10 ct10), sl10⟩)
    (c10 : PySem.W.codeIn K cd10 "join_of" = true)
    (k10 : PySem.W.keepIn K (.ref f10) = true)
    (a11 : PySem.W.nsIn K mainGlobals "done" = some (some (.ref f11)))
    (l11 : K.lookup f11 = some ⟨oc11, od11, .func (PySem.W.fnOf "done" "done" (defArgs (top 19)) (defBody (top 19)) (defScope (top 19)) .none kV11 dc11 pm11 an11 cd11 ct11), sl11⟩)
    (c11 : PySem.W.codeIn K cd11 "done" = true)
    (k11 : PySem.W.keepIn K (.ref f11) = true)
    (a12 : PySem.W.nsIn K mainGlobals "run" = some (some (.ref f12)))
    (l12 : K.lookup f12 = some ⟨oc12, od12, .func (PySem.W.fnOf "run" "run" (defArgs (top 18)) (defBody (top 18)) (defScope (top 18)) .none kV12 dc12 pm12 an12 cd12 ct12), sl12⟩)
    (c12 : PySem.W.codeIn K cd12 "run" = true)
    (k12 : PySem.W.keepIn K (.ref f12) = true)
    (a13 : PySem.W.nsIn K mainGlobals "_law_run" = some (some (.ref f13)))
    (l13 : K.lookup f13 = some ⟨oc13, od13, .func (PySem.W.fnOf "_law_run" "_law_run" (defArgs (top 31)) (defBody (top 31)) (defScope (top 31)) .none kV13 dc13 pm13 an13 cd13 ct13), sl13⟩)
    (c13 : PySem.W.codeIn K cd13 "_law_run" = true)
    (k13 : PySem.W.keepIn K (.ref f13) = true)
    (a14 : PySem.W.nsIn K mainGlobals "is_row" = some (some (.ref f14)))
    (l14 : K.lookup f14 = some ⟨oc14, od14, .func (PySem.W.fnOf "is_row" "is_row" (defArgs (top 7)) (defBody (top 7)) (defScope (top 7)) .none kV14 dc14 pm14 an14 cd14 ct14), sl14⟩)
    (c14 : PySem.W.codeIn K cd14 "is_row" = true)
    (k14 : PySem.W.keepIn K (.ref f14) = true)
    (a15 : PySem.W.nsIn K mainGlobals "is_whole" = some (some (.ref f15)))
    (l15 : K.lookup f15 = some ⟨oc15, od15, .func (PySem.W.fnOf "is_whole" "is_whole" (defArgs (top 5)) (defBody (top 5)) (defScope (top 5)) .none kV15 dc15 pm15 an15 cd15 ct15), sl15⟩)
    (c15 : PySem.W.codeIn K cd15 "is_whole" = true)
    (k15 : PySem.W.keepIn K (.ref f15) = true)
    (a16 : PySem.W.nsIn K mainGlobals "is_from" = some (some (.ref f16)))
    (l16 : K.lookup f16 = some ⟨oc16, od16, .func (PySem.W.fnOf "is_from" "is_from" (defArgs (top 6)) (defBody (top 6)) (defScope (top 6)) .none kV16 dc16 pm16 an16 cd16 ct16), sl16⟩)
    (c16 : PySem.W.codeIn K cd16 "is_from" = true)
    (k16 : PySem.W.keepIn K (.ref f16) = true)
    (a17 : PySem.W.nsIn K mainGlobals "is_words" = some (some (.ref f17)))
    (l17 : K.lookup f17 = some ⟨oc17, od17, .func (PySem.W.fnOf "is_words" "is_words" (defArgs (top 9)) (defBody (top 9)) (defScope (top 9)) .none kV17 dc17 pm17 an17 cd17 ct17), sl17⟩)
    (c17 : PySem.W.codeIn K cd17 "is_words" = true)
    (k17 : PySem.W.keepIn K (.ref f17) = true)
    (a18 : PySem.W.nsIn K mainGlobals "is_name" = some (some (.ref f18)))
    (l18 : K.lookup f18 = some ⟨oc18, od18, .func (PySem.W.fnOf "is_name" "is_name" (defArgs (top 8)) (defBody (top 8)) (defScope (top 8)) .none kV18 dc18 pm18 an18 cd18 ct18), sl18⟩)
    (c18 : PySem.W.codeIn K cd18 "is_name" = true)
    (k18 : PySem.W.keepIn K (.ref f18) = true)
    (a19 : PySem.W.nsIn K mainGlobals "is_atom" = some (some (.ref f19)))
    (l19 : K.lookup f19 = some ⟨oc19, od19, .func (PySem.W.fnOf "is_atom" "is_atom" (defArgs (top 14)) (defBody (top 14)) (defScope (top 14)) .none kV19 dc19 pm19 an19 cd19 ct19), sl19⟩)
    (c19 : PySem.W.codeIn K cd19 "is_atom" = true)
    (k19 : PySem.W.keepIn K (.ref f19) = true)
    (a20 : PySem.W.nsIn K mainGlobals "is_recipe" = some (some (.ref f20)))
    (l20 : K.lookup f20 = some ⟨oc20, od20, .func (PySem.W.fnOf "is_recipe" "is_recipe" (defArgs (top 17)) (defBody (top 17)) (defScope (top 17)) .none kV20 dc20 pm20 an20 cd20 ct20), sl20⟩)
    (c20 : PySem.W.codeIn K cd20 "is_recipe" = true)
    (k20 : PySem.W.keepIn K (.ref f20) = true)
    (a21 : PySem.W.nsIn K mainGlobals "holds" = some (some (.ref f21)))
    (l21 : K.lookup f21 = some ⟨oc21, od21, .func (PySem.W.fnOf "holds" "holds" (defArgs (top 21)) (defBody (top 21)) (defScope (top 21)) .none kV21 dc21 pm21 an21 cd21 ct21), sl21⟩)
    (c21 : PySem.W.codeIn K cd21 "holds" = true)
    (k21 : PySem.W.keepIn K (.ref f21) = true)
    (a22 : PySem.W.nsIn K mainGlobals "is_test" = some (some (.ref f22)))
    (l22 : K.lookup f22 = some ⟨oc22, od22, .func (PySem.W.fnOf "is_test" "is_test" (defArgs (top 22)) (defBody (top 22)) (defScope (top 22)) .none kV22 dc22 pm22 an22 cd22 ct22), sl22⟩)
    (c22 : PySem.W.codeIn K cd22 "is_test" = true)
    (k22 : PySem.W.keepIn K (.ref f22) = true)
    (a23 : PySem.W.nsIn K mainGlobals "law" = some (some (.ref f23)))
    (l23 : K.lookup f23 = some ⟨oc23, od23, .func (PySem.W.fnOf "law" "law" (defArgs (top 34)) (defBody (top 34)) (defScope (top 34)) .none kV23 dc23 pm23 an23 cd23 ct23), sl23⟩)
    (c23 : PySem.W.codeIn K cd23 "law" = true)
    (k23 : PySem.W.keepIn K (.ref f23) = true)
    (z_all : PySem.W.nsIn K mainGlobals "all" = some none)
    (z_any : PySem.W.nsIn K mainGlobals "any" = some none)
    (z_bool : PySem.W.nsIn K mainGlobals "bool" = some none)
    (z_int : PySem.W.nsIn K mainGlobals "int" = some none)
    (z_isinstance : PySem.W.nsIn K mainGlobals "isinstance" = some none)
    (z_len : PySem.W.nsIn K mainGlobals "len" = some none)
    (z_range : PySem.W.nsIn K mainGlobals "range" = some none)
    (z_set : PySem.W.nsIn K mainGlobals "set" = some none)
    (z_str : PySem.W.nsIn K mainGlobals "str" = some none)
    (z_sum : PySem.W.nsIn K mainGlobals "sum" = some none)
    (z_tuple : PySem.W.nsIn K mainGlobals "tuple" = some none)
    (g_FIGURES : PySem.W.nsIn K mainGlobals "FIGURES" = some (some (.str "0123456789" t_FIGURES)))
    (g_LETTERS : PySem.W.nsIn K mainGlobals "LETTERS" = some (some (.str "abcdefghijklmnopqrstuvwxyz" t_LETTERS)))
    (g_MOST_NAME : PySem.W.nsIn K mainGlobals "MOST_NAME" = some (some (.int 8 t_MOST_NAME)))
    (g_MOST_NUMBER : PySem.W.nsIn K mainGlobals "MOST_NUMBER" = some (some (.int 1000000 t_MOST_NUMBER)))
    (g_MOST_TEXT : PySem.W.nsIn K mainGlobals "MOST_TEXT" = some (some (.int 30 t_MOST_TEXT)))
    (g_PUBLIC : PySem.W.nsIn K mainGlobals "PUBLIC" = some (some (.ref u_PUBLIC)))
    (gl_PUBLIC : K.lookup u_PUBLIC = some ⟨.type "tuple", gd_PUBLIC, .seq #[.str "name" t_PUBLIC_0, .str "number" t_PUBLIC_1, .str "text" t_PUBLIC_2] gn_PUBLIC, gs_PUBLIC⟩)
    (g_UNKNOWN : PySem.W.nsIn K mainGlobals "UNKNOWN" = some (some (.ref u_UNKNOWN)))
    (gl_UNKNOWN : K.lookup u_UNKNOWN = some ⟨.type "tuple", gd_UNKNOWN, .seq #[.str "key" t_UNKNOWN_0, .str "nonce" t_UNKNOWN_1, .str "secret" t_UNKNOWN_2] gn_UNKNOWN, gs_UNKNOWN⟩)
    (xp : (P.main.scope.names.lookup ("super" : Str)).isSome = false)
    (hplain : ∀ ns : List Int, ns.length ≤ 63 → ∃ W', b_law (env0 13) (world0 ns) = .rt (.d (.bl true)) W') {fa : Addr} (hfa : mg "law" = some (.ref fa)) :
    ∃ fd : FuncData, (∀ (s : Shared) (u : Value), BindsTo s fd ⟨[u], []⟩ [("script", u)]) ∧ ∀ base : Heap, K.In base → base.Ns mainGlobals mg → FnOk P w K mg base (L2.CX P w) 17 fa fd ["script"] (spLaw K) :=
  fn_end (fun base _ _ => tx_mk X G a0 l0 c0 k0 a1 l1 c1 k1 a2 l2 c2 k2 a3 l3 c3 k3 a4 l4 c4 k4 a5 l5 c5 k5 a6 l6 c6 k6 a7 l7 c7 k7 a8 l8 c8 k8 a9 l9 c9 k9 a10 l10 c10 k10 a11 l11 c11 k11 a12 l12 c12 k12 a13 l13 c13 k13 a14 l14 c14 k14 a15 l15 c15 k15 a16 l16 c16 k16 a17 l17 c17 k17 a18 l18 c18 k18 a19 l19 c19 k19 a20 l20 c20 k20 a21 l21 c21 k21 a22 l22 c22 k22 a23 l23 c23 k23 z_all z_any z_bool z_int z_isinstance z_len z_range z_set z_str z_sum z_tuple g_FIGURES g_LETTERS g_MOST_NAME g_MOST_NUMBER g_MOST_TEXT g_PUBLIC gl_PUBLIC g_UNKNOWN gl_UNKNOWN xp base) (tx_mk (w := w) X G a0 l0 c0 k0 a1 l1 c1 k1 a2 l2 c2 k2 a3 l3 c3 k3 a4 l4 c4 k4 a5 l5 c5 k5 a6 l6 c6 k6 a7 l7 c7 k7 a8 l8 c8 k8 a9 l9 c9 k9 a10 l10 c10 k10 a11 l11 c11 k11 a12 l12 c12 k12 a13 l13 c13 k13 a14 l14 c14 k14 a15 l15 c15 k15 a16 l16 c16 k16 a17 l17 c17 k17 a18 l18 c18 k18 a19 l19 c19 k19 a20 l20 c20 k20 a21 l21 c21 k21 a22 l22 c22 k22 a23 l23 c23 k23 z_all z_any z_bool z_int z_isinstance z_len z_range z_set z_str z_sum z_tuple g_FIGURES g_LETTERS g_MOST_NAME g_MOST_NUMBER g_MOST_TEXT g_PUBLIC gl_PUBLIC g_UNKNOWN gl_UNKNOWN xp h).d_law hplain hfa
end K04
end
section
set_option linter.all false
set_option maxRecDepth 100000
/-! Pl core: plain functions, simplified. -/
namespace Rx
@[simp] theorem getv_c0 (a : Option Val) (r : Env) : getv (a :: r) 0 = a := id rfl
@[simp] theorem getv_cs (a : Option Val) (r : Env) (n : Nat) : getv (a :: r) (n + 1) = getv r n := id rfl
@[simp] theorem setv_c0 (a v : Option Val) (r : Env) : setv (a :: r) 0 v = v :: r := id rfl
@[simp] theorem setv_cs (a v : Option Val) (r : Env) (n : Nat) : setv (a :: r) (n + 1) v = a :: setv r n v := id rfl
@[simp] theorem none_z : none' 0 = [] := id rfl
@[simp] theorem none_s (n : Nat) : none' (n + 1) = none :: none' n := id rfl
@[simp] theorem p_var (i : Nat) (ρ : Env) (W : Wd) : varR i ρ W = R.of (getv ρ i) W := id rfl
@[simp] theorem p_cst (p : PV) (ρ : Env) (W : Wd) : cstR p ρ W = .ok (.d p) W := id rfl
@[simp] theorem p_bin (o : BinO) (ra rb : RE) (ρ : Env) (W : Wd) : binR o ra rb ρ W = (dat (ra ρ W)).bind fun x w => (dat (rb ρ w)).bind fun y w => R.of ((binop o x y).map .d) w := id rfl
@[simp] theorem p_cmp (o : CmpO) (ra rb : RE) (ρ : Env) (W : Wd) : cmpR o ra rb ρ W = (dat (ra ρ W)).bind fun x w => (dat (rb ρ w)).bind fun y w => R.of ((cmpop o x y).map fun t => .d (.bl t)) w := id rfl
@[simp] theorem p_and (ra rb : RE) (ρ : Env) (W : Wd) : andR ra rb ρ W = (dat (ra ρ W)).bind fun x w => if truth x then rb ρ w else .ok (.d x) w := id rfl
@[simp] theorem p_or (ra rb : RE) (ρ : Env) (W : Wd) : orR ra rb ρ W = (dat (ra ρ W)).bind fun x w => if truth x then .ok (.d x) w else rb ρ w := id rfl
@[simp] theorem p_not (ra : RE) (ρ : Env) (W : Wd) : notR ra ρ W = (dat (ra ρ W)).bind fun x w => .ok (.d (.bl (!truth x))) w := id rfl
@[simp] theorem p_ite (ra rb rd : RE) (ρ : Env) (W : Wd) : iteR ra rb rd ρ W = (dat (ra ρ W)).bind fun x w => if truth x then rb ρ w else rd ρ w := id rfl
@[simp] theorem p_ix (ra rb : RE) (ρ : Env) (W : Wd) : ixR ra rb ρ W = (ra ρ W).bind fun x w => (dat (rb ρ w)).bind fun y w => ixV x y w := id rfl
@[simp] theorem p_nil (ρ : Env) (W : Wd) : nilR ρ W = .ok [] W := id rfl
@[simp] theorem p_cons (ra : RE) (r : Env → Wd → R (List Val)) (ρ : Env) (W : Wd) : consR ra r ρ W = (ra ρ W).bind fun v w => (r ρ w).bind fun vs w => .ok (v :: vs) w := id rfl
@[simp] theorem p_tup (r : Env → Wd → R (List Val)) (ρ : Env) (W : Wd) : tupR r ρ W = (r ρ W).bind fun vs w => (R.of (valsD vs) w).bind fun ds w => if fits ds.length then .ok (.d (.tup ds)) w else .st := id rfl
@[simp] theorem p_lst (r : Env → Wd → R (List Val)) (ρ : Env) (W : Wd) : lstR r ρ W = (r ρ W).bind fun vs w => (R.of (valsD vs) w).bind fun ds w => if fits ds.length then .ok (.d (.lst ds)) w else .st := id rfl
@[simp] theorem p_ap1 (f : PV → Option PV) (ra : RE) (ρ : Env) (W : Wd) : ap1R f ra ρ W = (dat (ra ρ W)).bind fun x w => R.of ((f x).map .d) w := id rfl
@[simp] theorem p_call (cf : List Val → Wd → R Val) (r : Env → Wd → R (List Val)) (ρ : Env) (W : Wd) : callR cf r ρ W = (r ρ W).bind fun vs w => if noX vs then cf vs w else .st := id rfl
@[simp] theorem p_seq (r k : RS) (ρ : Env) (W : Wd) : seqR r k ρ W = (r ρ W).then k := id rfl
@[simp] theorem p_ret (re : RE) (ρ : Env) (W : Wd) : retR re ρ W = (re ρ W).go ρ fun v w => .rt v w := id rfl
@[simp] theorem p_set (i : Nat) (re : RE) (ρ : Env) (W : Wd) : setR i re ρ W = (re ρ W).go ρ fun v w => .nx (setv ρ i (some v)) w := id rfl
@[simp] theorem p_expr (re : RE) (ρ : Env) (W : Wd) : exprR re ρ W = (re ρ W).go ρ fun _ w => .nx ρ w := id rfl
@[simp] theorem p_if (rt : RE) (ra rb : RS) (ρ : Env) (W : Wd) : ifR rt ra rb ρ W = (dat (rt ρ W)).go ρ fun v w => if truth v then ra ρ w else rb ρ w := id rfl
@[simp] theorem p_nop (ρ : Env) (W : Wd) : nopR ρ W = .nx ρ W := id rfl
@[simp] theorem p_dnil (ρ : Env) (W : Wd) : dnilR ρ W = .ok (.d (.dct [])) W := id rfl
@[simp] theorem p_yes (ρ : Env) (W : Wd) : yesT ρ W = .ok true W := id rfl
@[simp] theorem p_tst (re : RE) (ρ : Env) (W : Wd) : tst re ρ W = (dat (re ρ W)).bind fun x w => .ok (truth x) w := id rfl
@[simp] theorem p_items (ra : RE) (ρ : Env) (W : Wd) : itemsR ra ρ W = (dat (ra ρ W)).bind fun v w => R.of (items v) w := id rfl
@[simp] theorem p_itm (ra : RE) (ρ : Env) (W : Wd) : itmR ra ρ W = (dat (ra ρ W)).bind fun x w => match x with | .dct kvs => .ok (itemsL kvs) w | _ => .st := id rfl
@[simp] theorem p_vls (ra : RE) (ρ : Env) (W : Wd) : vlsR ra ρ W = (dat (ra ρ W)).bind fun x w => match x with | .dct kvs => .ok (kvs.map (·.2)) w | _ => .st := id rfl
@[simp] theorem p_enm (ra : RE) (ρ : Env) (W : Wd) : enmR ra ρ W = (dat (ra ρ W)).bind fun x w => match x with | .lst xs => .ok (enumL 0 xs) w | _ => .st := id rfl
def rngO : PV → PV → Option (List PV)
  | .int i, .int j => if -1000000000 < i ∧ i < 1000000000 ∧ -1000000000 < j ∧ j < 1000000000 then some (rangeL i (j - i).toNat) else none
  | _, _ => none
theorem rngO_at (i j : Int) (h1 : -1000000000 < i) (h2 : i < 1000000000) (h3 : -1000000000 < j) (h4 : j < 1000000000) : rngO (.int i) (.int j) = some (rangeL i (j - i).toNat) := by
  unfold rngO
  simp only
  rw [if_pos ⟨h1, h2, h3, h4⟩]
theorem rngO_0 (k : Nat) (h : k < 1000000000) : rngO (.int 0) (.int (k : Int)) = some (rangeL 0 k) := by
  rw [rngO_at 0 k (by omega) (by omega) (by omega) (by omega), Int.sub_zero, Int.toNat_natCast]
@[simp] theorem p_rng (ra rb : RE) (ρ : Env) (W : Wd) : rngR ra rb ρ W = (dat (ra ρ W)).bind fun x w => (dat (rb ρ w)).bind fun y w => R.of (rngO x y) w := by
  unfold rngR
  congr 1
  funext x w
  congr 1
  funext y w
  cases x <;> first | rfl | skip
  cases y <;> first | rfl | skip
  rename_i i j
  show (if -1000000000 < i ∧ i < 1000000000 ∧ -1000000000 < j ∧ j < 1000000000 then R.ok (rangeL i (j - i).toNat) w else .st) = R.of (rngO (.int i) (.int j)) w
  unfold rngO
  by_cases h : -1000000000 < i ∧ i < 1000000000 ∧ -1000000000 < j ∧ j < 1000000000
  · rw [if_pos h]; simp only; rw [if_pos h]; rfl
  · rw [if_neg h]; simp only; rw [if_neg h]; rfl
def stepF (t : Tg) (rb : RS) : PV → Env → Wd → Out := fun x ρ w => match bindT ρ t x with | some ρ => rb ρ w | none => .st
@[simp] theorem p_step (t : Tg) (rb : RS) (x : PV) (ρ : Env) (w : Wd) : stepF t rb x ρ w = match bindT ρ t x with | some ρ => rb ρ w | none => .st := id rfl
@[simp] theorem p_for (src : Env → Wd → R (List PV)) (t : Tg) (rb : RS) (ρ : Env) (W : Wd) : forR src t rb ρ W = (src ρ W).go ρ fun xs w => forL (stepF t rb) xs ρ w := id rfl
/-- a turn of a comprehension -/
def turnF (ρ : Env) (t : Tg) (ts : Env → Wd → R Bool) (leaf : Env → Wd → R (List PV)) : PV → Wd → R (List PV) := fun x w => (R.of (bindT ρ t x) w).bind fun ρ1 w => (ts ρ1 w).bind fun b w => if b then leaf ρ1 w else .ok [] w
@[simp] theorem p_turn (ρ : Env) (t : Tg) (ts : Env → Wd → R Bool) (leaf : Env → Wd → R (List PV)) (x : PV) (w : Wd) : turnF ρ t ts leaf x w = (R.of (bindT ρ t x) w).bind fun ρ1 w => (ts ρ1 w).bind fun b w => if b then leaf ρ1 w else .ok [] w := id rfl
def fitF (fin : List PV → Option PV) (r : R (List PV)) : R Val := (noEx r).bind fun vs w => if fits vs.length then R.of ((fin vs).map Val.d) w else .st
theorem fitF_ok (fin : List PV → Option PV) (vs : List PV) (w : Wd) (h : vs.length ≤ 16777216) : fitF fin (.ok vs w) = R.of ((fin vs).map Val.d) w := by
  unfold fitF
  show (if fits vs.length then R.of ((fin vs).map Val.d) w else .st) = _
  rw [if_pos (show fits vs.length = true from Nat.ble_eq_true_of_le h)]
@[simp] theorem p_comp1 (src leaf : Env → Wd → R (List PV)) (t : Tg) (ts : Env → Wd → R Bool) (own : List Nat) (fin : List PV → Option PV) (ρ : Env) (W : Wd) : comp1R src leaf t ts own fin ρ W =
  (src ρ W).bind fun xs w => fitF fin (loopL (turnF (blkE ρ own) t ts leaf) xs w) := id rfl
@[simp] theorem p_noExO {α : Type} (a : α) (w : Wd) : noEx (.ok a w) = .ok a w := id rfl
@[simp] theorem p_finL (vs : List PV) : finL vs = some (.lst vs) := id rfl
theorem loop_ok {α β : Type} {f : α → Wd → R (List β)} {g : α → List β} {W : Wd} : ∀ {xs : List α}, (∀ x ∈ xs, f x W = .ok (g x) W) → loopL f xs W = .ok (xs.flatMap g) W
  | [], _ => rfl
  | x :: xs, h => by
    rw [loopL, h x List.mem_cons_self, R.bind_ok, loop_ok fun y hy => h y (List.mem_cons_of_mem _ hy)]
    rfl
@[simp] theorem p_fix (n nl : Nat) (b : RS) (vs : List Val) (w : Wd) : fixR n nl b vs w = if Nat.beq vs.length n then runB nl b vs w else .st := id rfl
@[simp] theorem p_run (nl : Nat) (b : RS) (us : List Val) (w : Wd) : runB nl b us w = endO' (b (us.map some ++ none' (nl - us.length)) w) := id rfl
@[simp] theorem p_leafL (re : RE) (ρ : Env) (w : Wd) : leafL re ρ w = (dat (re ρ w)).bind fun v w => .ok [v] w := id rfl
@[simp] theorem p_leafD (rk rv : RE) (ρ : Env) (w : Wd) : leafD rk rv ρ w = (dat (rk ρ w)).bind fun x w => (dat (rv ρ w)).bind fun y w => if keyable x then .ok [.tup [x, y]] w else .st := id rfl
@[simp] theorem p_end1 (ρ : Env) (w : Wd) : endO' (.nx ρ w) = .ok (.d .non) w := id rfl
@[simp] theorem p_end2 (v : Val) (w : Wd) : endO' (.rt v w) = .ok v w := id rfl
@[simp] theorem p_end3 (k : Nat) (fs : List PV) (ρ : Env) (w : Wd) : endO' (.ex k fs ρ w) = .ex k fs w := id rfl
@[simp] theorem p_fits3 (n : Nat) : fits n = decide (n ≤ LIM) := by
  unfold fits
  cases h : Nat.ble n LIM with
  | true => exact (decide_eq_true (Nat.le_of_ble_eq_true h)).symm
  | false => exact (decide_eq_false fun q => by rw [Nat.ble_eq_true_of_le q] at h; cases h).symm
@[simp] theorem p_lim : LIM = 16777216 := id rfl
@[simp] theorem p_cleanX0 : cleanX [] = [] := id rfl
@[simp] theorem p_cleanXn (r : Env) : cleanX (none :: r) = none :: cleanX r := id rfl
@[simp] theorem p_cleanXd (p : PV) (r : Env) : cleanX (some (.d p) :: r) = some (.d p) :: cleanX r := id rfl
@[simp] theorem p_cleanXo (n : Nat) (r : Env) : cleanX (some (.o n) :: r) = some (.o n) :: cleanX r := id rfl
@[simp] theorem p_cleanXm (o : Option PV) (r : Env) : cleanX (o.map Val.d :: r) = o.map Val.d :: cleanX r := by cases o <;> exact id rfl
@[simp] theorem p_wipe0 (ρ : Env) : Rx.wipe ρ [] = ρ := id rfl
@[simp] theorem p_wipec (ρ : Env) (i : Nat) (r : List Nat) : Rx.wipe ρ (i :: r) = setv (Rx.wipe ρ r) i none := id rfl
@[simp] theorem p_blkE (ρ : Env) (own : List Nat) : blkE ρ own = Rx.wipe (cleanX ρ) own := id rfl
@[simp] theorem p_valsD0 : valsD [] = some [] := id rfl
@[simp] theorem p_valsDc (p : PV) (r : List Val) : valsD (.d p :: r) = (valsD r).map (p :: ·) := id rfl
@[simp] theorem p_noX0 : noX [] = true := id rfl
@[simp] theorem p_noXd (p : PV) (r : List Val) : noX (.d p :: r) = noX r := id rfl
@[simp] theorem p_noXo (n : Nat) (r : List Val) : noX (.o n :: r) = noX r := id rfl
@[simp] theorem p_bindN (ρ : Env) (i : Nat) (v : PV) : bindT ρ (.nm i) v = some (setv ρ i (some (.d v))) := id rfl
@[simp] theorem p_bindT (ρ : Env) (is : List Nat) (xs : List PV) : bindT ρ (.tp is) (.tup xs) = sets ρ is xs := id rfl
@[simp] theorem p_sets0 (ρ : Env) : sets ρ [] [] = some ρ := id rfl
@[simp] theorem p_setsc (ρ : Env) (i : Nat) (is : List Nat) (v : PV) (vs : List PV) : sets ρ (i :: is) (v :: vs) = sets (setv ρ i (some (.d v))) is vs := id rfl
@[simp] theorem p_trb (b : Bool) : truth (.bl b) = b := id rfl
theorem forL_nx {f : PV → Env → Wd → Out} {x : PV} {xs : List PV} {ρ ρ' : Env} {W W' : Wd} (h : f x ρ W = .nx ρ' W') : forL f (x :: xs) ρ W = forL f xs ρ' W' := by rw [forL, h]
theorem forL_rt {f : PV → Env → Wd → Out} {x : PV} {xs : List PV} {ρ : Env} {v : Val} {W W' : Wd} (h : f x ρ W = .rt v W') : forL f (x :: xs) ρ W = .rt v W' := by rw [forL, h]
theorem forL_ex {f : PV → Env → Wd → Out} {x : PV} {xs : List PV} {ρ ρ' : Env} {k : Nat} {fs : List PV} {W W' : Wd} (h : f x ρ W = .ex k fs ρ' W') : forL f (x :: xs) ρ W = .ex k fs ρ' W' := by rw [forL, h]
@[simp] theorem forL_nil (f : PV → Env → Wd → Out) (ρ : Env) (W : Wd) : forL f [] ρ W = .nx ρ W := id rfl
@[simp] theorem p_starD (ra : RE) (r : Env → Wd → R (List Val)) (ρ : Env) (W : Wd) : starDR ra r ρ W = (dat (ra ρ W)).bind fun x w => match x with
  | .dct kvs => (r ρ w).bind fun vs w => .ok ((kvs.map (·.1)).map .d ++ vs) w
  | _ => .st := id rfl
@[simp] theorem p_starI (ra : RE) (r : Env → Wd → R (List Val)) (ρ : Env) (W : Wd) : starIR ra r ρ W = (dat (ra ρ W)).bind fun x w => match x with
  | .dct kvs => (r ρ w).bind fun vs w => .ok ((itemsL kvs).map .d ++ vs) w
  | _ => .st := id rfl
@[simp] theorem p_star (ra : RE) (r : Env → Wd → R (List Val)) (ρ : Env) (W : Wd) : starR ra r ρ W = (dat (ra ρ W)).bind fun x w => match extL x with
  | some ys => (r ρ w).bind fun vs w => .ok (ys.map .d ++ vs) w
  | none => .st := id rfl
@[simp] theorem p_get1 (ra re : RE) (ρ : Env) (W : Wd) : get1R ra re ρ W = (dat (ra ρ W)).bind fun d w => match d with
  | .dct kvs => (dat (re ρ w)).bind fun k w => if keyable k then .ok (.d ((dget k kvs).getD .non)) w else .st
  | _ => .st := id rfl
@[simp] theorem p_itmL (ra : RE) (ρ : Env) (W : Wd) : itmLR ra ρ W = (dat (ra ρ W)).bind fun x w => match x with | .dct kvs => .ok (.d (.lst (itemsL kvs))) w | _ => .st := id rfl
@[simp] theorem p_mrg2 (ra rb : RE) (ρ : Env) (W : Wd) : mrg2R ra rb ρ W = (dat (ra ρ W)).bind fun x w => match x with
  | .dct xs => (dat (rb ρ w)).bind fun y w => match y with
    | .dct ys => if fits (xs.length + ys.length) then .ok (.d (.dct (dmerge (dmerge [] xs) ys))) w else .st
    | _ => .st
  | _ => .st := id rfl
@[simp] theorem p_star0 (n nl : Nat) (b : RS) (vs : List Val) (w : Wd) : starF n nl b vs w = if Nat.ble n vs.length then (match valsD (vs.drop n) with
  | some ds => if fits ds.length then runB nl b (vs.take n ++ [.d (.tup ds)]) w else .st
  | none => .st) else .st := id rfl
@[simp] theorem p_rse (k n : Nat) (r : Env → Wd → R (List Val)) (ρ : Env) (W : Wd) : rseR k n r ρ W = (r ρ W).go ρ fun vs w => match valsD vs with
  | some ds => if Nat.beq ds.length n then .ex k ds.reverse ρ w else .st
  | none => .st := id rfl
@[simp] theorem p_setc (i : Nat) (r : RE) (ρ : Env) (W : Wd) : setcR i r ρ W = (r ρ W).go ρ fun v w => if isNewV v then .nx (setv ρ i (some v)) w else .st := id rfl
@[simp] theorem p_own (i : Nat) (re : RE) (ρ : Env) (W : Wd) : ownR i re ρ W = (dat (re ρ W)).go ρ fun v w => if isNew v then .nx (setv ρ i (some (.d v))) w else .st := id rfl
@[simp] theorem p_tupS (is : List Nat) (ra : RE) (ρ : Env) (W : Wd) : tupS is ra ρ W = (dat (ra ρ W)).go ρ fun v w => match bindT ρ (.tp is) v with | some ρ => .nx ρ w | none => .st := id rfl
@[simp] theorem p_put (i : Nat) (rk rv : RE) (ρ : Env) (W : Wd) : putR i rk rv ρ W = match getv ρ i with
  | some (.d (.dct kvs)) => (dat (rv ρ W)).go ρ fun v w => (dat (rk ρ w)).go ρ fun k w => if keyable k && Nat.blt kvs.length LIM then .nx (setv ρ i (some (.d (.dct (dput k v kvs))))) w else .st
  | _ => .st := id rfl
@[simp] theorem p_dpop (i : Nat) (re rf : RE) (ρ : Env) (W : Wd) : dpopR i re rf ρ W = match getv ρ i with
  | some (.d (.dct kvs)) => (dat (re ρ W)).go ρ fun k w => (dat (rf ρ w)).go ρ fun _ w => if keyable k then .nx (setv ρ i (some (.d (.dct (ddel k kvs))))) w else .st
  | _ => .st := id rfl
@[simp] theorem p_cmp2 (o p : CmpO) (ra rb rd : RE) (ρ : Env) (W : Wd) : cmp2R o p ra rb rd ρ W = (dat (ra ρ W)).bind fun x w => (dat (rb ρ w)).bind fun y w => (R.of (cmpop o x y) w).bind fun t w =>
  if t then (dat (rd ρ w)).bind fun z w => R.of ((cmpop p y z).map fun t => .d (.bl t)) w else .ok (.d (.bl false)) w := id rfl
@[simp] theorem p_key (s : List Nat) : keyable (.str s) = true := id rfl
@[simp] theorem p_sl (ra : RE) (ri rj : Env → Wd → R (Option Int)) (ρ : Env) (W : Wd) : slR ra ri rj ρ W = (dat (ra ρ W)).bind fun x w => (ri ρ w).bind fun i w => (rj ρ w).bind fun j w => R.of ((slice x i j).map .d) w := id rfl
@[simp] theorem p_noO (ρ : Env) (W : Wd) : noO ρ W = .ok none W := id rfl
@[simp] theorem p_soO (ra : RE) (ρ : Env) (W : Wd) : soO ra ρ W = partR (ra ρ W) := id rfl
@[simp] theorem p_part (i : Int) (w : Wd) : partR (.ok (.d (.int i)) w) = .ok (some i) w := id rfl
@[simp] theorem p_go1 {α : Type} (ρ : Env) (a : α) (w : Wd) (k : α → Wd → Out) : (R.ok a w).go ρ k = k a w := id rfl
theorem valsD_map : ∀ (xs : List PV) (ys : List Val), valsD (xs.map .d ++ ys) = (valsD ys).map (xs ++ ·)
  | [], ys => by cases e : valsD ys <;> simp [e]
  | x :: xs, ys => by
    show (valsD (xs.map .d ++ ys)).map (x :: ·) = _
    rw [valsD_map xs ys]
    cases valsD ys <;> rfl
theorem valsD_all (xs : List PV) : valsD (xs.map .d) = some xs := by
  have := valsD_map xs []
  rw [List.append_nil] at this
  rw [this]
  show some (xs ++ []) = _
  rw [List.append_nil]
theorem noX_all : ∀ xs : List PV, noX (xs.map .d) = true
  | [] => rfl
  | _ :: r => noX_all r
def leaf2F (src2 : Env → Wd → R (List PV)) (t2 : Tg) (ts2 : Env → Wd → R Bool) (leaf : Env → Wd → R (List PV)) : Env → Wd → R (List PV) := fun ρ w => (src2 ρ w).bind fun xs w => loopL (turnF ρ t2 ts2 leaf) xs w
@[simp] theorem p_leaf2 (src2 : Env → Wd → R (List PV)) (t2 : Tg) (ts2 : Env → Wd → R Bool) (leaf : Env → Wd → R (List PV)) (ρ : Env) (w : Wd) : leaf2F src2 t2 ts2 leaf ρ w = (src2 ρ w).bind fun xs w => loopL (turnF ρ t2 ts2 leaf) xs w := id rfl
@[simp] theorem p_comp2 (src leaf : Env → Wd → R (List PV)) (t : Tg) (ts : Env → Wd → R Bool) (src2 : Env → Wd → R (List PV)) (t2 : Tg) (ts2 : Env → Wd → R Bool) (own : List Nat) (fin : List PV → Option PV) (ρ : Env) (W : Wd) : comp2R src leaf t ts src2 t2 ts2 own fin ρ W =
  (src ρ W).bind fun xs w => fitF fin (loopL (turnF (blkE ρ own) t ts (leaf2F src2 t2 ts2 leaf)) xs w) := id rfl
theorem loop_map {α : Type} {f : PV → Wd → R (List PV)} {e : α → PV} {g : α → List PV} {W : Wd} : ∀ {l : List α}, (∀ a ∈ l, f (e a) W = .ok (g a) W) → loopL f (l.map e) W = .ok (l.flatMap g) W
  | [], _ => rfl
  | a :: l, h => by
    rw [List.map_cons, loopL, h a List.mem_cons_self, R.bind_ok, loop_map fun b hb => h b (List.mem_cons_of_mem _ hb)]
    rfl
theorem loop_map1 {α : Type} {f : PV → Wd → R (List PV)} {e v : α → PV} {W : Wd} : ∀ {l : List α}, (∀ a ∈ l, f (e a) W = .ok [v a] W) → loopL f (l.map e) W = .ok (l.map v) W
  | [], _ => rfl
  | a :: l, h => by
    rw [List.map_cons, loopL, h a List.mem_cons_self, R.bind_ok, loop_map1 fun b hb => h b (List.mem_cons_of_mem _ hb)]
    rfl
end Rx
end
section
set_option linter.all false
set_option maxRecDepth 100000
set_option maxHeartbeats 4000000
/-! Pl map: dicts with texts as keys, in plain Lean. -/
namespace Rx.Mp
abbrev M (α : Type) := List (List Nat × α)
section
variable {α β : Type}
def tget (n : List Nat) : M α → Option α
  | [] => none
  | (a, v) :: r => if a = n then some v else tget n r
def tput (n : List Nat) (v : α) : M α → M α
  | [] => [(n, v)]
  | (a, u) :: r => if a = n then (a, v) :: r else (a, u) :: tput n v r
def tdel (n : List Nat) : M α → M α
  | [] => []
  | (a, u) :: r => if a = n then r else (a, u) :: tdel n r
def tmerge : M α → M α → M α
  | l, [] => l
  | l, (k, v) :: r => tmerge (tput k v l) r
abbrev keys (l : M α) : List (List Nat) := l.map (·.1)
abbrev Nd (l : M α) : Prop := (keys l).Nodup
def emb (φ : α → PV) (l : M α) : List (PV × PV) := l.map fun p => (.str p.1, φ p.2)
theorem eqv_str (a b : List Nat) : eqv (.str a) (.str b) = decide (a = b) := by
  rw [eqv, eqN_iff]
theorem dget_emb (φ : α → PV) (n : List Nat) : ∀ l : M α, dget (.str n) (emb φ l) = (tget n l).map φ
  | [] => rfl
  | (a, v) :: r => by
    show (if eqv (.str a) (.str n) then some (φ v) else dget (.str n) (emb φ r)) = _
    rw [eqv_str, dget_emb φ n r, tget]
    by_cases h : a = n
    · rw [if_pos (decide_eq_true h), if_pos h]; rfl
    · rw [if_neg (by simpa using h), if_neg h]
theorem dput_emb (φ : α → PV) (n : List Nat) (v : α) : ∀ l : M α, dput (.str n) (φ v) (emb φ l) = emb φ (tput n v l)
  | [] => rfl
  | (a, u) :: r => by
    show (if eqv (.str a) (.str n) then (PV.str a, φ v) :: emb φ r else (PV.str a, φ u) :: dput (.str n) (φ v) (emb φ r)) = _
    rw [eqv_str, dput_emb φ n v r, tput]
    by_cases h : a = n
    · rw [if_pos (decide_eq_true h), if_pos h]; rfl
    · rw [if_neg (by simpa using h), if_neg h]; rfl
theorem ddel_emb (φ : α → PV) (n : List Nat) : ∀ l : M α, ddel (.str n) (emb φ l) = emb φ (tdel n l)
  | [] => rfl
  | (a, u) :: r => by
    show (if eqv (.str a) (.str n) then emb φ r else (PV.str a, φ u) :: ddel (.str n) (emb φ r)) = _
    rw [eqv_str, ddel_emb φ n r, tdel]
    by_cases h : a = n
    · rw [if_pos (decide_eq_true h), if_pos h]
    · rw [if_neg (by simpa using h), if_neg h]; rfl
theorem dmerge_emb (φ : α → PV) : ∀ (r l : M α), dmerge (emb φ l) (emb φ r) = emb φ (tmerge l r)
  | [], l => rfl
  | (k, v) :: r, l => by
    show dmerge (dput (.str k) (φ v) (emb φ l)) (emb φ r) = _
    rw [dput_emb, dmerge_emb φ r]; rfl
theorem emb_len (φ : α → PV) (l : M α) : (emb φ l).length = l.length := List.length_map _
theorem emb_app (φ : α → PV) (l r : M α) : emb φ (l ++ r) = emb φ l ++ emb φ r := List.map_append
theorem keysS_emb (φ : α → PV) : ∀ l : M α, keysS (emb φ l) = some (keys l)
  | [] => rfl
  | (a, v) :: r => by
    show (keysS (emb φ r)).map (a :: ·) = _
    rw [keysS_emb φ r]; rfl
theorem keys_map (φ : α → PV) (l : M α) : (emb φ l).map (·.1) = (keys l).map .str := by
  rw [emb, List.map_map, List.map_map]; rfl
theorem strsO_map : ∀ ss : List (List Nat), strsO (ss.map .str) = some ss
  | [] => rfl
  | s :: r => by
    show (strsO (r.map .str)).map (s :: ·) = _
    rw [strsO_map r]; rfl
/-! ### laws of maps -/
theorem tget_none {n : List Nat} : ∀ {l : M α}, tget n l = none ↔ n ∉ keys l
  | [] => by simp [tget]
  | (a, v) :: r => by
    rw [tget]
    by_cases h : a = n
    · rw [if_pos h]; simp [h]
    · rw [if_neg h, tget_none]
      simp only [keys, List.map_cons, List.mem_cons, not_or]
      exact ⟨fun q => ⟨fun e => h e.symm, q⟩, (·.2)⟩
theorem tget_mem {n : List Nat} {l : M α} : (tget n l).isSome = true ↔ n ∈ keys l := by
  have := tget_none (n := n) (l := l)
  cases e : tget n l with
  | none => rw [e] at this; simp at this; simpa using this
  | some v =>
    rw [e] at this
    simp only [Option.isSome_some, true_iff]
    exact Classical.byContradiction fun q => by have := this.mpr q; cases this
theorem tget_put {n m : List Nat} {v : α} : ∀ {l : M α}, tget m (tput n v l) = if n = m then some v else tget m l
  | [] => rfl
  | (a, u) :: r => by
    rw [tput]
    by_cases h : a = n
    · rw [if_pos h, tget, tget]
      by_cases e : a = m
      · rw [if_pos e, if_pos (h.symm.trans e)]
      · rw [if_neg e, if_neg (fun q => e (h.trans q)), if_neg e]
    · rw [if_neg h, tget, tget]
      by_cases e : a = m
      · rw [if_pos e, if_pos e, if_neg (fun q => h (e.trans q.symm))]
      · rw [if_neg e, if_neg e]; exact tget_put
theorem keys_put {n m : List Nat} {v : α} {l : M α} : m ∈ keys (tput n v l) ↔ m = n ∨ m ∈ keys l := by
  rw [← tget_mem, ← tget_mem, tget_put]
  by_cases h : n = m
  · rw [if_pos h]; simp [h]
  · rw [if_neg h]
    exact ⟨.inr, fun q => q.elim (fun e => absurd e.symm h) id⟩
theorem nd_put {n : List Nat} {v : α} : ∀ {l : M α}, Nd l → Nd (tput n v l)
  | [], _ => List.nodup_cons.mpr ⟨by simp, List.nodup_nil⟩
  | (a, u) :: r, h => by
    rw [tput]
    obtain ⟨h1, h2⟩ := List.nodup_cons.mp h
    by_cases e : a = n
    · rw [if_pos e]; exact h
    · rw [if_neg e]
      refine List.nodup_cons.mpr ⟨fun z => ?_, nd_put h2⟩
      rcases keys_put.mp z with z | z
      · exact e z
      · exact h1 z
theorem nd_merge : ∀ {r l : M α}, Nd l → Nd (tmerge l r)
  | [], _, h => h
  | (_, _) :: r, l, h => nd_merge (r := r) (nd_put h)
theorem keys_merge {m : List Nat} : ∀ {r l : M α}, m ∈ keys (tmerge l r) ↔ m ∈ keys l ∨ m ∈ keys r
  | [], l => by simp [tmerge]
  | (k, v) :: r, l => by
    rw [tmerge, keys_merge, keys_put]
    simp only [keys, List.map_cons, List.mem_cons]
    constructor
    · rintro ((h | h) | h)
      · exact .inr (.inl h)
      · exact .inl h
      · exact .inr (.inr h)
    · rintro (h | h | h)
      · exact .inl (.inr h)
      · exact .inl (.inl h)
      · exact .inr h
theorem tget_merge {m : List Nat} : ∀ {r l : M α}, Nd r → tget m (tmerge l r) = match tget m r with | some v => some v | none => tget m l
  | [], l, _ => rfl
  | (k, v) :: r, l, h => by
    obtain ⟨h1, h2⟩ := List.nodup_cons.mp h
    rw [tmerge, tget_merge h2, tget, tget_put]
    by_cases e : k = m
    · subst e
      rw [if_pos rfl, if_pos rfl, tget_none.mpr h1]
    · rw [if_neg e, if_neg e]
theorem tmerge_app : ∀ (a l b : M α), tmerge l (a ++ b) = tmerge (tmerge l a) b
  | [], _, _ => rfl
  | (_, _) :: a, l, b => tmerge_app a _ b
theorem tput_new {n : List Nat} {v : α} : ∀ {l : M α}, n ∉ keys l → tput n v l = l ++ [(n, v)]
  | [], _ => rfl
  | (a, u) :: r, h => by
    have h1 : a ≠ n := fun e => h (by rw [e]; exact List.mem_cons_self)
    rw [tput, if_neg h1, tput_new fun z => h (List.mem_cons_of_mem _ z)]; rfl
theorem tmerge_new : ∀ {r l : M α}, Nd r → (∀ n ∈ keys r, n ∉ keys l) → tmerge l r = l ++ r
  | [], l, _, _ => by simp [tmerge]
  | (k, v) :: r, l, h, hd => by
    obtain ⟨h1, h2⟩ := List.nodup_cons.mp h
    rw [tmerge, tput_new (hd k List.mem_cons_self), tmerge_new h2, List.append_assoc]; rfl
    intro n hn z
    rw [keys, List.map_append, List.mem_append] at z
    rcases z with z | z
    · exact hd n (List.mem_cons_of_mem _ hn) z
    · simp at z; rw [z] at hn; exact h1 hn
theorem tmerge_nil {r : M α} (h : Nd r) : tmerge [] r = r := by
  have := tmerge_new (l := []) h fun _ _ z => by simp at z
  rw [this]; rfl
theorem tget_of_mem {n : List Nat} {v : α} : ∀ {l : M α}, Nd l → (n, v) ∈ l → tget n l = some v
  | (a, u) :: r, h, hm => by
    obtain ⟨h1, h2⟩ := List.nodup_cons.mp h
    rw [tget]
    rcases List.mem_cons.mp hm with e | hm
    · cases e; rw [if_pos rfl]
    · by_cases e : a = n
      · exact absurd (List.mem_map.mpr ⟨_, hm, e.symm⟩) h1
      · rw [if_neg e]; exact tget_of_mem h2 hm
theorem mem_of_tget {n : List Nat} {v : α} : ∀ {l : M α}, tget n l = some v → (n, v) ∈ l
  | (a, u) :: r, h => by
    rw [tget] at h
    by_cases e : a = n
    · rw [if_pos e] at h; cases h; rw [e]; exact List.mem_cons_self
    · rw [if_neg e] at h; exact List.mem_cons_of_mem _ (mem_of_tget h)
  | [], h => by cases h
/-! ### names in order -/
theorem sortS_congr {l m : List (List Nat)} (hl : l.Nodup) (hm : m.Nodup) (h : ∀ n, n ∈ l ↔ n ∈ m) : sortS l = sortS m :=
  ord_uniq leN_tot ((sortG_perm l).trans (((List.perm_ext_iff_of_nodup hl hm).mpr h).trans (sortG_perm m).symm)) (sortG_ord leN_tot l) (sortG_ord leN_tot m)
theorem sortS_mem {l : List (List Nat)} {n : List Nat} : n ∈ sortS l ↔ n ∈ l := (sortG_perm l).mem_iff
theorem sortS_nd {l : List (List Nat)} (h : l.Nodup) : (sortS l).Nodup := (sortG_perm l).nodup_iff.mpr h
theorem sortS_ord (l : List (List Nat)) : Ord leN (sortS l) := sortG_ord leN_tot l
theorem sortS_self {l : List (List Nat)} (h : Ord leN l) : sortS l = l := (sortG_of leN_tot (List.Perm.refl l) h).symm
theorem sortS_filter {l : List (List Nat)} (p : List Nat → Bool) : sortS (l.filter p) = (sortS l).filter p :=
  (sortG_of leN_tot ((sortG_perm l).filter p) ((sortS_ord l).filter p)).symm
/-- a map by a list of names -/
def mk (ns : List (List Nat)) (f : List Nat → α) : M α := ns.map fun n => (n, f n)
theorem mk_keys (ns : List (List Nat)) (f : List Nat → α) : keys (mk ns f) = ns := by
  rw [keys, mk, List.map_map]; exact List.map_id _
theorem mk_get {ns : List (List Nat)} {f : List Nat → α} {n : List Nat} : tget n (mk ns f) = if n ∈ ns then some (f n) else none := by
  induction ns with
  | nil => rfl
  | cons a r ih =>
    show (if a = n then some (f a) else tget n (mk r f)) = _
    by_cases e : a = n
    · rw [if_pos e, if_pos (by rw [e]; exact List.mem_cons_self), e]
    · rw [if_neg e, ih]
      by_cases h : n ∈ r
      · rw [if_pos h, if_pos (List.mem_cons_of_mem _ h)]
      · rw [if_neg h, if_neg (fun z => by rcases List.mem_cons.mp z with z | z; exact e z.symm; exact h z)]
theorem mk_eq {l : M α} (h : Nd l) (f : List Nat → α) (hf : ∀ n v, tget n l = some v → f n = v) : l = mk (keys l) f := by
  rw [mk, keys, List.map_map]
  refine (List.map_id l).symm.trans (List.map_congr_left fun p hp => ?_)
  exact Prod.ext rfl (hf p.1 p.2 (tget_of_mem h hp)).symm
theorem mk_congr {ns : List (List Nat)} {f g : List Nat → α} (h : ∀ n ∈ ns, f n = g n) : mk ns f = mk ns g := List.map_congr_left fun n hn => by rw [h n hn]
end
/-! ### pigeons -/
theorem pigeon : ∀ {l m : List (List Nat)}, l.Nodup → (∀ x ∈ l, x ∈ m) → l.length ≤ m.length
  | [], _, _, _ => Nat.zero_le _
  | x :: l, m, h, hs => by
    obtain ⟨h1, h2⟩ := List.nodup_cons.mp h
    have hx := hs x List.mem_cons_self
    have := pigeon (m := m.erase x) h2 fun y hy => (List.mem_erase_of_ne (fun e => h1 (by rw [← e]; exact hy))).mpr (hs y (List.mem_cons_of_mem _ hy))
    have hl := List.length_erase_of_mem hx
    have := List.length_pos_of_mem hx
    rw [List.length_cons]
    omega
theorem pigeon_eq {l m : List (List Nat)} (h : l.Nodup) (hs : ∀ x ∈ l, x ∈ m) (hl : m.length ≤ l.length) : ∀ x ∈ m, x ∈ l := fun x hx => by
  refine Classical.byContradiction fun hn => ?_
  have := pigeon (l := x :: l) (m := m) (List.nodup_cons.mpr ⟨hn, h⟩) fun y hy => by
    rcases List.mem_cons.mp hy with rfl | hy
    · exact hx
    · exact hs y hy
  rw [List.length_cons] at this
  omega
end Rx.Mp
end
section
set_option linter.all false
set_option maxRecDepth 100000
set_option maxHeartbeats 4000000
/-! Pl term: terms, as data. -/
namespace Rx.Tr
open Rx
inductive Tm where
  | nam (s : List Nat)
  | num (i : Int)
  | txt (s : List Nat)
  | key (s : List Nat)
  | non (s : List Nat)
  | sec (s : List Nat)
  | hsh (t : Tm)
  | lck (s : List Nat) (t : Tm)
  | sgn (s : List Nat) (t : Tm)
  | shr (t : Tm) (i j : Int)
  | pai (a b : Tm)
  | sea (a b : Tm)
  deriving DecidableEq
def tag : Tm → List Nat
  | .nam _ => [110, 97, 109, 101]
  | .num _ => [110, 117, 109, 98, 101, 114]
  | .txt _ => [116, 101, 120, 116]
  | .key _ => [107, 101, 121]
  | .non _ => [110, 111, 110, 99, 101]
  | .sec _ => [115, 101, 99, 114, 101, 116]
  | .hsh _ => [104, 97, 115, 104]
  | .lck _ _ => [108, 111, 99, 107]
  | .sgn _ _ => [115, 105, 103, 110]
  | .shr _ _ _ => [115, 104, 97, 114, 101]
  | .pai _ _ => [112, 97, 105, 114]
  | .sea _ _ => [115, 101, 97, 108]
def emb : Tm → PV
  | .nam s => .tup [.str [110, 97, 109, 101], .str s]
  | .num i => .tup [.str [110, 117, 109, 98, 101, 114], .int i]
  | .txt s => .tup [.str [116, 101, 120, 116], .str s]
  | .key s => .tup [.str [107, 101, 121], .str s]
  | .non s => .tup [.str [110, 111, 110, 99, 101], .str s]
  | .sec s => .tup [.str [115, 101, 99, 114, 101, 116], .str s]
  | .hsh t => .tup [.str [104, 97, 115, 104], emb t]
  | .lck s t => .tup [.str [108, 111, 99, 107], .str s, emb t]
  | .sgn s t => .tup [.str [115, 105, 103, 110], .str s, emb t]
  | .shr t i j => .tup [.str [115, 104, 97, 114, 101], emb t, .int i, .int j]
  | .pai a b => .tup [.str [112, 97, 105, 114], emb a, emb b]
  | .sea a b => .tup [.str [115, 101, 97, 108], emb a, emb b]
def dp : Tm → Nat
  | .hsh t => dp t + 1
  | .lck _ t => dp t + 1
  | .sgn _ t => dp t + 1
  | .shr t _ _ => dp t + 1
  | .pai a b => max (dp a) (dp b) + 1
  | .sea a b => max (dp a) (dp b) + 1
  | _ => 1
def ov : Option Tm → PV
  | none => .non
  | some t => emb t
theorem str_eqv (a b : List Nat) : eqv (.str a) (.str b) = decide (a = b) := by rw [eqv, eqN_iff]
theorem emb_tup (t : Tm) : ∃ xs, emb t = .tup xs := by cases t <;> exact ⟨_, rfl⟩
theorem emb_str (t : Tm) (s : List Nat) : eqv (emb t) (.str s) = false ∧ eqv (.str s) (emb t) = false := by
  obtain ⟨xs, e⟩ := emb_tup t
  rw [e]
  simp [eqv]
theorem emb_int (t : Tm) (s : Int) : eqv (emb t) (.int s) = false ∧ eqv (.int s) (emb t) = false := by
  obtain ⟨xs, e⟩ := emb_tup t
  rw [e]
  simp [eqv]
theorem emb_non (t : Tm) : eqv (emb t) .non = false ∧ eqv .non (emb t) = false := by
  obtain ⟨xs, e⟩ := emb_tup t
  rw [e]
  simp [eqv]
theorem eqv_emb : ∀ a b : Tm, eqv (emb a) (emb b) = decide (a = b)
  | .nam _, b => by cases b <;> simp [emb, eqv, eqvL, eqN_iff, emb_str, emb_int]
  | .num _, b => by cases b <;> simp [emb, eqv, eqvL, eqN_iff, emb_str, emb_int]
  | .txt _, b => by cases b <;> simp [emb, eqv, eqvL, eqN_iff, emb_str, emb_int]
  | .key _, b => by cases b <;> simp [emb, eqv, eqvL, eqN_iff, emb_str, emb_int]
  | .non _, b => by cases b <;> simp [emb, eqv, eqvL, eqN_iff, emb_str, emb_int]
  | .sec _, b => by cases b <;> simp [emb, eqv, eqvL, eqN_iff, emb_str, emb_int]
  | .hsh t, b => by cases b <;> simp [emb, eqv, eqvL, eqN_iff, emb_str, emb_int, eqv_emb t]
  | .lck _ t, b => by cases b <;> simp [emb, eqv, eqvL, eqN_iff, emb_str, emb_int, eqv_emb t]
  | .sgn _ t, b => by cases b <;> simp [emb, eqv, eqvL, eqN_iff, emb_str, emb_int, eqv_emb t]
  | .shr t _ _, b => by cases b <;> simp [emb, eqv, eqvL, eqN_iff, emb_str, emb_int, eqv_emb t]
  | .pai t u, b => by cases b <;> simp [emb, eqv, eqvL, eqN_iff, emb_str, emb_int, eqv_emb t, eqv_emb u]
  | .sea t u, b => by cases b <;> simp [emb, eqv, eqvL, eqN_iff, emb_str, emb_int, eqv_emb t, eqv_emb u]
theorem k_tup (n : Nat) (xs : List PV) : eqK (n + 1) (.tup xs) .non = true ∧ eqK (n + 1) .non (.tup xs) = true ∧ (∀ s, eqK (n + 1) (.tup xs) (.str s) = true ∧ eqK (n + 1) (.str s) (.tup xs) = true) ∧ ∀ i, eqK (n + 1) (.tup xs) (.int i) = true ∧ eqK (n + 1) (.int i) (.tup xs) = true := by
  simp [eqK]
theorem k_emb (n : Nat) (t : Tm) : eqK (n + 1) (emb t) .non = true ∧ eqK (n + 1) .non (emb t) = true ∧ (∀ s, eqK (n + 1) (emb t) (.str s) = true ∧ eqK (n + 1) (.str s) (emb t) = true) ∧ ∀ i, eqK (n + 1) (emb t) (.int i) = true ∧ eqK (n + 1) (.int i) (emb t) = true := by
  obtain ⟨xs, e⟩ := emb_tup t
  rw [e]
  exact k_tup n xs
theorem kt (n : Nat) (xs ys : List PV) : eqK (n + 1) (.tup xs) (.tup ys) = eqKL (eqK n) xs ys := rfl
theorem kss (n : Nat) (a b : List Nat) : eqK (n + 1) (.str a) (.str b) = true := rfl
theorem ksi (n : Nat) (a : List Nat) (b : Int) : eqK (n + 1) (.str a) (.int b) = true := rfl
theorem kis (n : Nat) (a : Int) (b : List Nat) : eqK (n + 1) (.int a) (.str b) = true := rfl
theorem kii (n : Nat) (a b : Int) : eqK (n + 1) (.int a) (.int b) = true := rfl
theorem dp_pos : ∀ t : Tm, 0 < dp t := fun t => by cases t <;> simp [dp]
theorem eqK_emb : ∀ (a b : Tm) (n : Nat), dp a ≤ n → eqK (n + 1) (emb a) (emb b) = true
  | a, b, 0, h => by cases a <;> simp [dp] at h
  | .nam _, b, n + 1, h => by cases b <;> simp [emb, kt, eqKL, kss, ksi, kis, kii, k_emb]
  | .num _, b, n + 1, h => by cases b <;> simp [emb, kt, eqKL, kss, ksi, kis, kii, k_emb]
  | .txt _, b, n + 1, h => by cases b <;> simp [emb, kt, eqKL, kss, ksi, kis, kii, k_emb]
  | .key _, b, n + 1, h => by cases b <;> simp [emb, kt, eqKL, kss, ksi, kis, kii, k_emb]
  | .non _, b, n + 1, h => by cases b <;> simp [emb, kt, eqKL, kss, ksi, kis, kii, k_emb]
  | .sec _, b, n + 1, h => by cases b <;> simp [emb, kt, eqKL, kss, ksi, kis, kii, k_emb]
  | .hsh t, b, n + 1, h => by
    have ih := fun b => eqK_emb t b n (by simpa [dp] using h)
    cases n with
    | zero => exact absurd h (by have := dp_pos t; simp [dp]; omega)
    | succ n => cases b <;> simp [emb, kt, eqKL, kss, ksi, kis, kii, k_emb, ih]
  | .lck _ t, b, n + 1, h => by
    have ih := fun b => eqK_emb t b n (by simpa [dp] using h)
    cases n with
    | zero => exact absurd h (by have := dp_pos t; simp [dp]; omega)
    | succ n => cases b <;> simp [emb, kt, eqKL, kss, ksi, kis, kii, k_emb, ih]
  | .sgn _ t, b, n + 1, h => by
    have ih := fun b => eqK_emb t b n (by simpa [dp] using h)
    cases n with
    | zero => exact absurd h (by have := dp_pos t; simp [dp]; omega)
    | succ n => cases b <;> simp [emb, kt, eqKL, kss, ksi, kis, kii, k_emb, ih]
  | .shr t _ _, b, n + 1, h => by
    have ih := fun b => eqK_emb t b n (by simpa [dp] using h)
    cases n with
    | zero => exact absurd h (by have := dp_pos t; simp [dp]; omega)
    | succ n => cases b <;> simp [emb, kt, eqKL, kss, ksi, kis, kii, k_emb, ih]
  | .pai t u, b, n + 1, h => by
    have ih := fun b => eqK_emb t b n (by simp [dp] at h; omega)
    have ih2 := fun b => eqK_emb u b n (by simp [dp] at h; omega)
    cases n with
    | zero => exact absurd h (by have := dp_pos t; simp [dp]; omega)
    | succ n => cases b <;> simp [emb, kt, eqKL, kss, ksi, kis, kii, k_emb, ih, ih2]
  | .sea t u, b, n + 1, h => by
    have ih := fun b => eqK_emb t b n (by simp [dp] at h; omega)
    have ih2 := fun b => eqK_emb u b n (by simp [dp] at h; omega)
    cases n with
    | zero => exact absurd h (by have := dp_pos t; simp [dp]; omega)
    | succ n => cases b <;> simp [emb, kt, eqKL, kss, ksi, kis, kii, k_emb, ih, ih2]
theorem cmp_emb {a b : Tm} (h : dp a ≤ 99) : cmpop .eq (emb a) (emb b) = some (decide (a = b)) := by
  show (if eqK 100 (emb a) (emb b) = true then some (eqv (emb a) (emb b)) else none) = _
  rw [if_pos (eqK_emb a b 99 h), eqv_emb]
theorem cmp_ov {a b : Option Tm} (h : ∀ t, a = some t → dp t ≤ 99) : cmpop .eq (ov a) (ov b) = some (decide (a = b)) := by
  cases a with
  | none =>
    cases b with
    | none => simp [ov, cmpop, eqO, eqK, eqv]
    | some t =>
      show (if eqK 100 .non (emb t) = true then some (eqv .non (emb t)) else none) = _
      rw [if_pos (k_emb 99 t).2.1, (emb_non t).2]; simp
  | some u =>
    cases b with
    | none =>
      show (if eqK 100 (emb u) .non = true then some (eqv (emb u) .non) else none) = _
      rw [if_pos (k_emb 99 u).1, (emb_non u).1]; simp
    | some t =>
      have := cmp_emb (b := t) (h u rfl)
      show cmpop .eq (emb u) (emb t) = _
      rw [this]; simp
theorem cne_ov {a b : Option Tm} (h : ∀ t, a = some t → dp t ≤ 99) : cmpop .ne (ov a) (ov b) = some (!decide (a = b)) := by
  have := cmp_ov (b := b) h
  show (eqO (ov a) (ov b)).map (!·) = _
  have e : eqO (ov a) (ov b) = some (decide (a = b)) := this
  rw [e]; rfl
theorem isn_ov (a : Option Tm) : cmpop .isn (ov a) .non = some a.isNone := by
  cases a with
  | none => rfl
  | some t => obtain ⟨xs, e⟩ := emb_tup t; simp [ov, e, cmpop]
theorem notn_ov (a : Option Tm) : cmpop .notn (ov a) .non = some a.isSome := by
  cases a with
  | none => rfl
  | some t => obtain ⟨xs, e⟩ := emb_tup t; simp [ov, e, cmpop]
theorem cmp_str (a b : List Nat) : cmpop .eq (.str a) (.str b) = some (decide (a = b)) := by
  show (if eqK 100 (.str a) (.str b) = true then some (eqv (.str a) (.str b)) else none) = _
  rw [if_pos (kss 99 a b), str_eqv]
theorem cne_str (a b : List Nat) : cmpop .ne (.str a) (.str b) = some (!decide (a = b)) := by
  have := cmp_str a b
  show (eqO (.str a) (.str b)).map (!·) = _
  have e : eqO (.str a) (.str b) = some (decide (a = b)) := this
  rw [e]; rfl
theorem cmp_int (a b : Int) : cmpop .eq (.int a) (.int b) = some (decide (a = b)) := by simp [cmpop, eqO, eqK, eqv]
theorem cne_int (a b : Int) : cmpop .ne (.int a) (.int b) = some (!decide (a = b)) := by simp [cmpop, eqO, eqK, eqv]
theorem ix0 (t : Tm) (W : Wd) : ixV (.d (emb t)) (.int 0) W = .ok (.d (.str (tag t))) W := by cases t <;> rfl
/-- the first two of a term, against others -/
theorem two_sea {t u : Tm} (h : dp t ≤ 98) : ∃ p q, slice (emb t) none (some 2) = some (.tup [p, q]) ∧ cmpop .eq (.tup [p, q]) (.tup [.str [115, 101, 97, 108], emb u]) = some (match t with | .sea a _ => decide (a = u) | _ => false) := by
  have hk : ∀ (a : Tm), dp a ≤ 98 → eqK 99 (emb a) (emb u) = true := fun a h => eqK_emb a u 98 h
  cases t with
  | sea a b =>
    refine ⟨_, _, rfl, ?_⟩
    have := hk a (by simp [dp] at h; omega)
    show (if eqK 100 (.tup [.str [115, 101, 97, 108], emb a]) (.tup [.str [115, 101, 97, 108], emb u]) = true then some (eqv (.tup [.str [115, 101, 97, 108], emb a]) (.tup [.str [115, 101, 97, 108], emb u])) else none) = _
    rw [kt, eqKL, kss, eqKL, this]
    simp [eqKL, eqv, eqvL, eqN_iff, eqv_emb]
  | hsh a =>
    refine ⟨_, _, rfl, ?_⟩
    have := hk a (by simp [dp] at h; omega)
    show (if eqK 100 (.tup [.str _, emb a]) (.tup [.str _, emb u]) = true then some (eqv (.tup [.str _, emb a]) (.tup [.str _, emb u])) else none) = _
    rw [kt, eqKL, kss, eqKL, this]
    simp [eqKL, eqv, eqvL, eqN_iff]
  | pai a b =>
    refine ⟨_, _, rfl, ?_⟩
    have := hk a (by simp [dp] at h; omega)
    show (if eqK 100 (.tup [.str _, emb a]) (.tup [.str _, emb u]) = true then some (eqv (.tup [.str _, emb a]) (.tup [.str _, emb u])) else none) = _
    rw [kt, eqKL, kss, eqKL, this]
    simp [eqKL, eqv, eqvL, eqN_iff]
  | shr a b c =>
    refine ⟨_, _, rfl, ?_⟩
    have := hk a (by simp [dp] at h; omega)
    show (if eqK 100 (.tup [.str _, emb a]) (.tup [.str _, emb u]) = true then some (eqv (.tup [.str _, emb a]) (.tup [.str _, emb u])) else none) = _
    rw [kt, eqKL, kss, eqKL, this]
    simp [eqKL, eqv, eqvL, eqN_iff]
  | _ =>
    refine ⟨_, _, rfl, ?_⟩
    simp [cmpop, eqO, kt, eqKL, kss, kis, k_emb, eqv, eqvL, eqN_iff]
theorem two_sgn (t : Tm) (s : List Nat) : ∃ p q, slice (emb t) none (some 2) = some (.tup [p, q]) ∧ cmpop .eq (.tup [p, q]) (.tup [.str [115, 105, 103, 110], .str s]) = some (match t with | .sgn a _ => decide (a = s) | _ => false) := by
  cases t <;> exact ⟨_, _, rfl, by simp [cmpop, eqO, kt, eqKL, kss, kis, k_emb, eqv, eqvL, eqN_iff]⟩
theorem cmp_sec {t : Tm} (h : dp t ≤ 99) (s : List Nat) : cmpop .eq (emb t) (.tup [.str [115, 101, 99, 114, 101, 116], .str s]) = some (decide (t = .sec s)) := cmp_emb (b := .sec s) h
/-! ### forms that terms' programs use -/
@[simp] theorem p_keyi (i : Int) : keyable (.int i) = true := id rfl
@[simp] theorem p_mt (re : RE) (cs : List Cse) (ρ : Env) (W : Wd) : mtR re cs ρ W = (dat (re ρ W)).go ρ fun v w => match v with
  | .str s => pickC s cs ρ w
  | _ => .st := id rfl
@[simp] theorem p_pick0 (s : List Nat) (ρ : Env) (W : Wd) : pickC s [] ρ W = .nx ρ W := id rfl
@[simp] theorem p_pickn (s : List Nat) (r : RS) (cs : List Cse) : pickC s ((none, r) :: cs) = r := id rfl
@[simp] theorem p_picks (s : List Nat) (ys : List (List Nat)) (r : RS) (cs : List Cse) (ρ : Env) (W : Wd) : pickC s ((some ys, r) :: cs) ρ W = if hitL s ys then r ρ W else pickC s cs ρ W := id rfl
theorem hit_mem (s : List Nat) : ∀ ys, hitL s ys = decide (s ∈ ys)
  | [] => by simp [hitL]
  | y :: ys => by
    rw [hitL, eqN_iff, hit_mem s ys]
    by_cases h : s = y <;> simp [h]
@[simp] theorem p_unl (is : List Nat) (ra : RE) (ρ : Env) (W : Wd) : unlS is ra ρ W = (dat (ra ρ W)).go ρ fun v w => match v with
  | .lst xs => (match sets ρ is xs with
    | some ρ => .nx ρ w
    | none => .st)
  | _ => .st := id rfl
@[simp] theorem p_neg (ra : RE) (ρ : Env) (W : Wd) : negR ra ρ W = (dat (ra ρ W)).bind fun x w => match x with | .int i => .ok (.d (.int (-i))) w | _ => .st := by
  first | exact id rfl | rfl
@[simp] theorem p_par2 (i j : Nat) (ra rb : RE) (ρ : Env) (W : Wd) : par2R i j false false ra rb ρ W = (ra ρ W).go ρ fun u w => (rb ρ w).go ρ fun v w => .nx (setv (setv ρ i (some u)) j (some v)) w := by
  have h : ∀ v, newO false v = true := fun v => by cases v <;> rfl
  unfold par2R
  simp only [h, if_true]
end Rx.Tr
end
section
set_option linter.all false
set_option maxRecDepth 100000
set_option maxHeartbeats 4000000
/-! Pl draw: how the laws draw numbers. -/
namespace Rx.Dr
def b__law_cell_at : RS := (seqR (ifR (cmpR .lt (varR 1) (ap1R (builtin .len) (varR 0))) (seqR (retR (ixR (varR 0) (varR 1))) nopR) nopR) (seqR (retR (cstR (.int 0))) nopR))
def f__law_cell_at : List Val → Wd → R Val := fixR 2 2 b__law_cell_at
def b__law_draw : RS := (seqR (setR 3 (tupR (consR (cstR (.int 1000003)) (consR (cstR (.int 1000033)) (consR (cstR (.int 1000037)) (consR (cstR (.int 1000039)) (consR (cstR (.int 1000081)) (consR (cstR (.int 1000099)) (consR (cstR (.int 1000117)) (consR (cstR (.int 1000121)) (consR (cstR (.int 1000133)) (consR (cstR (.int 1000151)) (consR (cstR (.int 1000159)) (consR (cstR (.int 1000171)) (consR (cstR (.int 1000183)) (consR (cstR (.int 1000187)) (consR (cstR (.int 1000193)) (consR (cstR (.int 1000199)) nilR)))))))))))))))))) (seqR (retR (binR .mod (binR .mod (ap1R (builtin .int) (binR .add (binR .mul (varR 0) (cstR (.int 48271))) (binR .mul (varR 1) (cstR (.int 69621))))) (ixR (varR 3) (binR .mod (ap1R (builtin .int) (varR 1)) (cstR (.int 16))))) (varR 2))) nopR))
def f__law_draw : List Val → Wd → R Val := fixR 3 4 b__law_draw
def b__law_number : RS := (seqR (setR 3 (cstR (.int 1))) (seqR (forR (rngR (cstR (.int 0)) (binR .mod (ap1R (builtin .int) (varR 1)) (cstR (.int 24)))) (.nm 4) (seqR (setR 3 (binR .mul (varR 3) (cstR (.int 1009)))) nopR)) (seqR (setR 5 (binR .fdiv (binR .sub (varR 0) (binR .pow (cstR (.int 10)) (cstR (.int 18)))) (varR 3))) (seqR (ifR (cmpR .gt (varR 5) (cstR (.int 0))) (seqR (retR (binR .mod (binR .mod (ap1R (builtin .int) (varR 5)) (cstR (.int 1009))) (varR 2))) nopR) nopR) (seqR (setR 6 (binR .mod (ap1R (builtin .int) (varR 0)) (cstR (.int 1000003)))) (seqR (retR (binR .mod (callR f__law_draw (consR (binR .mul (binR .add (varR 6) (binR .mul (cstR (.int 977)) (varR 1))) (binR .add (binR .add (varR 6) (binR .mul (cstR (.int 31)) (varR 1))) (cstR (.int 5)))) (consR (binR .add (binR .mod (ap1R (builtin .int) (varR 1)) (cstR (.int 9))) (cstR (.int 1))) (consR (cstR (.int 999983)) nilR)))) (varR 2))) nopR))))))
def f__law_number : List Val → Wd → R Val := fixR 3 7 b__law_number
def b__law_next : RS := (seqR (wputR 0 (cstR (.int 2)) (binR .add (ixR (varR 0) (cstR (.int 2))) (cstR (.int 1)))) (seqR (setR 2 (binR .fdiv (ixR (varR 0) (cstR (.int 2))) (cstR (.int 12)))) (seqR (setR 3 (binR .add (callR f__law_cell_at (consR (ixR (varR 0) (cstR (.int 0))) (consR (binR .add (ixR (varR 0) (cstR (.int 1))) (varR 2)) nilR))) (binR .mul (cstR (.int 31)) (varR 2)))) (seqR (retR (callR f__law_number (consR (varR 3) (consR (binR .add (binR .mod (ap1R (builtin .int) (ixR (varR 0) (cstR (.int 2)))) (cstR (.int 12))) (cstR (.int 1))) (consR (varR 1) nilR))))) nopR))))
def f__law_next : List Val → Wd → R Val := fixR 2 4 b__law_next
def b__law_pick : RS := (seqR (retR (ixR (varR 1) (callR f__law_next (consR (varR 0) (consR (ap1R (builtin .len) (varR 1)) nilR))))) nopR)
def f__law_pick : List Val → Wd → R Val := fixR 2 2 b__law_pick
/-- the world of a law: the script's list, 0, the draws' number -/
def wd (ns : List Int) (k : Nat) : Wd := [.ls [.d (.lst (ns.map .int)), .d (.int 0), .d (.int (k : Int))]]
theorem nth_ints : ∀ (ns : List Int) (k : Nat), k < ns.length → ∃ c, nthO (ns.map PV.int) k = some (.int c)
  | [], k, h => by simp at h
  | n :: ns, 0, _ => ⟨n, rfl⟩
  | n :: ns, k + 1, h => nth_ints ns k (by simpa using h)
theorem place_of {k : Int} {n : Nat} (h0 : 0 ≤ k) (h : k < n) : place k n = some k.toNat := by
  unfold place
  rw [if_pos h0, if_pos h]
theorem cell_at (ns : List Int) (k : Int) (h0 : 0 ≤ k) (W : Wd) : ∃ c : Int, f__law_cell_at [.d (.lst (ns.map .int)), .d (.int k)] W = .ok (.d (.int c)) W := by
  by_cases h : k < ns.length
  · obtain ⟨c, hc⟩ := nth_ints ns k.toNat (by omega)
    refine ⟨c, ?_⟩
    have hp : place k ns.length = some k.toNat := place_of h0 h
    simp [f__law_cell_at, b__law_cell_at, cmpop, ltS, builtin, ixV, index, h, hp, hc]
  · refine ⟨0, ?_⟩
    simp [f__law_cell_at, b__law_cell_at, cmpop, ltS, builtin, h]
def primes : List Int := [1000003, 1000033, 1000037, 1000039, 1000081, 1000099, 1000117, 1000121, 1000133, 1000151, 1000159, 1000171, 1000183, 1000187, 1000193, 1000199]
theorem primes_at : ∀ n : Nat, n < 16 → ∃ p, nthO (primes.map PV.int) n = some (.int p) ∧ 0 < p := by
  intro n h
  match n, h with
  | 0, _ => exact ⟨_, rfl, by decide⟩
  | 1, _ => exact ⟨_, rfl, by decide⟩
  | 2, _ => exact ⟨_, rfl, by decide⟩
  | 3, _ => exact ⟨_, rfl, by decide⟩
  | 4, _ => exact ⟨_, rfl, by decide⟩
  | 5, _ => exact ⟨_, rfl, by decide⟩
  | 6, _ => exact ⟨_, rfl, by decide⟩
  | 7, _ => exact ⟨_, rfl, by decide⟩
  | 8, _ => exact ⟨_, rfl, by decide⟩
  | 9, _ => exact ⟨_, rfl, by decide⟩
  | 10, _ => exact ⟨_, rfl, by decide⟩
  | 11, _ => exact ⟨_, rfl, by decide⟩
  | 12, _ => exact ⟨_, rfl, by decide⟩
  | 13, _ => exact ⟨_, rfl, by decide⟩
  | 14, _ => exact ⟨_, rfl, by decide⟩
  | 15, _ => exact ⟨_, rfl, by decide⟩
  | n + 16, h => omega
theorem draw_spec (c k b : Int) (hb : 0 < b) (W : Wd) : ∃ r : Int, 0 ≤ r ∧ r < b ∧ f__law_draw [.d (.int c), .d (.int k), .d (.int b)] W = .ok (.d (.int r)) W := by
  have hm : 0 ≤ k % 16 := Int.emod_nonneg _ (by decide)
  have hm2 : k % 16 < 16 := Int.emod_lt_of_pos _ (by decide)
  obtain ⟨p, hp, hp0⟩ := primes_at (k % 16).toNat (by omega)
  have hpl : place (k % 16) 16 = some (k % 16).toNat := place_of hm (by exact hm2)
  refine ⟨(c * 48271 + k * 69621) % p % b, Int.emod_nonneg _ (by omega), Int.emod_lt_of_pos _ hb, ?_⟩
  have hp : nthO [PV.int 1000003, .int 1000033, .int 1000037, .int 1000039, .int 1000081, .int 1000099, .int 1000117, .int 1000121, .int 1000133, .int 1000151, .int 1000159, .int 1000171, .int 1000183, .int 1000187, .int 1000193, .int 1000199] (k % 16).toNat = some (.int p) := hp
  have hb1 : ∀ i : Int, binop .mul (.int i) (.int 48271) = some (.int (i * 48271)) := fun i => by simp [binop, big64]
  have hb2 : ∀ i : Int, binop .mul (.int i) (.int 69621) = some (.int (i * 69621)) := fun i => by simp [binop, big64]
  have hb3 : ∀ i : Int, binop .mod (.int i) (.int 16) = some (.int (i % 16)) := fun i => by simp [binop]
  have hb4 : ∀ i : Int, binop .mod (.int i) (.int p) = some (.int (i % p)) := fun i => by simp [binop, hp0]
  have hb5 : ∀ i : Int, binop .mod (.int i) (.int b) = some (.int (i % b)) := fun i => by simp [binop, hb]
  have hb6 : ∀ i j : Int, binop .add (.int i) (.int j) = some (.int (i + j)) := fun i j => rfl
  simp [f__law_draw, b__law_draw, hb1, hb2, hb3, hb4, hb5, hb6, builtin, ixV, index, hpl, hp]
theorem mul_l (i j : Int) (h : -big64 < i) (h2 : i < big64) : binop .mul (.int i) (.int j) = some (.int (i * j)) := by
  unfold binop
  simp only
  rw [if_pos (.inl ⟨h, h2⟩)]
theorem mul_r (i j : Int) (h : -big64 < j) (h2 : j < big64) : binop .mul (.int i) (.int j) = some (.int (i * j)) := by
  unfold binop
  simp only
  rw [if_pos (.inr ⟨h, h2⟩)]
theorem fdiv_of (i j : Int) (n : Nat) (h0 : 0 < j) (h : j ≤ ((2 ^ n : Nat) : Int)) (hn : n < 9000) : binop .fdiv (.int i) (.int j) = some (.int (i / j)) := by
  have hs : j.natAbs < 2 ^ 9000 := by
    have h1 : j.natAbs ≤ 2 ^ n := by omega
    exact Nat.lt_of_le_of_lt h1 (Nat.pow_lt_pow_right (by decide) hn)
  unfold binop
  simp only
  rw [if_pos ⟨h0, hs⟩]
theorem pow18 : binop .pow (.int 10) (.int 18) = some (.int 1000000000000000000) := by
  unfold binop
  simp only
  rw [if_pos ⟨by decide, by decide, by decide⟩]
  rfl
theorem sc_le (k : Nat) (hk : k < 24) : (1009 : Int) ^ k ≤ ((2 ^ 240 : Nat) : Int) := by
  have e : (1009 : Int) ^ k = ((1009 ^ k : Nat) : Int) := by simp
  rw [e]
  refine Int.ofNat_le.mpr ?_
  have h1 : 1009 ^ k ≤ (2 ^ 10) ^ k := Nat.pow_le_pow_left (by decide) k
  rw [← Nat.pow_mul] at h1
  exact Nat.le_trans h1 (Nat.pow_le_pow_right (by decide) (by omega))
theorem number_spec (c : Int) (k : Nat) (hk : k < 24) (b : Int) (hb : 0 < b) (W : Wd) : ∃ r : Int, 0 ≤ r ∧ r < b ∧ f__law_number [.d (.int c), .d (.int (k : Int)), .d (.int b)] W = .ok (.d (.int r)) W := by
  have hkm : (k : Int) % 24 = k := Int.emod_eq_of_lt (by omega) (by omega)
  have hb6 : ∀ i j : Int, binop .add (.int i) (.int j) = some (.int (i + j)) := fun i j => rfl
  have hb7 : ∀ i j : Int, binop .sub (.int i) (.int j) = some (.int (i - j)) := fun i j => rfl
  have hm : ∀ i m : Int, 0 < m → binop .mod (.int i) (.int m) = some (.int (i % m)) := fun i m h => by simp [binop, h]
  have hpow := pow18
  -- the loop
  have loop : ∀ (n : Nat) (s : Int) (i : Int) (x4 : Option Val), ∃ x4', forL (stepF (.nm 4) (seqR (setR 3 (binR .mul (varR 3) (cstR (.int 1009)))) nopR)) (rangeL i n) [some (.d (.int c)), some (.d (.int k)), some (.d (.int b)), some (.d (.int s)), x4, none, none] W = .nx [some (.d (.int c)), some (.d (.int k)), some (.d (.int b)), some (.d (.int (s * 1009 ^ n))), x4', none, none] W := by
    intro n
    induction n with
    | zero => intro s i x4; exact ⟨x4, by simp [rangeL, forL]⟩
    | succ n ih =>
      intro s i x4
      obtain ⟨x4', h⟩ := ih (s * 1009) (i + 1) (some (.d (.int i)))
      refine ⟨x4', ?_⟩
      rw [rangeL, forL_nx (ρ' := [some (.d (.int c)), some (.d (.int k)), some (.d (.int b)), some (.d (.int (s * 1009))), some (.d (.int i)), none, none]) (W' := W) (by simp [mul_r s 1009 (by decide) (by decide)])]
      rw [h, Int.pow_succ, Int.mul_assoc, Int.mul_comm 1009]
  obtain ⟨x4', hl⟩ := loop k 1 0 none
  have hs0 : (0 : Int) < 1009 ^ k := Int.pow_pos (by decide)
  have hdv : ∀ i : Int, binop .fdiv (.int i) (.int (1009 ^ k)) = some (.int (i / 1009 ^ k)) := fun i => fdiv_of i _ 240 hs0 (sc_le k hk) (by decide)
  have hr : (-1000000000 : Int) < (k : Int) ∧ (k : Int) < 1000000000 := by omega
  rw [Int.one_mul] at hl
  by_cases hg : 0 < (c - 1000000000000000000) / 1009 ^ k
  · refine ⟨(c - 1000000000000000000) / 1009 ^ k % 1009 % b, Int.emod_nonneg _ (by omega), Int.emod_lt_of_pos _ hb, ?_⟩
    simp [f__law_number, b__law_number, builtin, hm _ 24 (by decide), hkm, rngO_0 k (by omega), hl, hpow, hb7, hdv, cmpop, ltS, hg, hm _ 1009 (by decide), hm _ b hb]
  · have h1 : 0 ≤ c % 1000003 := Int.emod_nonneg _ (by decide)
    have h2 : c % 1000003 < 1000003 := Int.emod_lt_of_pos _ (by decide)
    obtain ⟨r, r1, r2, r3⟩ := draw_spec ((c % 1000003 + 977 * k) * (c % 1000003 + 31 * k + 5)) ((k : Int) % 9 + 1) 999983 (by decide) W
    have m1 := mul_l 977 (k : Int) (by decide) (by decide)
    have m2 := mul_l 31 (k : Int) (by decide) (by decide)
    have m3 := mul_l (c % 1000003 + 977 * k) (c % 1000003 + 31 * k + 5) (by unfold big64; omega) (by unfold big64; omega)
    refine ⟨r % b, Int.emod_nonneg _ (by omega), Int.emod_lt_of_pos _ hb, ?_⟩
    simp [f__law_number, b__law_number, builtin, hm _ 24 (by decide), hkm, rngO_0 k (by omega), hl, hpow, hb7, hb6, hdv, cmpop, ltS, hg, hm _ 1000003 (by decide), hm _ 9 (by decide), hm _ b hb, m1, m2, m3, r3]
theorem next_spec (ns : List Int) (k : Nat) (b : Int) (hb : 0 < b) : ∃ r : Int, 0 ≤ r ∧ r < b ∧ f__law_next [.o 0, .d (.int b)] (wd ns k) = .ok (.d (.int r)) (wd ns (k + 1)) := by
  have hb6 : ∀ i j : Int, binop .add (.int i) (.int j) = some (.int (i + j)) := fun i j => rfl
  have hm : ∀ i m : Int, 0 < m → binop .mod (.int i) (.int m) = some (.int (i % m)) := fun i m h => by simp [binop, h]
  have hdv : ∀ i : Int, binop .fdiv (.int i) (.int 12) = some (.int (i / 12)) := fun i => fdiv_of i 12 4 (by decide) (by decide) (by decide)
  have m2 : ∀ i, binop .mul (.int 31) (.int i) = some (.int (31 * i)) := fun i => mul_l 31 i (by decide) (by decide)
  obtain ⟨c, hc⟩ := cell_at ns (0 + ((k : Int) + 1) / 12) (by omega) (wd ns (k + 1))
  have e12 : ((k : Int) + 1) % 12 + 1 = (((k + 1) % 12 + 1 : Nat) : Int) := by omega
  obtain ⟨r, r1, r2, r3⟩ := number_spec (c + 31 * (((k : Int) + 1) / 12)) ((k + 1) % 12 + 1) (by omega) b hb (wd ns (k + 1))
  rw [← e12] at r3
  refine ⟨r, r1, r2, ?_⟩
  have e0 : ixV (.o 0) (.int 2) (wd ns k) = .ok (.d (.int (k : Int))) (wd ns k) := rfl
  have e1 : ixV (.o 0) (.int 2) (wd ns (k + 1)) = .ok (.d (.int ((k : Int) + 1))) (wd ns (k + 1)) := rfl
  have e2 : ixV (.o 0) (.int 0) (wd ns (k + 1)) = .ok (.d (.lst (ns.map .int))) (wd ns (k + 1)) := rfl
  have e3 : ixV (.o 0) (.int 1) (wd ns (k + 1)) = .ok (.d (.int 0)) (wd ns (k + 1)) := rfl
  have e4 : wputO 0 (.int 2) (.d (.int ((k : Int) + 1))) (wd ns k) = some (wd ns (k + 1)) := rfl
  rw [Int.zero_add] at hc
  simp [f__law_next, b__law_next, wputR, hb6, e0, e1, e2, e3, e4, hdv, hm _ 12 (by decide), m2, hc, builtin, r3]
theorem pick_lst (ns : List Int) (k : Nat) (xs : List PV) (hx : xs ≠ []) : ∃ x ∈ xs, f__law_pick [.o 0, .d (.lst xs)] (wd ns k) = .ok (.d x) (wd ns (k + 1)) := by
  have hl : 0 < xs.length := by cases xs with | nil => exact absurd rfl hx | cons => simp
  obtain ⟨r, r1, r2, r3⟩ := next_spec ns k xs.length (by omega)
  have hp : place r xs.length = some r.toNat := place_of r1 r2
  have hn : ∀ (l : List PV) (n : Nat), n < l.length → ∃ x ∈ l, nthO l n = some x := fun l => by
    induction l with
    | nil => intro n h; simp at h
    | cons a l ih =>
      intro n h
      cases n with
      | zero => exact ⟨a, List.mem_cons_self, rfl⟩
      | succ n =>
        obtain ⟨x, h1, h2⟩ := ih n (by simpa using h)
        exact ⟨x, List.mem_cons_of_mem _ h1, h2⟩
  obtain ⟨x, h1, h2⟩ := hn xs r.toNat (by omega)
  refine ⟨x, h1, ?_⟩
  simp [f__law_pick, b__law_pick, builtin, r3, ixV, index, hp, h2]
theorem pick_str (ns : List Int) (k : Nat) (xs : List Nat) (hx : xs ≠ []) : ∃ x ∈ xs, f__law_pick [.o 0, .d (.str xs)] (wd ns k) = .ok (.d (.str [x])) (wd ns (k + 1)) := by
  have hl : 0 < xs.length := by cases xs with | nil => exact absurd rfl hx | cons => simp
  obtain ⟨r, r1, r2, r3⟩ := next_spec ns k xs.length (by omega)
  have hp : place r xs.length = some r.toNat := place_of r1 r2
  have hn : ∀ (l : List Nat) (n : Nat), n < l.length → ∃ x ∈ l, nthO l n = some x := fun l => by
    induction l with
    | nil => intro n h; simp at h
    | cons a l ih =>
      intro n h
      cases n with
      | zero => exact ⟨a, List.mem_cons_self, rfl⟩
      | succ n =>
        obtain ⟨x, h1, h2⟩ := ih n (by simpa using h)
        exact ⟨x, List.mem_cons_of_mem _ h1, h2⟩
  obtain ⟨x, h1, h2⟩ := hn xs r.toNat (by omega)
  refine ⟨x, h1, ?_⟩
  simp [f__law_pick, b__law_pick, builtin, r3, ixV, index, hp, h2]
end Rx.Dr
end
section
set_option linter.all false
set_option maxRecDepth 100000
set_option maxHeartbeats 4000000
/-! k04: recipes, as data; what they make. -/
namespace K04
open Rx Rx.Tr
inductive Rc where
  | at' (i : Nat)
  | pub (t : Tm)
  | jo1 (a : Rc)
  | jo2 (a b : Rc)
  | lck (s : List Nat) (a : Rc)
  | bye (s : List Nat) (a : Rc)
  | shr (a : Rc) (i j : Int)
  | pai (a b : Rc)
  | sea (a b : Rc)
  | sgn (a b : Rc)
  | ope (a b : Rc)
  | unl (a b : Rc)
  | hsh (a : Rc)
  | fst (a : Rc)
  | snd (a : Rc)
def embR : Rc → PV
  | .at' i => .tup [.str [97, 116], .int (i : Int)]
  | .pub t => emb t
  | .jo1 a => .tup [.str [106, 111, 105, 110], .tup [embR a]]
  | .jo2 a b => .tup [.str [106, 111, 105, 110], .tup [embR a, embR b]]
  | .lck s a => .tup [.str [108, 111, 99, 107], .str s, embR a]
  | .bye s a => .tup [.str [98, 121], .str s, embR a]
  | .shr a i j => .tup [.str [115, 104, 97, 114, 101], embR a, .int i, .int j]
  | .pai a b => .tup [.str [112, 97, 105, 114], embR a, embR b]
  | .sea a b => .tup [.str [115, 101, 97, 108], embR a, embR b]
  | .sgn a b => .tup [.str [115, 105, 103, 110], embR a, embR b]
  | .ope a b => .tup [.str [111, 112, 101, 110], embR a, embR b]
  | .unl a b => .tup [.str [117, 110, 108, 111, 99, 107], embR a, embR b]
  | .hsh a => .tup [.str [104, 97, 115, 104], embR a]
  | .fst a => .tup [.str [102, 105, 114, 115, 116], embR a]
  | .snd a => .tup [.str [115, 101, 99, 111, 110, 100], embR a]
def isPub : Tm → Bool
  | .nam _ => true
  | .num _ => true
  | .txt _ => true
  | _ => false
def dR : Rc → Nat
  | .at' _ => 1
  | .pub _ => 1
  | .jo1 a => dR a + 1
  | .jo2 a b => max (dR a) (dR b) + 1
  | .lck _ a => dR a + 1
  | .bye _ a => dR a + 1
  | .shr a _ _ => dR a + 1
  | .pai a b => max (dR a) (dR b) + 1
  | .sea a b => max (dR a) (dR b) + 1
  | .sgn a b => max (dR a) (dR b) + 1
  | .ope a b => max (dR a) (dR b) + 1
  | .unl a b => max (dR a) (dR b) + 1
  | .hsh a => dR a + 1
  | .fst a => dR a + 1
  | .snd a => dR a + 1
/-- a recipe that fits a frame of so many -/
def fitR (m : Nat) : Rc → Prop
  | .at' i => i < m
  | .pub t => isPub t = true
  | .jo1 a => fitR m a
  | .jo2 a b => fitR m a ∧ fitR m b
  | .lck _ a => fitR m a
  | .bye _ a => fitR m a
  | .shr a _ _ => fitR m a
  | .pai a b => fitR m a ∧ fitR m b
  | .sea a b => fitR m a ∧ fitR m b
  | .sgn a b => fitR m a ∧ fitR m b
  | .ope a b => fitR m a ∧ fitR m b
  | .unl a b => fitR m a ∧ fitR m b
  | .hsh a => fitR m a
  | .fst a => fitR m a
  | .snd a => fitR m a
def join1 : Tm → Option Tm
  | .shr t _ j => if j = 1 then some t else none
  | _ => none
def join2 : Tm → Tm → Option Tm
  | .shr t i j, .shr u k l => if t = u ∧ j = l ∧ i ≠ k ∧ j = 2 then some t else none
  | _, _ => none
def byeT (s : List Nat) : Tm → Option Tm
  | .sgn a t => if a = s then some t else none
  | _ => none
def sgnT : Tm → Tm → Option Tm
  | .sec s, u => some (.sgn s u)
  | _, _ => none
def opeT : Tm → Tm → Option Tm
  | .sea a b, u => if a = u then some b else none
  | _, _ => none
def unlT : Tm → Tm → Option Tm
  | .lck s t, u => if u = .sec s then some t else none
  | _, _ => none
def fstT : Tm → Option Tm
  | .pai a _ => some a
  | _ => none
def sndT : Tm → Option Tm
  | .pai _ b => some b
  | _ => none
def o2 (f : Tm → Tm → Option Tm) (a b : Option Tm) : Option Tm := match a, b with
  | some x, some y => f x y
  | _, _ => none
def rn (ts : List Tm) : Rc → Option Tm
  | .at' i => ts[i]?
  | .pub t => some t
  | .jo1 a => (rn ts a).bind join1
  | .jo2 a b => o2 join2 (rn ts a) (rn ts b)
  | .lck s a => (rn ts a).map (.lck s)
  | .bye s a => (rn ts a).bind (byeT s)
  | .shr a i j => (rn ts a).map fun t => .shr t i j
  | .pai a b => o2 (fun x y => some (.pai x y)) (rn ts a) (rn ts b)
  | .sea a b => o2 (fun x y => some (.sea x y)) (rn ts a) (rn ts b)
  | .sgn a b => o2 sgnT (rn ts a) (rn ts b)
  | .ope a b => o2 opeT (rn ts a) (rn ts b)
  | .unl a b => o2 unlT (rn ts a) (rn ts b)
  | .hsh a => (rn ts a).map .hsh
  | .fst a => (rn ts a).bind fstT
  | .snd a => (rn ts a).bind sndT
def tagR : Rc → List Nat
  | .at' _ => [97, 116]
  | .pub t => tag t
  | .jo1 _ => [106, 111, 105, 110]
  | .jo2 _ _ => [106, 111, 105, 110]
  | .lck _ _ => [108, 111, 99, 107]
  | .bye _ _ => [98, 121]
  | .shr _ _ _ => [115, 104, 97, 114, 101]
  | .pai _ _ => [112, 97, 105, 114]
  | .sea _ _ => [115, 101, 97, 108]
  | .sgn _ _ => [115, 105, 103, 110]
  | .ope _ _ => [111, 112, 101, 110]
  | .unl _ _ => [117, 110, 108, 111, 99, 107]
  | .hsh _ => [104, 97, 115, 104]
  | .fst _ => [102, 105, 114, 115, 116]
  | .snd _ => [115, 101, 99, 111, 110, 100]
theorem ixR0 (r : Rc) (W : Wd) : ixV (.d (embR r)) (.int 0) W = .ok (.d (.str (tagR r))) W := by
  cases r <;> first | rfl | exact ix0 _ _
/-- how deep what is made may be -/
theorem dp_o2 {f : Tm → Tm → Option Tm} {x y : Option Tm} {t : Tm} {m : Nat} (h : o2 f x y = some t) (hx : ∀ t, x = some t → dp t ≤ m) (hy : ∀ t, y = some t → dp t ≤ m) (hf : ∀ a b c, dp a ≤ m → dp b ≤ m → f a b = some c → dp c ≤ m + 1) : dp t ≤ m + 1 := by
  unfold o2 at h
  cases x with
  | none => cases h
  | some a =>
    cases y with
    | none => cases h
    | some b => exact hf a b t (hx a rfl) (hy b rfl) h
theorem dp_rn {ts : List Tm} {D : Nat} (hD : ∀ t ∈ ts, dp t ≤ D) (h1 : 1 ≤ D) : ∀ (r : Rc) (t : Tm), fitR ts.length r → rn ts r = some t → dp t ≤ D + dR r
  | .at' i, t, _, h => by
    have := hD t (List.mem_of_getElem? h)
    simp [dR]; omega
  | .pub p, t, hf, h => by
    have hf : isPub p = true := hf
    have h : some p = some t := h
    have e := Option.some.inj h
    rw [← e]
    cases p <;> simp [isPub] at hf <;> simp [dR, dp]
  | .jo1 a, t, hf, h => by
    obtain ⟨u, e1, e2⟩ := Option.bind_eq_some_iff.mp (show (rn ts a).bind join1 = some t from h)
    have := dp_rn hD h1 a u hf e1
    cases u <;> simp [join1] at e2
    obtain ⟨_, rfl⟩ := e2
    simp [dp] at this
    simp [dR]; omega
  | .jo2 a b, t, hf, h => by
    have ha := fun t => dp_rn hD h1 a t hf.1
    have hb := fun t => dp_rn hD h1 b t hf.2
    have := dp_o2 (m := D + max (dR a) (dR b)) (show o2 join2 (rn ts a) (rn ts b) = some t from h) (fun t e => by have := ha t e; omega) (fun t e => by have := hb t e; omega) fun a b c q1 q2 q3 => by
      cases a <;> cases b <;> simp [join2] at q3
      obtain ⟨_, rfl⟩ := q3
      simp [dp] at q1; omega
    simp [dR]; omega
  | .lck s a, t, hf, h => by
    obtain ⟨u, e1, rfl⟩ := Option.map_eq_some_iff.mp (show (rn ts a).map (.lck s) = some t from h)
    have := dp_rn hD h1 a u hf e1
    simp [dR, dp]; omega
  | .bye s a, t, hf, h => by
    obtain ⟨u, e1, e2⟩ := Option.bind_eq_some_iff.mp (show (rn ts a).bind (byeT s) = some t from h)
    have := dp_rn hD h1 a u hf e1
    cases u <;> simp [byeT] at e2
    obtain ⟨_, rfl⟩ := e2
    simp [dp] at this
    simp [dR]; omega
  | .shr a i j, t, hf, h => by
    obtain ⟨u, e1, rfl⟩ := Option.map_eq_some_iff.mp (show (rn ts a).map (fun t => .shr t i j) = some t from h)
    have := dp_rn hD h1 a u hf e1
    simp [dR, dp]; omega
  | .pai a b, t, hf, h => by
    have ha := fun t => dp_rn hD h1 a t hf.1
    have hb := fun t => dp_rn hD h1 b t hf.2
    have := dp_o2 (m := D + max (dR a) (dR b)) (show o2 (fun x y => some (.pai x y)) (rn ts a) (rn ts b) = some t from h) (fun t e => by have := ha t e; omega) (fun t e => by have := hb t e; omega) fun a b c q1 q2 q3 => by
      cases q3
      simp [dp]; omega
    simp [dR]; omega
  | .sea a b, t, hf, h => by
    have ha := fun t => dp_rn hD h1 a t hf.1
    have hb := fun t => dp_rn hD h1 b t hf.2
    have := dp_o2 (m := D + max (dR a) (dR b)) (show o2 (fun x y => some (.sea x y)) (rn ts a) (rn ts b) = some t from h) (fun t e => by have := ha t e; omega) (fun t e => by have := hb t e; omega) fun a b c q1 q2 q3 => by
      cases q3
      simp [dp]; omega
    simp [dR]; omega
  | .sgn a b, t, hf, h => by
    have ha := fun t => dp_rn hD h1 a t hf.1
    have hb := fun t => dp_rn hD h1 b t hf.2
    have := dp_o2 (m := D + max (dR a) (dR b)) (show o2 sgnT (rn ts a) (rn ts b) = some t from h) (fun t e => by have := ha t e; omega) (fun t e => by have := hb t e; omega) fun a b c q1 q2 q3 => by
      cases a <;> simp [sgnT] at q3
      cases q3
      simp [dp]; omega
    simp [dR]; omega
  | .ope a b, t, hf, h => by
    have ha := fun t => dp_rn hD h1 a t hf.1
    have hb := fun t => dp_rn hD h1 b t hf.2
    have := dp_o2 (m := D + max (dR a) (dR b)) (show o2 opeT (rn ts a) (rn ts b) = some t from h) (fun t e => by have := ha t e; omega) (fun t e => by have := hb t e; omega) fun a b c q1 q2 q3 => by
      cases a <;> simp [opeT] at q3
      obtain ⟨_, rfl⟩ := q3
      simp [dp] at q1; omega
    simp [dR]; omega
  | .unl a b, t, hf, h => by
    have ha := fun t => dp_rn hD h1 a t hf.1
    have hb := fun t => dp_rn hD h1 b t hf.2
    have := dp_o2 (m := D + max (dR a) (dR b)) (show o2 unlT (rn ts a) (rn ts b) = some t from h) (fun t e => by have := ha t e; omega) (fun t e => by have := hb t e; omega) fun a b c q1 q2 q3 => by
      cases a <;> simp [unlT] at q3
      obtain ⟨_, rfl⟩ := q3
      simp [dp] at q1; omega
    simp [dR]; omega
  | .hsh a, t, hf, h => by
    obtain ⟨u, e1, rfl⟩ := Option.map_eq_some_iff.mp (show (rn ts a).map .hsh = some t from h)
    have := dp_rn hD h1 a u hf e1
    simp [dR, dp]; omega
  | .fst a, t, hf, h => by
    obtain ⟨u, e1, e2⟩ := Option.bind_eq_some_iff.mp (show (rn ts a).bind fstT = some t from h)
    have := dp_rn hD h1 a u hf e1
    cases u <;> simp [fstT] at e2
    cases e2
    simp [dp] at this
    simp [dR]; omega
  | .snd a, t, hf, h => by
    obtain ⟨u, e1, e2⟩ := Option.bind_eq_some_iff.mp (show (rn ts a).bind sndT = some t from h)
    have := dp_rn hD h1 a u hf e1
    cases u <;> simp [sndT] at e2
    cases e2
    simp [dp] at this
    simp [dR]; omega
/-! ### join -/
theorem in_ov1 (a : Option Tm) : cmpop .inn .non (.lst [ov a]) = some a.isNone := by
  cases a with
  | none => simp [ov, cmpop, inO, memK, memL, eqK, eqv]
  | some t => simp [ov, cmpop, inO, memK, memL, k_emb, emb_non]
theorem in_ov2 (a b : Option Tm) : cmpop .inn .non (.lst [ov a, ov b]) = some (a.isNone || b.isNone) := by
  cases a <;> cases b <;> simp [ov, cmpop, inO, memK, memL, k_emb, emb_non, eqv, show eqK 100 .non .non = true from rfl]
theorem join1_ok {t : Tm} (h : dp t ≤ 90) (W : Wd) : f_join_of [.d (.lst [emb t])] W = .ok (.d (ov (join1 t))) W := by
  have n1 : cmpop .inn .non (.lst [emb t]) = some false := in_ov1 (some t)
  have i0 := ix0 t W
  have ls : ∀ x : PV, ixV (.d (.lst [x])) (.int 0) W = .ok (.d x) W := fun x => rfl
  have i1 : items (.lst [emb t]) = some [emb t] := rfl
  have aT : builtin .all (.lst [.bl true]) = some (.bl true) := rfl
  have aF : builtin .all (.lst [.bl false]) = some (.bl false) := rfl
  have ln : ∀ x : PV, builtin .len (.lst [x]) = some (.int 1) := fun x => rfl
  cases t with
  | shr t i j =>
    have e1 : ixV (.d (emb (.shr t i j))) (.int 1) W = .ok (.d (emb t)) W := rfl
    have e2 : ixV (.d (emb (.shr t i j))) (.int 2) W = .ok (.d (.int i)) W := rfl
    have e3 : ixV (.d (emb (.shr t i j))) (.int 3) W = .ok (.d (.int j)) W := rfl
    have c1 : cmpop .eq (emb t) (emb t) = some true := by rw [cmp_emb (by simp [dp] at h; omega)]; simp
    have c2 := cmp_int j j
    have c3 : finD [.tup [.int i, .bl true]] = some (.dct [(.int i, .bl true)]) := rfl
    have l1 : builtin .len (.dct [(.int i, .bl true)]) = some (.int 1) := rfl
    have c4 : cmpop .ne (.int 1) (.int j) = some (!decide (1 = j)) := cne_int 1 j
    generalize emb (.shr t i j) = S at *
    by_cases hj : j = 1
    · subst hj
      simp [f_join_of, b_join_of, n1, i0, tag, cmp_str, loopL, fitF_ok, i1, aT, ls, e1, e2, e3, c1, c2, c3, l1, ln, c4, join1, ov, cne_int]
    · have hj' : ¬ 1 = j := fun e => hj e.symm
      simp [f_join_of, b_join_of, n1, i0, tag, cmp_str, loopL, fitF_ok, i1, aT, ls, e1, e2, e3, c1, c2, c3, l1, ln, c4, join1, ov, cne_int, hj, hj']
  | _ => simp [f_join_of, b_join_of, n1, i0, tag, cmp_str, loopL, fitF_ok, i1, aF, join1, ov]
end K04
end
section
set_option linter.all false
set_option maxRecDepth 100000
set_option maxHeartbeats 4000000
/-! k04: what a word makes of terms. -/
namespace K04
open Rx Rx.Tr
theorem ixl0 (x y : PV) (W : Wd) : ixV (.d (.lst [x, y])) (.int 0) W = .ok (.d x) W := rfl
theorem all2 (a b : Bool) : builtin .all (.lst [.bl a, .bl b]) = some (.bl (a && b)) := by cases a <;> cases b <;> rfl
theorem any2 (a b : Bool) : builtin .any (.lst [.bl a, .bl b]) = some (.bl (a || b)) := by cases a <;> cases b <;> rfl
theorem all1 (a : Bool) : builtin .all (.lst [.bl a]) = some (.bl a) := by cases a <;> rfl
theorem any1 (a : Bool) : builtin .any (.lst [.bl a]) = some (.bl a) := by cases a <;> rfl
theorem join2_ok {t u : Tm} (h : dp t ≤ 90) (h2 : dp u ≤ 90) (W : Wd) : f_join_of [.d (.lst [emb t, emb u])] W = .ok (.d (ov (join2 t u))) W := by
  have n1 : cmpop .inn .non (.lst [emb t, emb u]) = some false := in_ov2 (some t) (some u)
  have i0 := ix0 t W
  have i0' := ix0 u W
  have i1 : items (.lst [emb t, emb u]) = some [emb t, emb u] := rfl
  have ln : ∀ x y : PV, builtin .len (.lst [x, y]) = some (.int 2) := fun x y => rfl
  cases t with
  | shr t i j =>
    cases u with
    | shr u k l =>
      have e1 : ixV (.d (emb (.shr t i j))) (.int 1) W = .ok (.d (emb t)) W := rfl
      have e2 : ixV (.d (emb (.shr t i j))) (.int 2) W = .ok (.d (.int i)) W := rfl
      have e3 : ixV (.d (emb (.shr t i j))) (.int 3) W = .ok (.d (.int j)) W := rfl
      have g1 : ixV (.d (emb (.shr u k l))) (.int 1) W = .ok (.d (emb u)) W := rfl
      have g2 : ixV (.d (emb (.shr u k l))) (.int 2) W = .ok (.d (.int k)) W := rfl
      have g3 : ixV (.d (emb (.shr u k l))) (.int 3) W = .ok (.d (.int l)) W := rfl
      have c1 : cmpop .eq (emb t) (emb t) = some true := by rw [cmp_emb (by simp [dp] at h; omega)]; simp
      have c2 : cmpop .eq (emb u) (emb t) = some (decide (u = t)) := cmp_emb (by simp [dp] at h2; omega)
      have l1 : ∀ xs, builtin .len (.dct xs) = some (.int (xs.length : Int)) := fun xs => rfl
      have fd : finD [.tup [.int i, .bl true], .tup [.int k, .bl true]] = some (.dct (if i = k then [(.int i, .bl true)] else [(.int i, .bl true), (.int k, .bl true)])) := by
        by_cases e : i = k
        · subst e; simp [finD, pairsO, dmerge, dput, eqv]
        · simp [finD, pairsO, dmerge, dput, eqv, e]
      generalize emb (.shr t i j) = S at *
      generalize emb (.shr u k l) = S' at *
      by_cases q1 : u = t
      · subst q1
        by_cases q2 : l = j
        · subst q2
          by_cases q3 : i = k
          · subst q3
            simp [f_join_of, b_join_of, n1, i0, i0', tag, cmp_str, loopL, fitF_ok, i1, all2, ixl0, e1, e2, e3, g1, g2, g3, c1, c2, fd, l1, ln, join2, ov, cne_int, cmp_int]
          · by_cases q4 : l = 2
            · simp [f_join_of, b_join_of, n1, i0, i0', tag, cmp_str, loopL, fitF_ok, i1, all2, ixl0, e1, e2, e3, g1, g2, g3, c1, c2, fd, l1, ln, join2, ov, cne_int, cmp_int, q3, q4]
            · have q5 : ¬ 2 = l := fun e => q4 e.symm
              simp [f_join_of, b_join_of, n1, i0, i0', tag, cmp_str, loopL, fitF_ok, i1, all2, ixl0, e1, e2, e3, g1, g2, g3, c1, c2, fd, l1, ln, join2, ov, cne_int, cmp_int, q3, q4, q5]
        · have q5 : ¬ j = l := fun e => q2 e.symm
          simp [f_join_of, b_join_of, n1, i0, i0', tag, cmp_str, loopL, fitF_ok, i1, all2, ixl0, e1, e2, e3, g1, g2, g3, c1, c2, join2, ov, cne_int, cmp_int, q2, q5]
      · have q5 : ¬ t = u := fun e => q1 e.symm
        simp [f_join_of, b_join_of, n1, i0, i0', tag, cmp_str, loopL, fitF_ok, i1, all2, ixl0, e1, e2, e3, g1, g2, g3, c1, c2, join2, ov, cne_int, cmp_int, q1, q5]
    | _ => simp [f_join_of, b_join_of, n1, i0, i0', tag, cmp_str, loopL, fitF_ok, i1, all2, join2, ov]
  | _ => simp [f_join_of, b_join_of, n1, i0, i0', cmp_str, loopL, fitF_ok, i1, all2, join2, ov, show ∀ s, (tag (.nam s)) = [110, 97, 109, 101] from fun _ => rfl, tag]
theorem join_non {xs : List PV} (h : cmpop .inn .non (.lst xs) = some true) (W : Wd) : f_join_of [.d (.lst xs)] W = .ok (.d .non) W := by
  simp [f_join_of, b_join_of, h]
theorem joinO1 {a : Option Tm} (h : ∀ t, a = some t → dp t ≤ 90) (W : Wd) : f_join_of [.d (.lst [ov a])] W = .ok (.d (ov (a.bind join1))) W := by
  cases a with
  | none => exact join_non (in_ov1 none) W
  | some t => exact join1_ok (h t rfl) W
theorem joinO2 {a b : Option Tm} (h : ∀ t, a = some t → dp t ≤ 90) (h2 : ∀ t, b = some t → dp t ≤ 90) (W : Wd) : f_join_of [.d (.lst [ov a, ov b])] W = .ok (.d (ov (o2 join2 a b))) W := by
  cases a with
  | none => exact join_non (in_ov2 none b) W
  | some t =>
    cases b with
    | none => exact join_non (in_ov2 (some t) none) W
    | some u => exact join2_ok (h t rfl) (h2 u rfl) W
/-! ### done -/
theorem ixm1 (x y : PV) (W : Wd) : ixV (.d (.lst [x, y])) (.int (-1)) W = .ok (.d y) W := rfl
theorem ix10 (x : PV) (W : Wd) : ixV (.d (.lst [x])) (.int 0) W = .ok (.d x) W := rfl
theorem ix1m (x : PV) (W : Wd) : ixV (.d (.lst [x])) (.int (-1)) W = .ok (.d x) W := rfl
section
variable {t u : Tm} (h : dp t ≤ 90) (h2 : dp u ≤ 90) (W : Wd)
theorem done_pai : f_done [.d (.str [112, 97, 105, 114]), .d (.lst [emb t, emb u])] W = .ok (.d (emb (.pai t u))) W := by
  simp [f_done, b_done, ixl0, ixm1, hit_mem, emb]
theorem done_sea : f_done [.d (.str [115, 101, 97, 108]), .d (.lst [emb t, emb u])] W = .ok (.d (emb (.sea t u))) W := by
  simp [f_done, b_done, ixl0, ixm1, hit_mem, emb]
theorem done_hsh : f_done [.d (.str [104, 97, 115, 104]), .d (.lst [emb t])] W = .ok (.d (emb (.hsh t))) W := by
  simp [f_done, b_done, ix10, ix1m, hit_mem, emb]
theorem done_sgn : f_done [.d (.str [115, 105, 103, 110]), .d (.lst [emb t, emb u])] W = .ok (.d (ov (sgnT t u))) W := by
  have i0 := ix0 t W
  cases t with
  | sec s =>
    have e1 : ixV (.d (emb (.sec s))) (.int 1) W = .ok (.d (.str s)) W := rfl
    generalize emb (.sec s) = S at *
    simp [f_done, b_done, ixl0, ixm1, hit_mem, i0, tag, cmp_str, sgnT, ov, e1, emb]
  | _ => simp [f_done, b_done, ixl0, ixm1, hit_mem, i0, tag, cmp_str, sgnT, ov]
theorem done_fst : f_done [.d (.str [102, 105, 114, 115, 116]), .d (.lst [emb t])] W = .ok (.d (ov (fstT t))) W := by
  have i0 := ix0 t W
  cases t with
  | pai a b =>
    have e1 : ixV (.d (emb (.pai a b))) (.int 1) W = .ok (.d (emb a)) W := rfl
    generalize emb (.pai a b) = S at *
    simp [f_done, b_done, ix10, ix1m, hit_mem, i0, tag, cmp_str, fstT, ov, e1]
  | _ => simp [f_done, b_done, ix10, ix1m, hit_mem, i0, tag, cmp_str, fstT, ov]
theorem done_snd : f_done [.d (.str [115, 101, 99, 111, 110, 100]), .d (.lst [emb t])] W = .ok (.d (ov (sndT t))) W := by
  have i0 := ix0 t W
  cases t with
  | pai a b =>
    have e1 : ixV (.d (emb (.pai a b))) (.int 2) W = .ok (.d (emb b)) W := rfl
    generalize emb (.pai a b) = S at *
    simp [f_done, b_done, ix10, ix1m, hit_mem, i0, tag, cmp_str, sndT, ov, e1]
  | _ => simp [f_done, b_done, ix10, ix1m, hit_mem, i0, tag, cmp_str, sndT, ov]
include h in
theorem done_ope : f_done [.d (.str [111, 112, 101, 110]), .d (.lst [emb t, emb u])] W = .ok (.d (ov (opeT t u))) W := by
  obtain ⟨p, q, s1, s2⟩ := two_sea (t := t) (u := u) (by omega)
  cases t with
  | sea a b =>
    have e1 : ixV (.d (emb (.sea a b))) (.int 2) W = .ok (.d (emb b)) W := rfl
    generalize emb (.sea a b) = S at *
    by_cases e : a = u
    · simp [f_done, b_done, ixl0, ixm1, hit_mem, s1, s2, opeT, ov, e1, e]
    · simp [f_done, b_done, ixl0, ixm1, hit_mem, s1, s2, opeT, ov, e1, e]
  | _ => simp [f_done, b_done, ixl0, ixm1, hit_mem, s1, s2, opeT, ov]
include h2 in
theorem done_unl : f_done [.d (.str [117, 110, 108, 111, 99, 107]), .d (.lst [emb t, emb u])] W = .ok (.d (ov (unlT t u))) W := by
  have i0 := ix0 t W
  cases t with
  | lck s a =>
    have e1 : ixV (.d (emb (.lck s a))) (.int 1) W = .ok (.d (.str s)) W := rfl
    have e2 : ixV (.d (emb (.lck s a))) (.int 2) W = .ok (.d (emb a)) W := rfl
    have c := cmp_sec (t := u) (by omega) s
    generalize emb (.lck s a) = S at *
    by_cases e : u = .sec s
    · subst e
      simp [f_done, b_done, ixl0, ixm1, hit_mem, i0, tag, cmp_str, unlT, ov, e1, e2, c]
    · simp [f_done, b_done, ixl0, ixm1, hit_mem, i0, tag, cmp_str, unlT, ov, e1, e2, c, e]
  | _ => simp [f_done, b_done, ixl0, ixm1, hit_mem, i0, tag, cmp_str, unlT, ov]
end
end K04
end
section
set_option linter.all false
set_option maxRecDepth 100000
set_option maxHeartbeats 4000000
/-! k04: run of recipes. -/
namespace K04
open Rx Rx.Tr
def pubR : Rc → Bool
  | .pub t => isPub t
  | _ => false
theorem in3 (s a b c : List Nat) : cmpop .inn (.str s) (.tup [.str a, .str b, .str c]) = some (decide (s = a ∨ s = b ∨ s = c)) := by
  simp [cmpop, inO, memK, memL, kss, str_eqv, eq_comm]
theorem in2 (s a b : List Nat) : cmpop .inn (.str s) (.tup [.str a, .str b]) = some (decide (s = a ∨ s = b)) := by
  simp [cmpop, inO, memK, memL, kss, str_eqv, eq_comm]
theorem public_ok {m : Nat} {r : Rc} (h : fitR m r) (W : Wd) : f_is_public [.d (embR r)] W = .ok (.d (.bl (pubR r))) W := by
  have i0 := ixR0 r W
  cases r with
  | pub t => cases t <;> simp [f_is_public, b_is_public, i0, in3, tagR, tag, pubR, isPub]
  | _ => simp [f_is_public, b_is_public, i0, in3, tagR, pubR]
theorem dR_pos (r : Rc) : 0 < dR r := by cases r <;> simp [dR]
theorem slR2 (s : List Nat) (x y : PV) : slice (.tup [.str s, x, y]) (some 1) none = some (.tup [x, y]) := by simp [slice, endO, clip, cut]
theorem slR1 (s : List Nat) (x : PV) : slice (.tup [.str s, x]) (some 1) none = some (.tup [x]) := by simp [slice, endO, clip, cut]
theorem slR3 (s : List Nat) (x y z : PV) : slice (.tup [.str s, x, y, z]) (some 2) none = some (.tup [y, z]) := by simp [slice, endO, clip, cut]
theorem frame_ix {ts : List Tm} {i : Nat} (h : i < ts.length) (W : Wd) : ixV (.d (.tup (ts.map emb))) (.int (i : Int)) W = .ok (.d (ov ts[i]?)) W := by
  have hp : place (i : Int) (ts.map emb).length = some i := by
    unfold place
    rw [if_pos (by omega), if_pos (by rw [List.length_map]; omega)]; rfl
  have hn : ∀ (l : List Tm) (k : Nat), nthO (l.map emb) k = l[k]?.map emb := fun l => by
    induction l with
    | nil => intro k; simp [nthO]
    | cons a l ih => intro k; cases k <;> simp [nthO, ih]
  show R.of (((place (i : Int) (ts.map emb).length).bind (nthO (ts.map emb))).map Val.d) W = _
  rw [hp]
  show R.of ((nthO (ts.map emb) i).map Val.d) W = _
  rw [hn, List.getElem?_eq_getElem h]; rfl
section
variable {ts : List Tm} {D : Nat} (hD : ∀ t ∈ ts, dp t ≤ D) (h1 : 1 ≤ D) (h40 : D ≤ 40) {W : Wd}
include hD h1 h40

theorem run_ok : ∀ (r : Rc) (n : Nat), fitR ts.length r → dR r ≤ 40 → dR r ≤ n → f_run n [.d (embR r), .d (.tup (ts.map emb))] W = .ok (.d (ov (rn ts r))) W
  | r, 0, _, _, h => by have := dR_pos r; omega
  | .at' i, n + 1, hf, h2, h3 => by
    have e1 : ixV (.d (embR (.at' i))) (.int 1) W = .ok (.d (.int (i : Int))) W := rfl
    have e2 := frame_ix (ts := ts) hf W
    have i0 := ixR0 (.at' i) W
    have pb := public_ok (r := (.at' i)) hf W
    generalize embR (.at' i) = S at *
    simp [-List.map_map, f_run, b_run, i0, pb, tagR, cmp_str, e1, e2, rn]
  | .pub t, n + 1, hf, h2, h3 => by
    have i0 := ixR0 (.pub t) W
    have pb := public_ok (r := (.pub t)) hf W
    have hp : pubR (.pub t) = true := hf
    rw [hp] at pb
    have ne : tag t ≠ [97, 116] := by cases t <;> simp [tag]
    have i0 : ixV (.d (emb t)) (.int 0) W = .ok (.d (.str (tag t))) W := i0
    have pb : f_is_public [.d (emb t)] W = .ok (.d (.bl true)) W := pb
    simp [f_run, b_run, i0, pb, cmp_str, ne, rn, ov, embR]
  | .jo1 a, n + 1, hf, h2, h3 => by
    have ih := run_ok a n hf (by simp [dR] at h2; omega) (by simp [dR] at h3; omega)
    have dd := dp_rn hD h1 a
    have jo := joinO1 (a := rn ts a) (fun t e => by have := dd t hf e; simp [dR] at h2; omega) W
    have e1 : ixV (.d (embR (.jo1 a))) (.int 1) W = .ok (.d (.tup [embR a])) W := rfl
    have i1 : items (.tup [embR a]) = some [embR a] := rfl
    have i0 := ixR0 (.jo1 a) W
    have pb := public_ok (r := (.jo1 a)) hf W
    generalize embR (.jo1 a) = S at *
    simp [-List.map_map, f_run, b_run, i0, pb, pubR, tagR, cmp_str, e1, i1, loopL, ih, fitF_ok, jo, rn]
  | .jo2 a b, n + 1, hf, h2, h3 => by
    have ih := run_ok a n hf.1 (by simp [dR] at h2; omega) (by simp [dR] at h3; omega)
    have ih2 := run_ok b n hf.2 (by simp [dR] at h2; omega) (by simp [dR] at h3; omega)
    have dd := dp_rn hD h1 a
    have dd2 := dp_rn hD h1 b
    have jo := joinO2 (a := rn ts a) (b := rn ts b) (fun t e => by have := dd t hf.1 e; simp [dR] at h2; omega) (fun t e => by have := dd2 t hf.2 e; simp [dR] at h2; omega) W
    have e1 : ixV (.d (embR (.jo2 a b))) (.int 1) W = .ok (.d (.tup [embR a, embR b])) W := rfl
    have i1 : items (.tup [embR a, embR b]) = some [embR a, embR b] := rfl
    have i0 := ixR0 (.jo2 a b) W
    have pb := public_ok (r := (.jo2 a b)) hf W
    generalize embR (.jo2 a b) = S at *
    simp [-List.map_map, f_run, b_run, i0, pb, pubR, tagR, cmp_str, e1, i1, loopL, ih, ih2, fitF_ok, jo, rn]
  | .lck s a, n + 1, hf, h2, h3 => by
    have ih := run_ok a n hf (by simp [dR] at h2; omega) (by simp [dR] at h3; omega)
    have e1 : ixV (.d (embR (.lck s a))) (.int 1) W = .ok (.d (.str s)) W := rfl
    have e2 : ixV (.d (embR (.lck s a))) (.int 2) W = .ok (.d (embR a)) W := rfl
    have i0 := ixR0 (.lck s a) W
    have pb := public_ok (r := (.lck s a)) hf W
    generalize embR (.lck s a) = S at *
    cases e : rn ts a with
    | none =>
      have is := isn_ov none
      rw [e] at ih
      simp [-List.map_map, f_run, b_run, i0, pb, pubR, tagR, cmp_str, in2, e1, e2, ih, is, rn, e]
      rfl
    | some t =>
      have is := isn_ov (some t)
      rw [e] at ih
      simp [-List.map_map, f_run, b_run, i0, pb, pubR, tagR, cmp_str, in2, e1, e2, ih, is, rn, e]
      rfl
  | .bye s a, n + 1, hf, h2, h3 => by
    have ih := run_ok a n hf (by simp [dR] at h2; omega) (by simp [dR] at h3; omega)
    have e1 : ixV (.d (embR (.bye s a))) (.int 1) W = .ok (.d (.str s)) W := rfl
    have e2 : ixV (.d (embR (.bye s a))) (.int 2) W = .ok (.d (embR a)) W := rfl
    have i0 := ixR0 (.bye s a) W
    have pb := public_ok (r := (.bye s a)) hf W
    generalize embR (.bye s a) = S at *
    cases e : rn ts a with
    | none =>
      have is := notn_ov none
      rw [e] at ih
      simp [-List.map_map, f_run, b_run, i0, pb, pubR, tagR, cmp_str, in2, e1, e2, ih, is, rn, e]
      rfl
    | some t =>
      have is : cmpop .notn (emb t) .non = some true := notn_ov (some t)
      obtain ⟨p, q, s1, s2⟩ := two_sgn t s
      rw [e] at ih
      have ih : f_run n [.d (embR a), .d (.tup (ts.map emb))] W = .ok (.d (emb t)) W := ih
      cases t with
      | sgn z u =>
        have e3 : ixV (.d (emb (.sgn z u))) (.int 2) W = .ok (.d (emb u)) W := rfl
        generalize emb (.sgn z u) = T at *
        by_cases q : z = s
        · simp [-List.map_map, f_run, b_run, i0, pb, pubR, tagR, cmp_str, in2, e1, e2, ih, is, s1, s2, rn, e, byeT, q, e3, ov]
        · simp [-List.map_map, f_run, b_run, i0, pb, pubR, tagR, cmp_str, in2, e1, e2, ih, is, s1, s2, rn, e, byeT, q, ov]
      | _ => simp [-List.map_map, f_run, b_run, i0, pb, pubR, tagR, cmp_str, in2, e1, e2, ih, is, s1, s2, rn, e, byeT, ov]
  | .shr a i j, n + 1, hf, h2, h3 => by
    have ih := run_ok a n hf (by simp [dR] at h2; omega) (by simp [dR] at h3; omega)
    have e1 : ixV (.d (embR (.shr a i j))) (.int 1) W = .ok (.d (embR a)) W := rfl
    have sl : slice (embR (.shr a i j)) (some 2) none = some (.tup [.int i, .int j]) := slR3 _ _ _ _
    have ex : extL (.tup [.int i, .int j]) = some [.int i, .int j] := rfl
    have i0 := ixR0 (.shr a i j) W
    have pb := public_ok (r := (.shr a i j)) hf W
    generalize embR (.shr a i j) = S at *
    cases e : rn ts a with
    | none =>
      have is := isn_ov none
      rw [e] at ih
      simp [-List.map_map, f_run, b_run, i0, pb, pubR, tagR, cmp_str, in2, e1, ih, is, rn, e]
      rfl
    | some t =>
      have is := isn_ov (some t)
      rw [e] at ih
      simp [-List.map_map, f_run, b_run, i0, pb, pubR, tagR, cmp_str, in2, e1, ih, is, sl, ex, rn, e]
      rfl
  | .pai a b, n + 1, hf, h2, h3 => by
    have ih := run_ok a n hf.1 (by simp [dR] at h2; omega) (by simp [dR] at h3; omega)
    have ih2 := run_ok b n hf.2 (by simp [dR] at h2; omega) (by simp [dR] at h3; omega)
    have dd := dp_rn hD h1 a
    have dd2 := dp_rn hD h1 b
    have sl : slice (embR (.pai a b)) (some 1) none = some (.tup [embR a, embR b]) := slR2 _ _ _
    have i1 : items (.tup [embR a, embR b]) = some [embR a, embR b] := rfl
    have i0 := ixR0 (.pai a b) W
    have pb := public_ok (r := (.pai a b)) hf W
    generalize embR (.pai a b) = S at *
    have nv := in_ov2 (rn ts a) (rn ts b)
    cases e : rn ts a with
    | none =>
      rw [e] at ih nv
      have nv : cmpop .inn .non (.lst [ov none, ov (rn ts b)]) = some true := nv
      simp [-List.map_map, f_run, b_run, i0, pb, pubR, tagR, cmp_str, in2, sl, i1, loopL, ih, ih2, fitF_ok, isNewV, isNew, nv, rn, e, o2]
      rfl
    | some x =>
      rw [e] at ih nv
      cases e' : rn ts b with
      | none =>
        rw [e'] at ih2 nv
        have nv : cmpop .inn .non (.lst [ov (some x), ov none]) = some true := nv
        simp [-List.map_map, f_run, b_run, i0, pb, pubR, tagR, cmp_str, in2, sl, i1, loopL, ih, ih2, fitF_ok, isNewV, isNew, nv, rn, e, e', o2]
        rfl
      | some y =>
        rw [e'] at ih2 nv
        have DX : dp x ≤ 90 := by have := dd x hf.1 e; simp [dR] at h2; omega
        have DY : dp y ≤ 90 := by have := dd2 y hf.2 e'; simp [dR] at h2; omega
        have dn := done_pai (t := x) (u := y) W
        have ih : f_run n [.d (embR a), .d (.tup (ts.map emb))] W = .ok (.d (emb x)) W := ih
        have ih2 : f_run n [.d (embR b), .d (.tup (ts.map emb))] W = .ok (.d (emb y)) W := ih2
        have nv : cmpop .inn .non (.lst [emb x, emb y]) = some false := nv
        simp [-List.map_map, f_run, b_run, i0, pb, pubR, tagR, cmp_str, in2, sl, i1, loopL, ih, ih2, fitF_ok, isNewV, isNew, nv, rn, e, e', o2]
        simp [dn, ov]
  | .sea a b, n + 1, hf, h2, h3 => by
    have ih := run_ok a n hf.1 (by simp [dR] at h2; omega) (by simp [dR] at h3; omega)
    have ih2 := run_ok b n hf.2 (by simp [dR] at h2; omega) (by simp [dR] at h3; omega)
    have dd := dp_rn hD h1 a
    have dd2 := dp_rn hD h1 b
    have sl : slice (embR (.sea a b)) (some 1) none = some (.tup [embR a, embR b]) := slR2 _ _ _
    have i1 : items (.tup [embR a, embR b]) = some [embR a, embR b] := rfl
    have i0 := ixR0 (.sea a b) W
    have pb := public_ok (r := (.sea a b)) hf W
    generalize embR (.sea a b) = S at *
    have nv := in_ov2 (rn ts a) (rn ts b)
    cases e : rn ts a with
    | none =>
      rw [e] at ih nv
      have nv : cmpop .inn .non (.lst [ov none, ov (rn ts b)]) = some true := nv
      simp [-List.map_map, f_run, b_run, i0, pb, pubR, tagR, cmp_str, in2, sl, i1, loopL, ih, ih2, fitF_ok, isNewV, isNew, nv, rn, e, o2]
      rfl
    | some x =>
      rw [e] at ih nv
      cases e' : rn ts b with
      | none =>
        rw [e'] at ih2 nv
        have nv : cmpop .inn .non (.lst [ov (some x), ov none]) = some true := nv
        simp [-List.map_map, f_run, b_run, i0, pb, pubR, tagR, cmp_str, in2, sl, i1, loopL, ih, ih2, fitF_ok, isNewV, isNew, nv, rn, e, e', o2]
        rfl
      | some y =>
        rw [e'] at ih2 nv
        have DX : dp x ≤ 90 := by have := dd x hf.1 e; simp [dR] at h2; omega
        have DY : dp y ≤ 90 := by have := dd2 y hf.2 e'; simp [dR] at h2; omega
        have dn := done_sea (t := x) (u := y) W
        have ih : f_run n [.d (embR a), .d (.tup (ts.map emb))] W = .ok (.d (emb x)) W := ih
        have ih2 : f_run n [.d (embR b), .d (.tup (ts.map emb))] W = .ok (.d (emb y)) W := ih2
        have nv : cmpop .inn .non (.lst [emb x, emb y]) = some false := nv
        simp [-List.map_map, f_run, b_run, i0, pb, pubR, tagR, cmp_str, in2, sl, i1, loopL, ih, ih2, fitF_ok, isNewV, isNew, nv, rn, e, e', o2]
        simp [dn, ov]
  | .sgn a b, n + 1, hf, h2, h3 => by
    have ih := run_ok a n hf.1 (by simp [dR] at h2; omega) (by simp [dR] at h3; omega)
    have ih2 := run_ok b n hf.2 (by simp [dR] at h2; omega) (by simp [dR] at h3; omega)
    have dd := dp_rn hD h1 a
    have dd2 := dp_rn hD h1 b
    have sl : slice (embR (.sgn a b)) (some 1) none = some (.tup [embR a, embR b]) := slR2 _ _ _
    have i1 : items (.tup [embR a, embR b]) = some [embR a, embR b] := rfl
    have i0 := ixR0 (.sgn a b) W
    have pb := public_ok (r := (.sgn a b)) hf W
    generalize embR (.sgn a b) = S at *
    have nv := in_ov2 (rn ts a) (rn ts b)
    cases e : rn ts a with
    | none =>
      rw [e] at ih nv
      have nv : cmpop .inn .non (.lst [ov none, ov (rn ts b)]) = some true := nv
      simp [-List.map_map, f_run, b_run, i0, pb, pubR, tagR, cmp_str, in2, sl, i1, loopL, ih, ih2, fitF_ok, isNewV, isNew, nv, rn, e, o2]
      rfl
    | some x =>
      rw [e] at ih nv
      cases e' : rn ts b with
      | none =>
        rw [e'] at ih2 nv
        have nv : cmpop .inn .non (.lst [ov (some x), ov none]) = some true := nv
        simp [-List.map_map, f_run, b_run, i0, pb, pubR, tagR, cmp_str, in2, sl, i1, loopL, ih, ih2, fitF_ok, isNewV, isNew, nv, rn, e, e', o2]
        rfl
      | some y =>
        rw [e'] at ih2 nv
        have DX : dp x ≤ 90 := by have := dd x hf.1 e; simp [dR] at h2; omega
        have DY : dp y ≤ 90 := by have := dd2 y hf.2 e'; simp [dR] at h2; omega
        have dn := done_sgn (t := x) (u := y) W
        have ih : f_run n [.d (embR a), .d (.tup (ts.map emb))] W = .ok (.d (emb x)) W := ih
        have ih2 : f_run n [.d (embR b), .d (.tup (ts.map emb))] W = .ok (.d (emb y)) W := ih2
        have nv : cmpop .inn .non (.lst [emb x, emb y]) = some false := nv
        simp [-List.map_map, f_run, b_run, i0, pb, pubR, tagR, cmp_str, in2, sl, i1, loopL, ih, ih2, fitF_ok, isNewV, isNew, nv, rn, e, e', o2]
        simp [dn, ov]
  | .ope a b, n + 1, hf, h2, h3 => by
    have ih := run_ok a n hf.1 (by simp [dR] at h2; omega) (by simp [dR] at h3; omega)
    have ih2 := run_ok b n hf.2 (by simp [dR] at h2; omega) (by simp [dR] at h3; omega)
    have dd := dp_rn hD h1 a
    have dd2 := dp_rn hD h1 b
    have sl : slice (embR (.ope a b)) (some 1) none = some (.tup [embR a, embR b]) := slR2 _ _ _
    have i1 : items (.tup [embR a, embR b]) = some [embR a, embR b] := rfl
    have i0 := ixR0 (.ope a b) W
    have pb := public_ok (r := (.ope a b)) hf W
    generalize embR (.ope a b) = S at *
    have nv := in_ov2 (rn ts a) (rn ts b)
    cases e : rn ts a with
    | none =>
      rw [e] at ih nv
      have nv : cmpop .inn .non (.lst [ov none, ov (rn ts b)]) = some true := nv
      simp [-List.map_map, f_run, b_run, i0, pb, pubR, tagR, cmp_str, in2, sl, i1, loopL, ih, ih2, fitF_ok, isNewV, isNew, nv, rn, e, o2]
      rfl
    | some x =>
      rw [e] at ih nv
      cases e' : rn ts b with
      | none =>
        rw [e'] at ih2 nv
        have nv : cmpop .inn .non (.lst [ov (some x), ov none]) = some true := nv
        simp [-List.map_map, f_run, b_run, i0, pb, pubR, tagR, cmp_str, in2, sl, i1, loopL, ih, ih2, fitF_ok, isNewV, isNew, nv, rn, e, e', o2]
        rfl
      | some y =>
        rw [e'] at ih2 nv
        have DX : dp x ≤ 90 := by have := dd x hf.1 e; simp [dR] at h2; omega
        have DY : dp y ≤ 90 := by have := dd2 y hf.2 e'; simp [dR] at h2; omega
        have dn := done_ope (t := x) (u := y) DX W
        have ih : f_run n [.d (embR a), .d (.tup (ts.map emb))] W = .ok (.d (emb x)) W := ih
        have ih2 : f_run n [.d (embR b), .d (.tup (ts.map emb))] W = .ok (.d (emb y)) W := ih2
        have nv : cmpop .inn .non (.lst [emb x, emb y]) = some false := nv
        simp [-List.map_map, f_run, b_run, i0, pb, pubR, tagR, cmp_str, in2, sl, i1, loopL, ih, ih2, fitF_ok, isNewV, isNew, nv, rn, e, e', o2]
        simp [dn, ov]
  | .unl a b, n + 1, hf, h2, h3 => by
    have ih := run_ok a n hf.1 (by simp [dR] at h2; omega) (by simp [dR] at h3; omega)
    have ih2 := run_ok b n hf.2 (by simp [dR] at h2; omega) (by simp [dR] at h3; omega)
    have dd := dp_rn hD h1 a
    have dd2 := dp_rn hD h1 b
    have sl : slice (embR (.unl a b)) (some 1) none = some (.tup [embR a, embR b]) := slR2 _ _ _
    have i1 : items (.tup [embR a, embR b]) = some [embR a, embR b] := rfl
    have i0 := ixR0 (.unl a b) W
    have pb := public_ok (r := (.unl a b)) hf W
    generalize embR (.unl a b) = S at *
    have nv := in_ov2 (rn ts a) (rn ts b)
    cases e : rn ts a with
    | none =>
      rw [e] at ih nv
      have nv : cmpop .inn .non (.lst [ov none, ov (rn ts b)]) = some true := nv
      simp [-List.map_map, f_run, b_run, i0, pb, pubR, tagR, cmp_str, in2, sl, i1, loopL, ih, ih2, fitF_ok, isNewV, isNew, nv, rn, e, o2]
      rfl
    | some x =>
      rw [e] at ih nv
      cases e' : rn ts b with
      | none =>
        rw [e'] at ih2 nv
        have nv : cmpop .inn .non (.lst [ov (some x), ov none]) = some true := nv
        simp [-List.map_map, f_run, b_run, i0, pb, pubR, tagR, cmp_str, in2, sl, i1, loopL, ih, ih2, fitF_ok, isNewV, isNew, nv, rn, e, e', o2]
        rfl
      | some y =>
        rw [e'] at ih2 nv
        have DX : dp x ≤ 90 := by have := dd x hf.1 e; simp [dR] at h2; omega
        have DY : dp y ≤ 90 := by have := dd2 y hf.2 e'; simp [dR] at h2; omega
        have dn := done_unl (t := x) (u := y) DY W
        have ih : f_run n [.d (embR a), .d (.tup (ts.map emb))] W = .ok (.d (emb x)) W := ih
        have ih2 : f_run n [.d (embR b), .d (.tup (ts.map emb))] W = .ok (.d (emb y)) W := ih2
        have nv : cmpop .inn .non (.lst [emb x, emb y]) = some false := nv
        simp [-List.map_map, f_run, b_run, i0, pb, pubR, tagR, cmp_str, in2, sl, i1, loopL, ih, ih2, fitF_ok, isNewV, isNew, nv, rn, e, e', o2]
        simp [dn, ov]
  | .hsh a, n + 1, hf, h2, h3 => by
    have ih := run_ok a n hf (by simp [dR] at h2; omega) (by simp [dR] at h3; omega)
    have sl : slice (embR (.hsh a)) (some 1) none = some (.tup [embR a]) := slR1 _ _
    have i1 : items (.tup [embR a]) = some [embR a] := rfl
    have i0 := ixR0 (.hsh a) W
    have pb := public_ok (r := (.hsh a)) hf W
    generalize embR (.hsh a) = S at *
    have nv := in_ov1 (rn ts a)
    cases e : rn ts a with
    | none =>
      rw [e] at ih nv
      have nv : cmpop .inn .non (.lst [ov none]) = some true := nv
      simp [-List.map_map, f_run, b_run, i0, pb, pubR, tagR, cmp_str, in2, sl, i1, loopL, ih, fitF_ok, isNewV, isNew, nv, rn, e]
      rfl
    | some x =>
      rw [e] at ih nv
      have dn := done_hsh (t := x) W
      have ih : f_run n [.d (embR a), .d (.tup (ts.map emb))] W = .ok (.d (emb x)) W := ih
      have nv : cmpop .inn .non (.lst [emb x]) = some false := nv
      simp [-List.map_map, f_run, b_run, i0, pb, pubR, tagR, cmp_str, in2, sl, i1, loopL, ih, fitF_ok, isNewV, isNew, nv, rn, e]
      simp [dn, ov]
  | .fst a, n + 1, hf, h2, h3 => by
    have ih := run_ok a n hf (by simp [dR] at h2; omega) (by simp [dR] at h3; omega)
    have sl : slice (embR (.fst a)) (some 1) none = some (.tup [embR a]) := slR1 _ _
    have i1 : items (.tup [embR a]) = some [embR a] := rfl
    have i0 := ixR0 (.fst a) W
    have pb := public_ok (r := (.fst a)) hf W
    generalize embR (.fst a) = S at *
    have nv := in_ov1 (rn ts a)
    cases e : rn ts a with
    | none =>
      rw [e] at ih nv
      have nv : cmpop .inn .non (.lst [ov none]) = some true := nv
      simp [-List.map_map, f_run, b_run, i0, pb, pubR, tagR, cmp_str, in2, sl, i1, loopL, ih, fitF_ok, isNewV, isNew, nv, rn, e]
      rfl
    | some x =>
      rw [e] at ih nv
      have dn := done_fst (t := x) W
      have ih : f_run n [.d (embR a), .d (.tup (ts.map emb))] W = .ok (.d (emb x)) W := ih
      have nv : cmpop .inn .non (.lst [emb x]) = some false := nv
      simp [-List.map_map, f_run, b_run, i0, pb, pubR, tagR, cmp_str, in2, sl, i1, loopL, ih, fitF_ok, isNewV, isNew, nv, rn, e]
      simp [dn, ov]
  | .snd a, n + 1, hf, h2, h3 => by
    have ih := run_ok a n hf (by simp [dR] at h2; omega) (by simp [dR] at h3; omega)
    have sl : slice (embR (.snd a)) (some 1) none = some (.tup [embR a]) := slR1 _ _
    have i1 : items (.tup [embR a]) = some [embR a] := rfl
    have i0 := ixR0 (.snd a) W
    have pb := public_ok (r := (.snd a)) hf W
    generalize embR (.snd a) = S at *
    have nv := in_ov1 (rn ts a)
    cases e : rn ts a with
    | none =>
      rw [e] at ih nv
      have nv : cmpop .inn .non (.lst [ov none]) = some true := nv
      simp [-List.map_map, f_run, b_run, i0, pb, pubR, tagR, cmp_str, in2, sl, i1, loopL, ih, fitF_ok, isNewV, isNew, nv, rn, e]
      rfl
    | some x =>
      rw [e] at ih nv
      have dn := done_snd (t := x) W
      have ih : f_run n [.d (embR a), .d (.tup (ts.map emb))] W = .ok (.d (emb x)) W := ih
      have nv : cmpop .inn .non (.lst [emb x]) = some false := nv
      simp [-List.map_map, f_run, b_run, i0, pb, pubR, tagR, cmp_str, in2, sl, i1, loopL, ih, fitF_ok, isNewV, isNew, nv, rn, e]
      simp [dn, ov]
end
end K04
end
section
set_option linter.all false
set_option maxRecDepth 100000
set_option maxHeartbeats 4000000
/-! k04: the law's run of recipes. -/
namespace K04
open Rx Rx.Tr
theorem tup_eq {a b : Tm} (h : dp a ≤ 98) (i j : Int) : cmpop .eq (.tup [emb a, .int i]) (.tup [emb b, .int j]) = some (decide (a = b ∧ i = j)) := by
  have hk := eqK_emb a b 98 h
  show (if eqK 100 (.tup [emb a, .int i]) (.tup [emb b, .int j]) = true then some (eqv (.tup [emb a, .int i]) (.tup [emb b, .int j])) else none) = _
  rw [kt, eqKL, hk, eqKL, kii]
  simp [eqKL, eqv, eqvL, eqv_emb]
theorem set1 (i : Int) : lenSet (.lst [.int i]) = some (.int 1) := by simp [lenSet, intsO, addsK, addK]
theorem set2 (i k : Int) : lenSet (.lst [.int i, .int k]) = some (.int (if i = k then 1 else 2)) := by
  by_cases h : i = k
  · subst h; simp [lenSet, intsO, addsK, addK]
  · have : ¬ k = i := fun e => h e.symm
    simp [lenSet, intsO, addsK, addK, h, this]
section
variable {ts : List Tm} {D : Nat} (hD : ∀ t ∈ ts, dp t ≤ D) (h1 : 1 ≤ D) (h40 : D ≤ 40) {W : Wd}
include hD h1 h40

theorem lrun_ok : ∀ (r : Rc) (n : Nat), fitR ts.length r → dR r ≤ 40 → dR r ≤ n → f__law_run n [.d (embR r), .d (.tup (ts.map emb))] W = .ok (.d (ov (rn ts r))) W
  | r, 0, _, _, h => by have := dR_pos r; omega
  | .at' i, n + 1, hf, h2, h3 => by
    have e1 : ixV (.d (embR (.at' i))) (.int 1) W = .ok (.d (.int (i : Int))) W := rfl
    have e2 := frame_ix (ts := ts) hf W
    have i0 := ixR0 (.at' i) W
    generalize embR (.at' i) = S at *
    simp [-List.map_map, f__law_run, b__law_run, i0, tagR, cmp_str, e1, e2, rn]
  | .pub t, n + 1, hf, h2, h3 => by
    have i0 := ixR0 (.pub t) W
    have hp : isPub t = true := hf
    have ne : tag t ≠ [97, 116] := by cases t <;> simp [tag]
    replace i0 : ixV (.d (emb t)) (.int 0) W = .ok (.d (.str (tag t))) W := i0
    have i3 : cmpop .inn (.str (tag t)) (.tup [.str [110, 97, 109, 101], .str [110, 117, 109, 98, 101, 114], .str [116, 101, 120, 116]]) = some true := by
      rw [in3]
      cases t <;> simp [isPub] at hp <;> simp [tag]
    simp [-List.map_map, f__law_run, b__law_run, i0, cmp_str, ne, i3, rn, ov, embR]
  | .jo1 a, n + 1, hf, h2, h3 => by
    have ih := lrun_ok a n hf (by simp [dR] at h2; omega) (by simp [dR] at h3; omega)
    have dd := dp_rn hD h1 a
    have e1 : ixV (.d (embR (.jo1 a))) (.int 1) W = .ok (.d (.tup [embR a])) W := rfl
    have i1 : items (.tup [embR a]) = some [embR a] := rfl
    have i2 : ∀ x, items (.lst [x]) = some [x] := fun _ => rfl
    have ls : ∀ x : PV, ixV (.d (.lst [x])) (.int 0) W = .ok (.d x) W := fun x => rfl
    have ln : ∀ x : PV, builtin .len (.lst [x]) = some (.int 1) := fun x => rfl
    have i0 := ixR0 (.jo1 a) W
    generalize embR (.jo1 a) = S at *
    cases e : rn ts a with
    | none =>
      rw [e] at ih
      have is := isn_ov none
      simp [-List.map_map, f__law_run, b__law_run, i0, tagR, cmp_str, in3, e1, i1, i2, loopL, ih, fitF_ok, is, any1, rn, e]
      rfl
    | some t =>
      rw [e] at ih
      have DX : dp t ≤ 90 := by have := dd t hf e; simp [dR] at h2; omega
      replace ih : f__law_run n [.d (embR a), .d (.tup (ts.map emb))] W = .ok (.d (emb t)) W := ih
      have is : cmpop .isn (emb t) .non = some false := isn_ov (some t)
      have t0 := ix0 t W
      cases t with
      | shr t i j =>
        have g1 : ixV (.d (emb (.shr t i j))) (.int 1) W = .ok (.d (emb t)) W := rfl
        have g2 : ixV (.d (emb (.shr t i j))) (.int 2) W = .ok (.d (.int i)) W := rfl
        have g3 : ixV (.d (emb (.shr t i j))) (.int 3) W = .ok (.d (.int j)) W := rfl
        have c := tup_eq (a := t) (b := t) (by simp [dp] at DX; omega) j 1
        generalize emb (.shr t i j) = T at *
        by_cases q : j = 1
        · subst q
          simp [-List.map_map, f__law_run, b__law_run, i0, tagR, tag, cmp_str, cne_str, in3, e1, i1, i2, loopL, ih, fitF_ok, is, t0, any1, all1, ls, ln, g1, g2, g3, c, set1, cmp_int, rn, e, join1, ov]
        · simp [-List.map_map, f__law_run, b__law_run, i0, tagR, tag, cmp_str, cne_str, in3, e1, i1, i2, loopL, ih, fitF_ok, is, t0, any1, all1, ls, ln, g1, g2, g3, c, set1, cmp_int, rn, e, join1, q, ov]
      | _ => simp [-List.map_map, f__law_run, b__law_run, i0, tagR, tag, cmp_str, cne_str, in3, e1, i1, i2, loopL, ih, fitF_ok, is, t0, any1, rn, e, join1, ov]
  | .jo2 a b, n + 1, hf, h2, h3 => by
    have ih := lrun_ok a n hf.1 (by simp [dR] at h2; omega) (by simp [dR] at h3; omega)
    have ih2 := lrun_ok b n hf.2 (by simp [dR] at h2; omega) (by simp [dR] at h3; omega)
    have dd := dp_rn hD h1 a
    have dd2 := dp_rn hD h1 b
    have e1 : ixV (.d (embR (.jo2 a b))) (.int 1) W = .ok (.d (.tup [embR a, embR b])) W := rfl
    have i1 : items (.tup [embR a, embR b]) = some [embR a, embR b] := rfl
    have i2 : ∀ x y, items (.lst [x, y]) = some [x, y] := fun _ _ => rfl
    have ln : ∀ x y : PV, builtin .len (.lst [x, y]) = some (.int 2) := fun x y => rfl
    have i0 := ixR0 (.jo2 a b) W
    generalize embR (.jo2 a b) = S at *
    have is := isn_ov (rn ts a)
    have is2 := isn_ov (rn ts b)
    have t0 : ∀ t, rn ts a = some t → ixV (.d (ov (rn ts a))) (.int 0) W = .ok (.d (.str (tag t))) W := fun t e => by rw [e]; exact ix0 t W
    have u0 : ∀ t, rn ts b = some t → ixV (.d (ov (rn ts b))) (.int 0) W = .ok (.d (.str (tag t))) W := fun t e => by rw [e]; exact ix0 t W
    cases e : rn ts a with
    | none =>
      rw [e] at ih is
      cases e' : rn ts b with
      | none =>
        rw [e'] at ih2 is2
        simp [-List.map_map, f__law_run, b__law_run, i0, tagR, cmp_str, in3, e1, i1, i2, loopL, ih, ih2, fitF_ok, is, is2, any2, rn, e, e', o2]
        rfl
      | some u =>
        rw [e'] at ih2 is2
        replace u0 := u0 u e'
        rw [e'] at u0
        simp [-List.map_map, f__law_run, b__law_run, i0, tagR, cmp_str, cne_str, in3, e1, i1, i2, loopL, ih, ih2, fitF_ok, is, is2, u0, any2, rn, e, e', o2]
        rfl
    | some t =>
      rw [e] at ih is
      replace t0 := t0 t e
      rw [e] at t0
      cases e' : rn ts b with
      | none =>
        rw [e'] at ih2 is2
        simp [-List.map_map, f__law_run, b__law_run, i0, tagR, cmp_str, cne_str, in3, e1, i1, i2, loopL, ih, ih2, fitF_ok, is, is2, t0, any2, rn, e, e', o2]
        rfl
      | some u =>
        rw [e'] at ih2 is2
        replace u0 := u0 u e'
        rw [e'] at u0
        have DX : dp t ≤ 90 := by have := dd t hf.1 e; simp [dR] at h2; omega
        have DY : dp u ≤ 90 := by have := dd2 u hf.2 e'; simp [dR] at h2; omega
        replace ih : f__law_run n [.d (embR a), .d (.tup (ts.map emb))] W = .ok (.d (emb t)) W := ih
        replace ih2 : f__law_run n [.d (embR b), .d (.tup (ts.map emb))] W = .ok (.d (emb u)) W := ih2
        replace is : cmpop .isn (emb t) .non = some false := is
        replace is2 : cmpop .isn (emb u) .non = some false := is2
        replace t0 : ixV (.d (emb t)) (.int 0) W = .ok (.d (.str (tag t))) W := t0
        replace u0 : ixV (.d (emb u)) (.int 0) W = .ok (.d (.str (tag u))) W := u0
        cases t with
        | shr t i j =>
          cases u with
          | shr u k l =>
            have g1 : ixV (.d (emb (.shr t i j))) (.int 1) W = .ok (.d (emb t)) W := rfl
            have g2 : ixV (.d (emb (.shr t i j))) (.int 2) W = .ok (.d (.int i)) W := rfl
            have g3 : ixV (.d (emb (.shr t i j))) (.int 3) W = .ok (.d (.int j)) W := rfl
            have k1 : ixV (.d (emb (.shr u k l))) (.int 1) W = .ok (.d (emb u)) W := rfl
            have k2 : ixV (.d (emb (.shr u k l))) (.int 2) W = .ok (.d (.int k)) W := rfl
            have k3 : ixV (.d (emb (.shr u k l))) (.int 3) W = .ok (.d (.int l)) W := rfl
            have c := tup_eq (a := t) (b := t) (by simp [dp] at DX; omega) j 2
            have c2 := tup_eq (a := u) (b := t) (by simp [dp] at DY; omega) l 2
            generalize emb (.shr t i j) = T at *
            generalize emb (.shr u k l) = U at *
            by_cases q1 : u = t
            · subst q1
              by_cases q2 : j = 2
              · subst q2
                by_cases q3 : l = 2
                · subst q3
                  by_cases q4 : i = k
                  · subst q4
                    simp [-List.map_map, f__law_run, b__law_run, i0, tagR, tag, cmp_str, cne_str, in3, e1, i1, i2, loopL, ih, ih2, fitF_ok, is, is2, t0, u0, any2, all2, ixl0, ln, g1, g2, g3, k1, k2, k3, c, c2, set2, cmp_int, rn, e, e', o2, join2, ov]
                  · simp [-List.map_map, f__law_run, b__law_run, i0, tagR, tag, cmp_str, cne_str, in3, e1, i1, i2, loopL, ih, ih2, fitF_ok, is, is2, t0, u0, any2, all2, ixl0, ln, g1, g2, g3, k1, k2, k3, c, c2, set2, cmp_int, rn, e, e', o2, join2, ov, q4]
                · have q5 : ¬ 2 = l := fun z => q3 z.symm
                  simp [-List.map_map, f__law_run, b__law_run, i0, tagR, tag, cmp_str, cne_str, in3, e1, i1, i2, loopL, ih, ih2, fitF_ok, is, is2, t0, u0, any2, all2, ixl0, ln, g1, g2, g3, k1, k2, k3, c, c2, set2, cmp_int, rn, e, e', o2, join2, ov, q3, q5]
              · simp [-List.map_map, f__law_run, b__law_run, i0, tagR, tag, cmp_str, cne_str, in3, e1, i1, i2, loopL, ih, ih2, fitF_ok, is, is2, t0, u0, any2, all2, ixl0, ln, g1, g2, g3, k1, k2, k3, c, c2, set2, cmp_int, rn, e, e', o2, join2, ov, q2]
            · have q5 : ¬ t = u := fun z => q1 z.symm
              simp [-List.map_map, f__law_run, b__law_run, i0, tagR, tag, cmp_str, cne_str, in3, e1, i1, i2, loopL, ih, ih2, fitF_ok, is, is2, t0, u0, any2, all2, ixl0, ln, g1, g2, g3, k1, k2, k3, c, c2, set2, cmp_int, rn, e, e', o2, join2, ov, q1, q5]
          | _ => simp [-List.map_map, f__law_run, b__law_run, i0, tagR, tag, cmp_str, cne_str, in3, e1, i1, i2, loopL, ih, ih2, fitF_ok, is, is2, t0, u0, any2, rn, e, e', o2, join2, ov]
        | _ => simp [-List.map_map, f__law_run, b__law_run, i0, tagR, tag, cmp_str, cne_str, in3, e1, i1, i2, loopL, ih, ih2, fitF_ok, is, is2, t0, u0, any2, rn, e, e', o2, join2, ov]
  | .lck s a, n + 1, hf, h2, h3 => by
    have ih := lrun_ok a n hf (by simp [dR] at h2; omega) (by simp [dR] at h3; omega)
    have e1 : ixV (.d (embR (.lck s a))) (.int 1) W = .ok (.d (.str s)) W := rfl
    have e2 : ixV (.d (embR (.lck s a))) (.int 2) W = .ok (.d (embR a)) W := rfl
    have i0 := ixR0 (.lck s a) W
    generalize embR (.lck s a) = S at *
    cases e : rn ts a with
    | none =>
      have is := notn_ov none
      rw [e] at ih
      simp [-List.map_map, f__law_run, b__law_run, i0, tagR, cmp_str, in3, in2, e1, e2, ih, is, rn, e]
      rfl
    | some t =>
      have is := notn_ov (some t)
      rw [e] at ih
      simp [-List.map_map, f__law_run, b__law_run, i0, tagR, cmp_str, in3, in2, e1, e2, ih, is, rn, e]
      rfl
  | .bye s a, n + 1, hf, h2, h3 => by
    have ih := lrun_ok a n hf (by simp [dR] at h2; omega) (by simp [dR] at h3; omega)
    have e1 : ixV (.d (embR (.bye s a))) (.int 1) W = .ok (.d (.str s)) W := rfl
    have e2 : ixV (.d (embR (.bye s a))) (.int 2) W = .ok (.d (embR a)) W := rfl
    have i0 := ixR0 (.bye s a) W
    generalize embR (.bye s a) = S at *
    cases e : rn ts a with
    | none =>
      have is := notn_ov none
      rw [e] at ih
      simp [-List.map_map, f__law_run, b__law_run, i0, tagR, cmp_str, in3, in2, e1, e2, ih, is, rn, e]
      rfl
    | some t =>
      have is : cmpop .notn (emb t) .non = some true := notn_ov (some t)
      obtain ⟨p, q, s1, s2⟩ := two_sgn t s
      rw [e] at ih
      replace ih : f__law_run n [.d (embR a), .d (.tup (ts.map emb))] W = .ok (.d (emb t)) W := ih
      cases t with
      | sgn z u =>
        have e3 : ixV (.d (emb (.sgn z u))) (.int 2) W = .ok (.d (emb u)) W := rfl
        generalize emb (.sgn z u) = T at *
        by_cases q : z = s
        · simp [-List.map_map, f__law_run, b__law_run, i0, tagR, cmp_str, in3, in2, e1, e2, ih, is, s1, s2, rn, e, byeT, q, e3, ov]
        · simp [-List.map_map, f__law_run, b__law_run, i0, tagR, cmp_str, in3, in2, e1, e2, ih, is, s1, s2, rn, e, byeT, q, ov]
      | _ => simp [-List.map_map, f__law_run, b__law_run, i0, tagR, cmp_str, in3, in2, e1, e2, ih, is, s1, s2, rn, e, byeT, ov]
  | .shr a i j, n + 1, hf, h2, h3 => by
    have ih := lrun_ok a n hf (by simp [dR] at h2; omega) (by simp [dR] at h3; omega)
    have e1 : ixV (.d (embR (.shr a i j))) (.int 1) W = .ok (.d (embR a)) W := rfl
    have e2 : ixV (.d (embR (.shr a i j))) (.int 2) W = .ok (.d (.int i)) W := rfl
    have e3 : ixV (.d (embR (.shr a i j))) (.int 3) W = .ok (.d (.int j)) W := rfl
    have i0 := ixR0 (.shr a i j) W
    generalize embR (.shr a i j) = S at *
    cases e : rn ts a with
    | none =>
      have is := isn_ov none
      rw [e] at ih
      simp [-List.map_map, f__law_run, b__law_run, i0, tagR, cmp_str, in3, in2, e1, ih, is, rn, e]
      rfl
    | some t =>
      have is := isn_ov (some t)
      rw [e] at ih
      simp [-List.map_map, f__law_run, b__law_run, i0, tagR, cmp_str, in3, in2, e1, e2, e3, ih, is, rn, e]
      rfl
  | .pai a b, n + 1, hf, h2, h3 => by
    have ih := lrun_ok a n hf.1 (by simp [dR] at h2; omega) (by simp [dR] at h3; omega)
    have ih2 := lrun_ok b n hf.2 (by simp [dR] at h2; omega) (by simp [dR] at h3; omega)
    have dd := dp_rn hD h1 a
    have dd2 := dp_rn hD h1 b
    have e1 : ixV (.d (embR (.pai a b))) (.int 1) W = .ok (.d (embR a)) W := rfl
    have e2 : ixV (.d (embR (.pai a b))) (.int 2) W = .ok (.d (embR b)) W := rfl
    have i0 := ixR0 (.pai a b) W
    generalize embR (.pai a b) = S at *
    cases e : rn ts a with
    | none =>
      have is := isn_ov none
      rw [e] at ih
      simp [-List.map_map, f__law_run, b__law_run, i0, tagR, cmp_str, in3, in2, e1, ih, is, rn, e, o2]
      rfl
    | some x =>
      have is : cmpop .isn (emb x) .non = some false := isn_ov (some x)
      rw [e] at ih
      replace ih : f__law_run n [.d (embR a), .d (.tup (ts.map emb))] W = .ok (.d (emb x)) W := ih
      cases e' : rn ts b with
      | none =>
        have is2 : cmpop .isn .non .non = some true := isn_ov none
        rw [e'] at ih2
        replace ih2 : f__law_run n [.d (embR b), .d (.tup (ts.map emb))] W = .ok (.d .non) W := ih2
        simp [-List.map_map, f__law_run, b__law_run, i0, tagR, cmp_str, in3, in2, e1, e2, ih, ih2, is, is2, rn, e, e', o2, ov]
      | some y =>
        have is2 : cmpop .isn (emb y) .non = some false := isn_ov (some y)
        rw [e'] at ih2
        replace ih2 : f__law_run n [.d (embR b), .d (.tup (ts.map emb))] W = .ok (.d (emb y)) W := ih2
        have DX : dp x ≤ 90 := by have := dd x hf.1 e; simp [dR] at h2; omega
        have DY : dp y ≤ 90 := by have := dd2 y hf.2 e'; simp [dR] at h2; omega
        simp [-List.map_map, f__law_run, b__law_run, i0, tagR, cmp_str, in3, in2, e1, e2, ih, ih2, is, is2, rn, e, e', o2, ov, emb]
  | .sea a b, n + 1, hf, h2, h3 => by
    have ih := lrun_ok a n hf.1 (by simp [dR] at h2; omega) (by simp [dR] at h3; omega)
    have ih2 := lrun_ok b n hf.2 (by simp [dR] at h2; omega) (by simp [dR] at h3; omega)
    have dd := dp_rn hD h1 a
    have dd2 := dp_rn hD h1 b
    have e1 : ixV (.d (embR (.sea a b))) (.int 1) W = .ok (.d (embR a)) W := rfl
    have e2 : ixV (.d (embR (.sea a b))) (.int 2) W = .ok (.d (embR b)) W := rfl
    have i0 := ixR0 (.sea a b) W
    generalize embR (.sea a b) = S at *
    cases e : rn ts a with
    | none =>
      have is := isn_ov none
      rw [e] at ih
      simp [-List.map_map, f__law_run, b__law_run, i0, tagR, cmp_str, in3, in2, e1, ih, is, rn, e, o2]
      rfl
    | some x =>
      have is : cmpop .isn (emb x) .non = some false := isn_ov (some x)
      rw [e] at ih
      replace ih : f__law_run n [.d (embR a), .d (.tup (ts.map emb))] W = .ok (.d (emb x)) W := ih
      cases e' : rn ts b with
      | none =>
        have is2 : cmpop .isn .non .non = some true := isn_ov none
        rw [e'] at ih2
        replace ih2 : f__law_run n [.d (embR b), .d (.tup (ts.map emb))] W = .ok (.d .non) W := ih2
        simp [-List.map_map, f__law_run, b__law_run, i0, tagR, cmp_str, in3, in2, e1, e2, ih, ih2, is, is2, rn, e, e', o2, ov]
      | some y =>
        have is2 : cmpop .isn (emb y) .non = some false := isn_ov (some y)
        rw [e'] at ih2
        replace ih2 : f__law_run n [.d (embR b), .d (.tup (ts.map emb))] W = .ok (.d (emb y)) W := ih2
        have DX : dp x ≤ 90 := by have := dd x hf.1 e; simp [dR] at h2; omega
        have DY : dp y ≤ 90 := by have := dd2 y hf.2 e'; simp [dR] at h2; omega
        simp [-List.map_map, f__law_run, b__law_run, i0, tagR, cmp_str, in3, in2, e1, e2, ih, ih2, is, is2, rn, e, e', o2, ov, emb]
  | .sgn a b, n + 1, hf, h2, h3 => by
    have ih := lrun_ok a n hf.1 (by simp [dR] at h2; omega) (by simp [dR] at h3; omega)
    have ih2 := lrun_ok b n hf.2 (by simp [dR] at h2; omega) (by simp [dR] at h3; omega)
    have dd := dp_rn hD h1 a
    have dd2 := dp_rn hD h1 b
    have e1 : ixV (.d (embR (.sgn a b))) (.int 1) W = .ok (.d (embR a)) W := rfl
    have e2 : ixV (.d (embR (.sgn a b))) (.int 2) W = .ok (.d (embR b)) W := rfl
    have i0 := ixR0 (.sgn a b) W
    generalize embR (.sgn a b) = S at *
    cases e : rn ts a with
    | none =>
      have is := isn_ov none
      rw [e] at ih
      simp [-List.map_map, f__law_run, b__law_run, i0, tagR, cmp_str, in3, in2, e1, ih, is, rn, e, o2]
      rfl
    | some x =>
      have is : cmpop .isn (emb x) .non = some false := isn_ov (some x)
      rw [e] at ih
      replace ih : f__law_run n [.d (embR a), .d (.tup (ts.map emb))] W = .ok (.d (emb x)) W := ih
      cases e' : rn ts b with
      | none =>
        have is2 : cmpop .isn .non .non = some true := isn_ov none
        rw [e'] at ih2
        replace ih2 : f__law_run n [.d (embR b), .d (.tup (ts.map emb))] W = .ok (.d .non) W := ih2
        simp [-List.map_map, f__law_run, b__law_run, i0, tagR, cmp_str, in3, in2, e1, e2, ih, ih2, is, is2, rn, e, e', o2, ov]
      | some y =>
        have is2 : cmpop .isn (emb y) .non = some false := isn_ov (some y)
        rw [e'] at ih2
        replace ih2 : f__law_run n [.d (embR b), .d (.tup (ts.map emb))] W = .ok (.d (emb y)) W := ih2
        have DX : dp x ≤ 90 := by have := dd x hf.1 e; simp [dR] at h2; omega
        have DY : dp y ≤ 90 := by have := dd2 y hf.2 e'; simp [dR] at h2; omega
        have t0 := ix0 x W
        cases x with
        | sec s =>
          have g1 : ixV (.d (emb (.sec s))) (.int 1) W = .ok (.d (.str s)) W := rfl
          generalize emb (.sec s) = T at *
          simp [-List.map_map, f__law_run, b__law_run, i0, tagR, tag, cmp_str, in3, in2, e1, e2, ih, ih2, is, is2, t0, g1, rn, e, e', o2, sgnT, ov, emb]
        | _ => simp [-List.map_map, f__law_run, b__law_run, i0, tagR, tag, cmp_str, in3, in2, e1, e2, ih, ih2, is, is2, t0, rn, e, e', o2, sgnT, ov]
  | .ope a b, n + 1, hf, h2, h3 => by
    have ih := lrun_ok a n hf.1 (by simp [dR] at h2; omega) (by simp [dR] at h3; omega)
    have ih2 := lrun_ok b n hf.2 (by simp [dR] at h2; omega) (by simp [dR] at h3; omega)
    have dd := dp_rn hD h1 a
    have dd2 := dp_rn hD h1 b
    have e1 : ixV (.d (embR (.ope a b))) (.int 1) W = .ok (.d (embR a)) W := rfl
    have e2 : ixV (.d (embR (.ope a b))) (.int 2) W = .ok (.d (embR b)) W := rfl
    have i0 := ixR0 (.ope a b) W
    generalize embR (.ope a b) = S at *
    cases e : rn ts a with
    | none =>
      have is := isn_ov none
      rw [e] at ih
      simp [-List.map_map, f__law_run, b__law_run, i0, tagR, cmp_str, in3, in2, e1, ih, is, rn, e, o2]
      rfl
    | some x =>
      have is : cmpop .isn (emb x) .non = some false := isn_ov (some x)
      rw [e] at ih
      replace ih : f__law_run n [.d (embR a), .d (.tup (ts.map emb))] W = .ok (.d (emb x)) W := ih
      cases e' : rn ts b with
      | none =>
        have is2 : cmpop .isn .non .non = some true := isn_ov none
        rw [e'] at ih2
        replace ih2 : f__law_run n [.d (embR b), .d (.tup (ts.map emb))] W = .ok (.d .non) W := ih2
        simp [-List.map_map, f__law_run, b__law_run, i0, tagR, cmp_str, in3, in2, e1, e2, ih, ih2, is, is2, rn, e, e', o2, ov]
      | some y =>
        have is2 : cmpop .isn (emb y) .non = some false := isn_ov (some y)
        rw [e'] at ih2
        replace ih2 : f__law_run n [.d (embR b), .d (.tup (ts.map emb))] W = .ok (.d (emb y)) W := ih2
        have DX : dp x ≤ 90 := by have := dd x hf.1 e; simp [dR] at h2; omega
        have DY : dp y ≤ 90 := by have := dd2 y hf.2 e'; simp [dR] at h2; omega
        obtain ⟨p, q, s1, s2⟩ := two_sea (t := x) (u := y) (by omega)
        cases x with
        | sea z w =>
          have g2 : ixV (.d (emb (.sea z w))) (.int 2) W = .ok (.d (emb w)) W := rfl
          generalize emb (.sea z w) = T at *
          by_cases q : z = y
          · simp [-List.map_map, f__law_run, b__law_run, i0, tagR, cmp_str, in3, in2, e1, e2, ih, ih2, is, is2, s1, s2, g2, rn, e, e', o2, opeT, ov, q]
          · simp [-List.map_map, f__law_run, b__law_run, i0, tagR, cmp_str, in3, in2, e1, e2, ih, ih2, is, is2, s1, s2, g2, rn, e, e', o2, opeT, ov, q]
        | _ => simp [-List.map_map, f__law_run, b__law_run, i0, tagR, cmp_str, in3, in2, e1, e2, ih, ih2, is, is2, s1, s2, rn, e, e', o2, opeT, ov]
  | .unl a b, n + 1, hf, h2, h3 => by
    have ih := lrun_ok a n hf.1 (by simp [dR] at h2; omega) (by simp [dR] at h3; omega)
    have ih2 := lrun_ok b n hf.2 (by simp [dR] at h2; omega) (by simp [dR] at h3; omega)
    have dd := dp_rn hD h1 a
    have dd2 := dp_rn hD h1 b
    have e1 : ixV (.d (embR (.unl a b))) (.int 1) W = .ok (.d (embR a)) W := rfl
    have e2 : ixV (.d (embR (.unl a b))) (.int 2) W = .ok (.d (embR b)) W := rfl
    have i0 := ixR0 (.unl a b) W
    generalize embR (.unl a b) = S at *
    cases e : rn ts a with
    | none =>
      have is := isn_ov none
      rw [e] at ih
      simp [-List.map_map, f__law_run, b__law_run, i0, tagR, cmp_str, in3, in2, e1, ih, is, rn, e, o2]
      rfl
    | some x =>
      have is : cmpop .isn (emb x) .non = some false := isn_ov (some x)
      rw [e] at ih
      replace ih : f__law_run n [.d (embR a), .d (.tup (ts.map emb))] W = .ok (.d (emb x)) W := ih
      cases e' : rn ts b with
      | none =>
        have is2 : cmpop .isn .non .non = some true := isn_ov none
        rw [e'] at ih2
        replace ih2 : f__law_run n [.d (embR b), .d (.tup (ts.map emb))] W = .ok (.d .non) W := ih2
        simp [-List.map_map, f__law_run, b__law_run, i0, tagR, cmp_str, in3, in2, e1, e2, ih, ih2, is, is2, rn, e, e', o2, ov]
      | some y =>
        have is2 : cmpop .isn (emb y) .non = some false := isn_ov (some y)
        rw [e'] at ih2
        replace ih2 : f__law_run n [.d (embR b), .d (.tup (ts.map emb))] W = .ok (.d (emb y)) W := ih2
        have DX : dp x ≤ 90 := by have := dd x hf.1 e; simp [dR] at h2; omega
        have DY : dp y ≤ 90 := by have := dd2 y hf.2 e'; simp [dR] at h2; omega
        have t0 := ix0 x W
        cases x with
        | lck s z =>
          have g1 : ixV (.d (emb (.lck s z))) (.int 1) W = .ok (.d (.str s)) W := rfl
          have g2 : ixV (.d (emb (.lck s z))) (.int 2) W = .ok (.d (emb z)) W := rfl
          have c := cmp_sec (t := y) (by omega) s
          generalize emb (.lck s z) = T at *
          generalize hY : emb y = Y at *
          by_cases q : y = .sec s
          · subst q
            simp [-List.map_map, f__law_run, b__law_run, i0, tagR, tag, cmp_str, in3, in2, e1, e2, ih, ih2, is, is2, t0, g1, g2, c, rn, e, e', o2, unlT, ov]
          · simp [-List.map_map, f__law_run, b__law_run, i0, tagR, tag, cmp_str, in3, in2, e1, e2, ih, ih2, is, is2, t0, g1, g2, c, rn, e, e', o2, unlT, ov, q]
        | _ => simp [-List.map_map, f__law_run, b__law_run, i0, tagR, tag, cmp_str, in3, in2, e1, e2, ih, ih2, is, is2, t0, rn, e, e', o2, unlT, ov]
  | .hsh a, n + 1, hf, h2, h3 => by
    have ih := lrun_ok a n hf (by simp [dR] at h2; omega) (by simp [dR] at h3; omega)
    have e1 : ixV (.d (embR (.hsh a))) (.int 1) W = .ok (.d (embR a)) W := rfl
    have i0 := ixR0 (.hsh a) W
    generalize embR (.hsh a) = S at *
    cases e : rn ts a with
    | none =>
      have is := isn_ov none
      rw [e] at ih
      simp [-List.map_map, f__law_run, b__law_run, i0, tagR, cmp_str, in3, in2, e1, ih, is, rn, e]
      rfl
    | some x =>
      have is : cmpop .isn (emb x) .non = some false := isn_ov (some x)
      rw [e] at ih
      replace ih : f__law_run n [.d (embR a), .d (.tup (ts.map emb))] W = .ok (.d (emb x)) W := ih
      simp [-List.map_map, f__law_run, b__law_run, i0, tagR, cmp_str, in3, in2, e1, ih, is, rn, e, ov, emb]
  | .fst a, n + 1, hf, h2, h3 => by
    have ih := lrun_ok a n hf (by simp [dR] at h2; omega) (by simp [dR] at h3; omega)
    have e1 : ixV (.d (embR (.fst a))) (.int 1) W = .ok (.d (embR a)) W := rfl
    have i0 := ixR0 (.fst a) W
    generalize embR (.fst a) = S at *
    cases e : rn ts a with
    | none =>
      have is := isn_ov none
      rw [e] at ih
      simp [-List.map_map, f__law_run, b__law_run, i0, tagR, cmp_str, in3, in2, e1, ih, is, rn, e]
      rfl
    | some x =>
      have is : cmpop .isn (emb x) .non = some false := isn_ov (some x)
      rw [e] at ih
      replace ih : f__law_run n [.d (embR a), .d (.tup (ts.map emb))] W = .ok (.d (emb x)) W := ih
      have t0 := ix0 x W
      cases x with
      | pai z w =>
        have g1 : ixV (.d (emb (.pai z w))) (.int 1) W = .ok (.d (emb z)) W := rfl
        generalize emb (.pai z w) = T at *
        simp [-List.map_map, f__law_run, b__law_run, i0, tagR, tag, cmp_str, in3, in2, e1, ih, is, t0, g1, rn, e, fstT, ov]
      | _ => simp [-List.map_map, f__law_run, b__law_run, i0, tagR, tag, cmp_str, in3, in2, e1, ih, is, t0, rn, e, fstT, ov]
  | .snd a, n + 1, hf, h2, h3 => by
    have ih := lrun_ok a n hf (by simp [dR] at h2; omega) (by simp [dR] at h3; omega)
    have e1 : ixV (.d (embR (.snd a))) (.int 1) W = .ok (.d (embR a)) W := rfl
    have i0 := ixR0 (.snd a) W
    generalize embR (.snd a) = S at *
    cases e : rn ts a with
    | none =>
      have is := isn_ov none
      rw [e] at ih
      simp [-List.map_map, f__law_run, b__law_run, i0, tagR, cmp_str, in3, in2, e1, ih, is, rn, e]
      rfl
    | some x =>
      have is : cmpop .isn (emb x) .non = some false := isn_ov (some x)
      rw [e] at ih
      replace ih : f__law_run n [.d (embR a), .d (.tup (ts.map emb))] W = .ok (.d (emb x)) W := ih
      have t0 := ix0 x W
      cases x with
      | pai z w =>
        have g1 : ixV (.d (emb (.pai z w))) (.int 2) W = .ok (.d (emb w)) W := rfl
        generalize emb (.pai z w) = T at *
        simp [-List.map_map, f__law_run, b__law_run, i0, tagR, tag, cmp_str, in3, in2, e1, ih, is, t0, g1, rn, e, sndT, ov]
      | _ => simp [-List.map_map, f__law_run, b__law_run, i0, tagR, tag, cmp_str, in3, in2, e1, ih, is, t0, rn, e, sndT, ov]
end
end K04
end
section
set_option linter.all false
set_option maxRecDepth 100000
set_option maxHeartbeats 4000000
/-! k04: sizes of recipes. -/
namespace K04
open Rx Rx.Tr
def szR : Rc → Int
  | .at' _ => 1
  | .pub _ => 1
  | .jo1 a => 1 + szR a
  | .jo2 a b => 1 + (szR a + szR b)
  | .lck _ a => 1 + szR a
  | .bye _ a => 1 + szR a
  | .shr a _ _ => 1 + szR a
  | .pai a b => 1 + (szR a + szR b)
  | .sea a b => 1 + (szR a + szR b)
  | .sgn a b => 1 + (szR a + szR b)
  | .ope a b => 1 + (szR a + szR b)
  | .unl a b => 1 + (szR a + szR b)
  | .hsh a => 1 + szR a
  | .fst a => 1 + szR a
  | .snd a => 1 + szR a
theorem embR_tup (r : Rc) : ∃ xs, embR r = .tup xs := by
  cases r <;> first | exact ⟨_, rfl⟩ | exact emb_tup _
theorem isT (r : Rc) : builtin .isTuple (embR r) = some (.bl true) := by
  obtain ⟨xs, e⟩ := embR_tup r
  rw [e]; rfl
theorem isT_s (s : List Nat) : builtin .isTuple (.str s) = some (.bl false) := rfl
theorem isT_i (i : Int) : builtin .isTuple (.int i) = some (.bl false) := rfl
theorem sum1 (i : Int) : builtin .sum (.lst [.int i]) = some (.int i) := by simp [builtin, intsO, sumI]
theorem sum2 (i j : Int) : builtin .sum (.lst [.int i, .int j]) = some (.int (i + j)) := by simp [builtin, intsO, sumI]
theorem add_i (i j : Int) : binop .add (.int i) (.int j) = some (.int (i + j)) := rfl
theorem sl13 (s : List Nat) (x y z : PV) : slice (.tup [.str s, x, y, z]) (some 1) none = some (.tup [x, y, z]) := by simp [slice, endO, clip, cut]
theorem in4 (s a b c d : List Nat) : cmpop .inn (.str s) (.tup [.str a, .str b, .str c, .str d]) = some (decide (s = a ∨ s = b ∨ s = c ∨ s = d)) := by
  simp [cmpop, inO, memK, memL, kss, str_eqv, eq_comm]
section
variable {m : Nat} {W : Wd}
theorem size_ok : ∀ (r : Rc) (n : Nat), fitR m r → dR r ≤ n → f_recipe_size n [.d (embR r)] W = .ok (.d (.int (szR r))) W
  | r, 0, _, h => by have := dR_pos r; omega
  | .at' i, n + 1, hf, h3 => by
    have i0 := ixR0 ((.at' i)) W
    have pb := public_ok (r := (.at' i)) hf W
    generalize embR ((.at' i)) = S at *
    simp [f_recipe_size, b_recipe_size, i0, pb, pubR, tagR, cmp_str, in4,  loopL, fitF_ok, isT, isT_s, isT_i, sum1, sum2, add_i, szR]
  | .pub t, n + 1, hf, h3 => by
    have i0 := ixR0 (.pub t) W
    have pb := public_ok (r := .pub t) hf W
    have hp : pubR (.pub t) = true := hf
    rw [hp] at pb
    have ne : tag t ≠ [97, 116] := by cases t <;> simp [tag]
    generalize embR (.pub t) = S at *
    simp [f_recipe_size, b_recipe_size, i0, pb, tagR, cmp_str, ne, szR]
  | .jo1 a, n + 1, hf, h3 => by
    have ih := size_ok a n hf (by simp [dR] at h3; omega)
    have i0 := ixR0 ((.jo1 a)) W
    have pb := public_ok (r := (.jo1 a)) hf W
    have e1 : ixV (.d (embR (.jo1 a))) (.int 1) W = .ok (.d (.tup [embR a])) W := rfl
    have i1 : items (.tup [embR a]) = some [embR a] := rfl
    generalize embR ((.jo1 a)) = S at *
    simp [f_recipe_size, b_recipe_size, i0, pb, pubR, tagR, cmp_str, in4, e1, i1, ih, loopL, fitF_ok, isT, isT_s, isT_i, sum1, sum2, add_i, szR]
  | .jo2 a b, n + 1, hf, h3 => by
    have ih := size_ok a n hf.1 (by simp [dR] at h3; omega)
    have ih2 := size_ok b n hf.2 (by simp [dR] at h3; omega)
    have i0 := ixR0 ((.jo2 a b)) W
    have pb := public_ok (r := (.jo2 a b)) hf W
    have e1 : ixV (.d (embR (.jo2 a b))) (.int 1) W = .ok (.d (.tup [embR a, embR b])) W := rfl
    have i1 : items (.tup [embR a, embR b]) = some [embR a, embR b] := rfl
    generalize embR ((.jo2 a b)) = S at *
    simp [f_recipe_size, b_recipe_size, i0, pb, pubR, tagR, cmp_str, in4, e1, i1, ih, ih2, loopL, fitF_ok, isT, isT_s, isT_i, sum1, sum2, add_i, szR]
  | .lck s a, n + 1, hf, h3 => by
    have ih := size_ok a n hf (by simp [dR] at h3; omega)
    have i0 := ixR0 ((.lck s a)) W
    have pb := public_ok (r := (.lck s a)) hf W
    have sl : slice (embR (.lck s a)) (some 1) none = some (.tup [.str s, embR a]) := slR2 _ _ _
    have i1 : items (.tup [.str s, embR a]) = some [.str s, embR a] := rfl
    generalize embR ((.lck s a)) = S at *
    simp [f_recipe_size, b_recipe_size, i0, pb, pubR, tagR, cmp_str, in4, sl, i1, ih, loopL, fitF_ok, isT, isT_s, isT_i, sum1, sum2, add_i, szR]
  | .bye s a, n + 1, hf, h3 => by
    have ih := size_ok a n hf (by simp [dR] at h3; omega)
    have i0 := ixR0 ((.bye s a)) W
    have pb := public_ok (r := (.bye s a)) hf W
    have sl : slice (embR (.bye s a)) (some 1) none = some (.tup [.str s, embR a]) := slR2 _ _ _
    have i1 : items (.tup [.str s, embR a]) = some [.str s, embR a] := rfl
    generalize embR ((.bye s a)) = S at *
    simp [f_recipe_size, b_recipe_size, i0, pb, pubR, tagR, cmp_str, in4, sl, i1, ih, loopL, fitF_ok, isT, isT_s, isT_i, sum1, sum2, add_i, szR]
  | .shr a i j, n + 1, hf, h3 => by
    have ih := size_ok a n hf (by simp [dR] at h3; omega)
    have i0 := ixR0 ((.shr a i j)) W
    have pb := public_ok (r := (.shr a i j)) hf W
    have sl : slice (embR (.shr a i j)) (some 1) none = some (.tup [embR a, .int i, .int j]) := sl13 _ _ _ _
    have i1 : items (.tup [embR a, .int i, .int j]) = some [embR a, .int i, .int j] := rfl
    generalize embR ((.shr a i j)) = S at *
    simp [f_recipe_size, b_recipe_size, i0, pb, pubR, tagR, cmp_str, in4, sl, i1, ih, loopL, fitF_ok, isT, isT_s, isT_i, sum1, sum2, add_i, szR]
  | .pai a b, n + 1, hf, h3 => by
    have ih := size_ok a n hf.1 (by simp [dR] at h3; omega)
    have ih2 := size_ok b n hf.2 (by simp [dR] at h3; omega)
    have i0 := ixR0 ((.pai a b)) W
    have pb := public_ok (r := (.pai a b)) hf W
    have sl : slice (embR (.pai a b)) (some 1) none = some (.tup [embR a, embR b]) := slR2 _ _ _
    have i1 : items (.tup [embR a, embR b]) = some [embR a, embR b] := rfl
    generalize embR ((.pai a b)) = S at *
    simp [f_recipe_size, b_recipe_size, i0, pb, pubR, tagR, cmp_str, in4, sl, i1, ih, ih2, loopL, fitF_ok, isT, isT_s, isT_i, sum1, sum2, add_i, szR]
  | .sea a b, n + 1, hf, h3 => by
    have ih := size_ok a n hf.1 (by simp [dR] at h3; omega)
    have ih2 := size_ok b n hf.2 (by simp [dR] at h3; omega)
    have i0 := ixR0 ((.sea a b)) W
    have pb := public_ok (r := (.sea a b)) hf W
    have sl : slice (embR (.sea a b)) (some 1) none = some (.tup [embR a, embR b]) := slR2 _ _ _
    have i1 : items (.tup [embR a, embR b]) = some [embR a, embR b] := rfl
    generalize embR ((.sea a b)) = S at *
    simp [f_recipe_size, b_recipe_size, i0, pb, pubR, tagR, cmp_str, in4, sl, i1, ih, ih2, loopL, fitF_ok, isT, isT_s, isT_i, sum1, sum2, add_i, szR]
  | .sgn a b, n + 1, hf, h3 => by
    have ih := size_ok a n hf.1 (by simp [dR] at h3; omega)
    have ih2 := size_ok b n hf.2 (by simp [dR] at h3; omega)
    have i0 := ixR0 ((.sgn a b)) W
    have pb := public_ok (r := (.sgn a b)) hf W
    have sl : slice (embR (.sgn a b)) (some 1) none = some (.tup [embR a, embR b]) := slR2 _ _ _
    have i1 : items (.tup [embR a, embR b]) = some [embR a, embR b] := rfl
    generalize embR ((.sgn a b)) = S at *
    simp [f_recipe_size, b_recipe_size, i0, pb, pubR, tagR, cmp_str, in4, sl, i1, ih, ih2, loopL, fitF_ok, isT, isT_s, isT_i, sum1, sum2, add_i, szR]
  | .ope a b, n + 1, hf, h3 => by
    have ih := size_ok a n hf.1 (by simp [dR] at h3; omega)
    have ih2 := size_ok b n hf.2 (by simp [dR] at h3; omega)
    have i0 := ixR0 ((.ope a b)) W
    have pb := public_ok (r := (.ope a b)) hf W
    have sl : slice (embR (.ope a b)) (some 1) none = some (.tup [embR a, embR b]) := slR2 _ _ _
    have i1 : items (.tup [embR a, embR b]) = some [embR a, embR b] := rfl
    generalize embR ((.ope a b)) = S at *
    simp [f_recipe_size, b_recipe_size, i0, pb, pubR, tagR, cmp_str, in4, sl, i1, ih, ih2, loopL, fitF_ok, isT, isT_s, isT_i, sum1, sum2, add_i, szR]
  | .unl a b, n + 1, hf, h3 => by
    have ih := size_ok a n hf.1 (by simp [dR] at h3; omega)
    have ih2 := size_ok b n hf.2 (by simp [dR] at h3; omega)
    have i0 := ixR0 ((.unl a b)) W
    have pb := public_ok (r := (.unl a b)) hf W
    have sl : slice (embR (.unl a b)) (some 1) none = some (.tup [embR a, embR b]) := slR2 _ _ _
    have i1 : items (.tup [embR a, embR b]) = some [embR a, embR b] := rfl
    generalize embR ((.unl a b)) = S at *
    simp [f_recipe_size, b_recipe_size, i0, pb, pubR, tagR, cmp_str, in4, sl, i1, ih, ih2, loopL, fitF_ok, isT, isT_s, isT_i, sum1, sum2, add_i, szR]
  | .hsh a, n + 1, hf, h3 => by
    have ih := size_ok a n hf (by simp [dR] at h3; omega)
    have i0 := ixR0 ((.hsh a)) W
    have pb := public_ok (r := (.hsh a)) hf W
    have sl : slice (embR (.hsh a)) (some 1) none = some (.tup [embR a]) := slR1 _ _
    have i1 : items (.tup [embR a]) = some [embR a] := rfl
    generalize embR ((.hsh a)) = S at *
    simp [f_recipe_size, b_recipe_size, i0, pb, pubR, tagR, cmp_str, in4, sl, i1, ih, loopL, fitF_ok, isT, isT_s, isT_i, sum1, sum2, add_i, szR]
  | .fst a, n + 1, hf, h3 => by
    have ih := size_ok a n hf (by simp [dR] at h3; omega)
    have i0 := ixR0 ((.fst a)) W
    have pb := public_ok (r := (.fst a)) hf W
    have sl : slice (embR (.fst a)) (some 1) none = some (.tup [embR a]) := slR1 _ _
    have i1 : items (.tup [embR a]) = some [embR a] := rfl
    generalize embR ((.fst a)) = S at *
    simp [f_recipe_size, b_recipe_size, i0, pb, pubR, tagR, cmp_str, in4, sl, i1, ih, loopL, fitF_ok, isT, isT_s, isT_i, sum1, sum2, add_i, szR]
  | .snd a, n + 1, hf, h3 => by
    have ih := size_ok a n hf (by simp [dR] at h3; omega)
    have i0 := ixR0 ((.snd a)) W
    have pb := public_ok (r := (.snd a)) hf W
    have sl : slice (embR (.snd a)) (some 1) none = some (.tup [embR a]) := slR1 _ _
    have i1 : items (.tup [embR a]) = some [embR a] := rfl
    generalize embR ((.snd a)) = S at *
    simp [f_recipe_size, b_recipe_size, i0, pb, pubR, tagR, cmp_str, in4, sl, i1, ih, loopL, fitF_ok, isT, isT_s, isT_i, sum1, sum2, add_i, szR]
theorem lsize_ok : ∀ (r : Rc) (n : Nat), fitR m r → dR r ≤ n → f__law_size n [.d (embR r)] W = .ok (.d (.int (szR r))) W
  | r, 0, _, h => by have := dR_pos r; omega
  | .at' i, n + 1, hf, h3 => by
    have i0 := ixR0 ((.at' i)) W
    generalize embR ((.at' i)) = S at *
    simp [f__law_size, b__law_size, i0, tagR, cmp_str, in4,  loopL, fitF_ok, isT, isT_s, isT_i, sum1, sum2, add_i, szR]
  | .pub t, n + 1, hf, h3 => by
    have i0 := ixR0 (.pub t) W
    have hp : isPub t = true := hf
    generalize embR (.pub t) = S at *
    cases t <;> simp [isPub] at hp <;> simp [f__law_size, b__law_size, i0, tagR, tag, in4, szR]
  | .jo1 a, n + 1, hf, h3 => by
    have ih := lsize_ok a n hf (by simp [dR] at h3; omega)
    have i0 := ixR0 ((.jo1 a)) W
    have e1 : ixV (.d (embR (.jo1 a))) (.int 1) W = .ok (.d (.tup [embR a])) W := rfl
    have i1 : items (.tup [embR a]) = some [embR a] := rfl
    generalize embR ((.jo1 a)) = S at *
    simp [f__law_size, b__law_size, i0, tagR, cmp_str, in4, e1, i1, ih, loopL, fitF_ok, isT, isT_s, isT_i, sum1, sum2, add_i, szR]
  | .jo2 a b, n + 1, hf, h3 => by
    have ih := lsize_ok a n hf.1 (by simp [dR] at h3; omega)
    have ih2 := lsize_ok b n hf.2 (by simp [dR] at h3; omega)
    have i0 := ixR0 ((.jo2 a b)) W
    have e1 : ixV (.d (embR (.jo2 a b))) (.int 1) W = .ok (.d (.tup [embR a, embR b])) W := rfl
    have i1 : items (.tup [embR a, embR b]) = some [embR a, embR b] := rfl
    generalize embR ((.jo2 a b)) = S at *
    simp [f__law_size, b__law_size, i0, tagR, cmp_str, in4, e1, i1, ih, ih2, loopL, fitF_ok, isT, isT_s, isT_i, sum1, sum2, add_i, szR]
  | .lck s a, n + 1, hf, h3 => by
    have ih := lsize_ok a n hf (by simp [dR] at h3; omega)
    have i0 := ixR0 ((.lck s a)) W
    have sl : slice (embR (.lck s a)) (some 1) none = some (.tup [.str s, embR a]) := slR2 _ _ _
    have i1 : items (.tup [.str s, embR a]) = some [.str s, embR a] := rfl
    generalize embR ((.lck s a)) = S at *
    simp [f__law_size, b__law_size, i0, tagR, cmp_str, in4, sl, i1, ih, loopL, fitF_ok, isT, isT_s, isT_i, sum1, sum2, add_i, szR]
  | .bye s a, n + 1, hf, h3 => by
    have ih := lsize_ok a n hf (by simp [dR] at h3; omega)
    have i0 := ixR0 ((.bye s a)) W
    have sl : slice (embR (.bye s a)) (some 1) none = some (.tup [.str s, embR a]) := slR2 _ _ _
    have i1 : items (.tup [.str s, embR a]) = some [.str s, embR a] := rfl
    generalize embR ((.bye s a)) = S at *
    simp [f__law_size, b__law_size, i0, tagR, cmp_str, in4, sl, i1, ih, loopL, fitF_ok, isT, isT_s, isT_i, sum1, sum2, add_i, szR]
  | .shr a i j, n + 1, hf, h3 => by
    have ih := lsize_ok a n hf (by simp [dR] at h3; omega)
    have i0 := ixR0 ((.shr a i j)) W
    have sl : slice (embR (.shr a i j)) (some 1) none = some (.tup [embR a, .int i, .int j]) := sl13 _ _ _ _
    have i1 : items (.tup [embR a, .int i, .int j]) = some [embR a, .int i, .int j] := rfl
    generalize embR ((.shr a i j)) = S at *
    simp [f__law_size, b__law_size, i0, tagR, cmp_str, in4, sl, i1, ih, loopL, fitF_ok, isT, isT_s, isT_i, sum1, sum2, add_i, szR]
  | .pai a b, n + 1, hf, h3 => by
    have ih := lsize_ok a n hf.1 (by simp [dR] at h3; omega)
    have ih2 := lsize_ok b n hf.2 (by simp [dR] at h3; omega)
    have i0 := ixR0 ((.pai a b)) W
    have sl : slice (embR (.pai a b)) (some 1) none = some (.tup [embR a, embR b]) := slR2 _ _ _
    have i1 : items (.tup [embR a, embR b]) = some [embR a, embR b] := rfl
    generalize embR ((.pai a b)) = S at *
    simp [f__law_size, b__law_size, i0, tagR, cmp_str, in4, sl, i1, ih, ih2, loopL, fitF_ok, isT, isT_s, isT_i, sum1, sum2, add_i, szR]
  | .sea a b, n + 1, hf, h3 => by
    have ih := lsize_ok a n hf.1 (by simp [dR] at h3; omega)
    have ih2 := lsize_ok b n hf.2 (by simp [dR] at h3; omega)
    have i0 := ixR0 ((.sea a b)) W
    have sl : slice (embR (.sea a b)) (some 1) none = some (.tup [embR a, embR b]) := slR2 _ _ _
    have i1 : items (.tup [embR a, embR b]) = some [embR a, embR b] := rfl
    generalize embR ((.sea a b)) = S at *
    simp [f__law_size, b__law_size, i0, tagR, cmp_str, in4, sl, i1, ih, ih2, loopL, fitF_ok, isT, isT_s, isT_i, sum1, sum2, add_i, szR]
  | .sgn a b, n + 1, hf, h3 => by
    have ih := lsize_ok a n hf.1 (by simp [dR] at h3; omega)
    have ih2 := lsize_ok b n hf.2 (by simp [dR] at h3; omega)
    have i0 := ixR0 ((.sgn a b)) W
    have sl : slice (embR (.sgn a b)) (some 1) none = some (.tup [embR a, embR b]) := slR2 _ _ _
    have i1 : items (.tup [embR a, embR b]) = some [embR a, embR b] := rfl
    generalize embR ((.sgn a b)) = S at *
    simp [f__law_size, b__law_size, i0, tagR, cmp_str, in4, sl, i1, ih, ih2, loopL, fitF_ok, isT, isT_s, isT_i, sum1, sum2, add_i, szR]
  | .ope a b, n + 1, hf, h3 => by
    have ih := lsize_ok a n hf.1 (by simp [dR] at h3; omega)
    have ih2 := lsize_ok b n hf.2 (by simp [dR] at h3; omega)
    have i0 := ixR0 ((.ope a b)) W
    have sl : slice (embR (.ope a b)) (some 1) none = some (.tup [embR a, embR b]) := slR2 _ _ _
    have i1 : items (.tup [embR a, embR b]) = some [embR a, embR b] := rfl
    generalize embR ((.ope a b)) = S at *
    simp [f__law_size, b__law_size, i0, tagR, cmp_str, in4, sl, i1, ih, ih2, loopL, fitF_ok, isT, isT_s, isT_i, sum1, sum2, add_i, szR]
  | .unl a b, n + 1, hf, h3 => by
    have ih := lsize_ok a n hf.1 (by simp [dR] at h3; omega)
    have ih2 := lsize_ok b n hf.2 (by simp [dR] at h3; omega)
    have i0 := ixR0 ((.unl a b)) W
    have sl : slice (embR (.unl a b)) (some 1) none = some (.tup [embR a, embR b]) := slR2 _ _ _
    have i1 : items (.tup [embR a, embR b]) = some [embR a, embR b] := rfl
    generalize embR ((.unl a b)) = S at *
    simp [f__law_size, b__law_size, i0, tagR, cmp_str, in4, sl, i1, ih, ih2, loopL, fitF_ok, isT, isT_s, isT_i, sum1, sum2, add_i, szR]
  | .hsh a, n + 1, hf, h3 => by
    have ih := lsize_ok a n hf (by simp [dR] at h3; omega)
    have i0 := ixR0 ((.hsh a)) W
    have sl : slice (embR (.hsh a)) (some 1) none = some (.tup [embR a]) := slR1 _ _
    have i1 : items (.tup [embR a]) = some [embR a] := rfl
    generalize embR ((.hsh a)) = S at *
    simp [f__law_size, b__law_size, i0, tagR, cmp_str, in4, sl, i1, ih, loopL, fitF_ok, isT, isT_s, isT_i, sum1, sum2, add_i, szR]
  | .fst a, n + 1, hf, h3 => by
    have ih := lsize_ok a n hf (by simp [dR] at h3; omega)
    have i0 := ixR0 ((.fst a)) W
    have sl : slice (embR (.fst a)) (some 1) none = some (.tup [embR a]) := slR1 _ _
    have i1 : items (.tup [embR a]) = some [embR a] := rfl
    generalize embR ((.fst a)) = S at *
    simp [f__law_size, b__law_size, i0, tagR, cmp_str, in4, sl, i1, ih, loopL, fitF_ok, isT, isT_s, isT_i, sum1, sum2, add_i, szR]
  | .snd a, n + 1, hf, h3 => by
    have ih := lsize_ok a n hf (by simp [dR] at h3; omega)
    have i0 := ixR0 ((.snd a)) W
    have sl : slice (embR (.snd a)) (some 1) none = some (.tup [embR a]) := slR1 _ _
    have i1 : items (.tup [embR a]) = some [embR a] := rfl
    generalize embR ((.snd a)) = S at *
    simp [f__law_size, b__law_size, i0, tagR, cmp_str, in4, sl, i1, ih, loopL, fitF_ok, isT, isT_s, isT_i, sum1, sum2, add_i, szR]
end
end K04
end
section
set_option linter.all false
set_option maxRecDepth 100000
set_option maxHeartbeats 4000000
/-! k04: is_recipe. -/
namespace K04
open Rx Rx.Tr
abbrev pq : List (List Nat) := [[112], [113]]
abbrev pubs : List Tm := [.num 0, .nam [97], .txt [121, 101, 115], .num 1]
def okR (m : Nat) : Rc → Prop
  | .at' i => i < m
  | .pub t => t ∈ pubs
  | .jo1 a => okR m a
  | .jo2 a b => okR m a ∧ okR m b
  | .lck s a => s ∈ pq ∧ okR m a
  | .bye s a => s ∈ pq ∧ okR m a
  | .shr a i j => (1 ≤ i ∧ i ≤ 9 ∧ 1 ≤ j ∧ j ≤ 9) ∧ okR m a
  | .pai a b => okR m a ∧ okR m b
  | .sea a b => okR m a ∧ okR m b
  | .sgn a b => okR m a ∧ okR m b
  | .ope a b => okR m a ∧ okR m b
  | .unl a b => okR m a ∧ okR m b
  | .hsh a => okR m a
  | .fst a => okR m a
  | .snd a => okR m a
theorem okR.fit {m : Nat} : ∀ {r : Rc}, okR m r → fitR m r
  | .at' i, h => h
  | .pub t, h => by
    have h : t ∈ pubs := h
    simp only [List.mem_cons, List.not_mem_nil, or_false] at h
    rcases h with rfl | rfl | rfl | rfl <;> rfl
  | .jo1 a, h => okR.fit (r := a) h
  | .jo2 a b, h => ⟨okR.fit h.1, okR.fit h.2⟩
  | .lck s a, h => okR.fit (r := a) h.2
  | .bye s a, h => okR.fit (r := a) h.2
  | .shr a i j, h => okR.fit (r := a) h.2
  | .pai a b, h => ⟨okR.fit h.1, okR.fit h.2⟩
  | .sea a b, h => ⟨okR.fit h.1, okR.fit h.2⟩
  | .sgn a b, h => ⟨okR.fit h.1, okR.fit h.2⟩
  | .ope a b, h => ⟨okR.fit h.1, okR.fit h.2⟩
  | .unl a b, h => ⟨okR.fit h.1, okR.fit h.2⟩
  | .hsh a, h => okR.fit (r := a) h
  | .fst a, h => okR.fit (r := a) h
  | .snd a, h => okR.fit (r := a) h
def lenR : Rc → Int
  | .at' _ => 2
  | .pub _ => 2
  | .jo1 _ => 2
  | .jo2 _ _ => 2
  | .lck _ _ => 3
  | .bye _ _ => 3
  | .shr _ _ _ => 4
  | .pai _ _ => 3
  | .sea _ _ => 3
  | .sgn _ _ => 3
  | .ope _ _ => 3
  | .unl _ _ => 3
  | .hsh _ => 2
  | .fst _ => 2
  | .snd _ => 2
theorem len_ok {m : Nat} {r : Rc} (h : fitR m r) : builtin .len (embR r) = some (.int (lenR r)) := by
  cases r <;> first | rfl | skip
  rename_i t
  have h : isPub t = true := h
  cases t <;> simp [isPub] at h <;> rfl
theorem row_ok {m : Nat} {r : Rc} (h : fitR m r) (k : Int) (W : Wd) : f_is_row [.d (embR r), .d (.int k)] W = .ok (.d (.bl (decide (lenR r = k)))) W := by
  have l := len_ok h
  have t := isT r
  generalize embR r = S at *
  simp [f_is_row, b_is_row, t, l, cmp_int]
theorem from_ok' {i a b : Int} (W : Wd) : f_is_from [.d (.int i), .d (.int a), .d (.int b)] W = .ok (.d (.bl (decide (a ≤ i ∧ i ≤ b)))) W := by
  have t1 : builtin .isInt (.int i) = some (.bl true) := rfl
  have t2 : builtin .isBool (.int i) = some (.bl false) := rfl
  have c : ∀ x y : Int, cmpop .le (.int x) (.int y) = some (decide (x ≤ y)) := fun _ _ => rfl
  by_cases h1 : a ≤ i
  · by_cases h2 : i ≤ b
    · simp [f_is_from, b_is_from, f_is_whole, b_is_whole, t1, t2, c, h1, h2]
    · simp [f_is_from, b_is_from, f_is_whole, b_is_whole, t1, t2, c, h1, h2]
  · simp [f_is_from, b_is_from, f_is_whole, b_is_whole, t1, t2, c, h1]
theorem name_pq {s : List Nat} (h : s ∈ pq) (W : Wd) : f_is_name [.d (.str s)] W = .ok (.d (.bl true)) W := by
  simp only [List.mem_cons, List.not_mem_nil, or_false] at h
  rcases h with rfl | rfl <;> rfl
theorem isS (s : List Nat) : builtin .isStr (.str s) = some (.bl true) := rfl
theorem atom_ok {m : Nat} {r : Rc} (h : okR m r) (hna : ∀ i, r ≠ .at' i) (W : Wd) : f_is_atom [.d (embR r)] W = .ok (.d (.bl (pubR r))) W := by
  have rw2 := row_ok h.fit 2 W
  have i0 := ixR0 r W
  have ex : extL (.tup [.str [107, 101, 121], .str [110, 111, 110, 99, 101], .str [115, 101, 99, 114, 101, 116]]) = some [.str [107, 101, 121], .str [110, 111, 110, 99, 101], .str [115, 101, 99, 114, 101, 116]] := rfl
  cases r with
  | at' i => exact absurd rfl (hna i)
  | pub t =>
    have h : t ∈ pubs := h
    simp only [List.mem_cons, List.not_mem_nil, or_false] at h
    have nA : f_is_name [.d (.str [97])] W = .ok (.d (.bl true)) W := rfl
    have wY : f_is_words [.d (.str [121, 101, 115])] W = .ok (.d (.bl true)) W := rfl
    have fr := fun i => from_ok' (i := i) (a := 0) (b := 1000000) W
    rcases h with rfl | rfl | rfl | rfl
    · have i1 : ixV (.d (embR (.pub (.num 0)))) (.int 1) W = .ok (.d (.int 0)) W := rfl
      generalize embR (.pub (.num 0)) = S at *
      simp [f_is_atom, b_is_atom, rw2, i0, i1, lenR, tagR, tag, isS, cmp_str, fr, pubR, isPub]
    · have i1 : ixV (.d (embR (.pub (.nam [97])))) (.int 1) W = .ok (.d (.str [97])) W := rfl
      generalize embR (.pub (.nam [97])) = S at *
      simp [f_is_atom, b_is_atom, rw2, i0, i1, lenR, tagR, tag, isS, cmp_str, nA, ex, in4, pubR, isPub]
    · have i1 : ixV (.d (embR (.pub (.txt [121, 101, 115])))) (.int 1) W = .ok (.d (.str [121, 101, 115])) W := rfl
      generalize embR (.pub (.txt [121, 101, 115])) = S at *
      simp [f_is_atom, b_is_atom, rw2, i0, i1, lenR, tagR, tag, isS, cmp_str, wY, pubR, isPub]
    · have i1 : ixV (.d (embR (.pub (.num 1)))) (.int 1) W = .ok (.d (.int 1)) W := rfl
      generalize embR (.pub (.num 1)) = S at *
      simp [f_is_atom, b_is_atom, rw2, i0, i1, lenR, tagR, tag, isS, cmp_str, fr, pubR, isPub]
  | _ => simp [f_is_atom, b_is_atom, rw2, i0, lenR, tagR, isS, cmp_str, ex, in4, pubR]
section
variable {m : Nat} {W : Wd}
theorem rec_ok : ∀ (r : Rc) (n : Nat), okR m r → dR r ≤ n → f_is_recipe n [.d (embR r), .d (.int (m : Int))] W = .ok (.d (.bl true)) W
  | r, 0, _, h => by have := dR_pos r; omega
  | .at' i, n + 1, hf, h3 => by
    have hf : i < m := hf
    have i0 := ixR0 (.at' i) W
    have rw2 := row_ok (r := .at' i) (m := m) hf 2 W
    have i1 : ixV (.d (embR (.at' i))) (.int 1) W = .ok (.d (.int (i : Int))) W := rfl
    have fr := from_ok' (i := (i : Int)) (a := 0) (b := (m : Int) - 1) W
    have e : decide ((0 : Int) ≤ (i : Int) ∧ (i : Int) ≤ (m : Int) - 1) = true := by simp; omega
    rw [e] at fr
    have sb : binop .sub (.int (m : Int)) (.int 1) = some (.int ((m : Int) - 1)) := rfl
    generalize embR (.at' i) = S at *
    simp [f_is_recipe, b_is_recipe, rw2, i0, i1, lenR, tagR, cmp_str, fr, sb]
  | .pub t, n + 1, hf, h3 => by
    have i0 := ixR0 (.pub t) W
    have rw2 := row_ok (okR.fit hf) 2 W
    have at' := atom_ok hf (fun i => by simp) W
    have pb := public_ok (okR.fit hf) W
    have hp : isPub t = true := okR.fit hf
    have ne : tag t ≠ [97, 116] := by cases t <;> simp [tag]
    generalize embR (.pub t) = S at *
    simp [f_is_recipe, b_is_recipe, rw2, i0, lenR, tagR, cmp_str, ne, at', pb, pubR, hp]
  | .pai a b, n + 1, hf, h3 => by
    have i0 := ixR0 (.pai a b) W
    have rw2 := row_ok (r := .pai a b) (okR.fit hf) 2 W
    have at2 := atom_ok (r := .pai a b) hf (fun i => by simp) W
    have tt := isT (.pai a b)
    have ll := len_ok (r := .pai a b) (okR.fit hf)
    have ih := rec_ok a n hf.1 (by simp [dR] at h3; omega)
    have ih2 := rec_ok b n hf.2 (by simp [dR] at h3; omega)
    have e1 : ixV (.d (embR (.pai a b))) (.int 1) W = .ok (.d (embR a)) W := rfl
    have e2 : ixV (.d (embR (.pai a b))) (.int 2) W = .ok (.d (embR b)) W := rfl
    generalize embR (.pai a b) = S at *
    simp [f_is_recipe, b_is_recipe, rw2, i0, lenR, tagR, cmp_str, at2, tt, ll, isS, cmp_int, cne_int, hit_mem, pubR, e1, e2, ih, ih2]
  | .sea a b, n + 1, hf, h3 => by
    have i0 := ixR0 (.sea a b) W
    have rw2 := row_ok (r := .sea a b) (okR.fit hf) 2 W
    have at2 := atom_ok (r := .sea a b) hf (fun i => by simp) W
    have tt := isT (.sea a b)
    have ll := len_ok (r := .sea a b) (okR.fit hf)
    have ih := rec_ok a n hf.1 (by simp [dR] at h3; omega)
    have ih2 := rec_ok b n hf.2 (by simp [dR] at h3; omega)
    have e1 : ixV (.d (embR (.sea a b))) (.int 1) W = .ok (.d (embR a)) W := rfl
    have e2 : ixV (.d (embR (.sea a b))) (.int 2) W = .ok (.d (embR b)) W := rfl
    generalize embR (.sea a b) = S at *
    simp [f_is_recipe, b_is_recipe, rw2, i0, lenR, tagR, cmp_str, at2, tt, ll, isS, cmp_int, cne_int, hit_mem, pubR, e1, e2, ih, ih2]
  | .sgn a b, n + 1, hf, h3 => by
    have i0 := ixR0 (.sgn a b) W
    have rw2 := row_ok (r := .sgn a b) (okR.fit hf) 2 W
    have at2 := atom_ok (r := .sgn a b) hf (fun i => by simp) W
    have tt := isT (.sgn a b)
    have ll := len_ok (r := .sgn a b) (okR.fit hf)
    have ih := rec_ok a n hf.1 (by simp [dR] at h3; omega)
    have ih2 := rec_ok b n hf.2 (by simp [dR] at h3; omega)
    have e1 : ixV (.d (embR (.sgn a b))) (.int 1) W = .ok (.d (embR a)) W := rfl
    have e2 : ixV (.d (embR (.sgn a b))) (.int 2) W = .ok (.d (embR b)) W := rfl
    generalize embR (.sgn a b) = S at *
    simp [f_is_recipe, b_is_recipe, rw2, i0, lenR, tagR, cmp_str, at2, tt, ll, isS, cmp_int, cne_int, hit_mem, pubR, e1, e2, ih, ih2]
  | .ope a b, n + 1, hf, h3 => by
    have i0 := ixR0 (.ope a b) W
    have rw2 := row_ok (r := .ope a b) (okR.fit hf) 2 W
    have at2 := atom_ok (r := .ope a b) hf (fun i => by simp) W
    have tt := isT (.ope a b)
    have ll := len_ok (r := .ope a b) (okR.fit hf)
    have ih := rec_ok a n hf.1 (by simp [dR] at h3; omega)
    have ih2 := rec_ok b n hf.2 (by simp [dR] at h3; omega)
    have e1 : ixV (.d (embR (.ope a b))) (.int 1) W = .ok (.d (embR a)) W := rfl
    have e2 : ixV (.d (embR (.ope a b))) (.int 2) W = .ok (.d (embR b)) W := rfl
    generalize embR (.ope a b) = S at *
    simp [f_is_recipe, b_is_recipe, rw2, i0, lenR, tagR, cmp_str, at2, tt, ll, isS, cmp_int, cne_int, hit_mem, pubR, e1, e2, ih, ih2]
  | .unl a b, n + 1, hf, h3 => by
    have i0 := ixR0 (.unl a b) W
    have rw2 := row_ok (r := .unl a b) (okR.fit hf) 2 W
    have at2 := atom_ok (r := .unl a b) hf (fun i => by simp) W
    have tt := isT (.unl a b)
    have ll := len_ok (r := .unl a b) (okR.fit hf)
    have ih := rec_ok a n hf.1 (by simp [dR] at h3; omega)
    have ih2 := rec_ok b n hf.2 (by simp [dR] at h3; omega)
    have e1 : ixV (.d (embR (.unl a b))) (.int 1) W = .ok (.d (embR a)) W := rfl
    have e2 : ixV (.d (embR (.unl a b))) (.int 2) W = .ok (.d (embR b)) W := rfl
    generalize embR (.unl a b) = S at *
    simp [f_is_recipe, b_is_recipe, rw2, i0, lenR, tagR, cmp_str, at2, tt, ll, isS, cmp_int, cne_int, hit_mem, pubR, e1, e2, ih, ih2]
  | .hsh a, n + 1, hf, h3 => by
    have i0 := ixR0 (.hsh a) W
    have rw2 := row_ok (r := .hsh a) (okR.fit hf) 2 W
    have at2 := atom_ok (r := .hsh a) hf (fun i => by simp) W
    have tt := isT (.hsh a)
    have ll := len_ok (r := .hsh a) (okR.fit hf)
    have ih := rec_ok a n hf (by simp [dR] at h3; omega)
    have e1 : ixV (.d (embR (.hsh a))) (.int 1) W = .ok (.d (embR a)) W := rfl
    generalize embR (.hsh a) = S at *
    simp [f_is_recipe, b_is_recipe, rw2, i0, lenR, tagR, cmp_str, at2, tt, ll, isS, cmp_int, cne_int, hit_mem, pubR, e1, ih]
  | .fst a, n + 1, hf, h3 => by
    have i0 := ixR0 (.fst a) W
    have rw2 := row_ok (r := .fst a) (okR.fit hf) 2 W
    have at2 := atom_ok (r := .fst a) hf (fun i => by simp) W
    have tt := isT (.fst a)
    have ll := len_ok (r := .fst a) (okR.fit hf)
    have ih := rec_ok a n hf (by simp [dR] at h3; omega)
    have e1 : ixV (.d (embR (.fst a))) (.int 1) W = .ok (.d (embR a)) W := rfl
    generalize embR (.fst a) = S at *
    simp [f_is_recipe, b_is_recipe, rw2, i0, lenR, tagR, cmp_str, at2, tt, ll, isS, cmp_int, cne_int, hit_mem, pubR, e1, ih]
  | .snd a, n + 1, hf, h3 => by
    have i0 := ixR0 (.snd a) W
    have rw2 := row_ok (r := .snd a) (okR.fit hf) 2 W
    have at2 := atom_ok (r := .snd a) hf (fun i => by simp) W
    have tt := isT (.snd a)
    have ll := len_ok (r := .snd a) (okR.fit hf)
    have ih := rec_ok a n hf (by simp [dR] at h3; omega)
    have e1 : ixV (.d (embR (.snd a))) (.int 1) W = .ok (.d (embR a)) W := rfl
    generalize embR (.snd a) = S at *
    simp [f_is_recipe, b_is_recipe, rw2, i0, lenR, tagR, cmp_str, at2, tt, ll, isS, cmp_int, cne_int, hit_mem, pubR, e1, ih]
  | .lck s a, n + 1, hf, h3 => by
    have i0 := ixR0 (.lck s a) W
    have rw2 := row_ok (r := .lck s a) (okR.fit hf) 2 W
    have at2 := atom_ok (r := .lck s a) hf (fun i => by simp) W
    have tt := isT (.lck s a)
    have ll := len_ok (r := .lck s a) (okR.fit hf)
    have ih := rec_ok a n hf.2 (by simp [dR] at h3; omega)
    have nm := name_pq hf.1 W
    have e1 : ixV (.d (embR (.lck s a))) (.int 1) W = .ok (.d (.str s)) W := rfl
    have e2 : ixV (.d (embR (.lck s a))) (.int 2) W = .ok (.d (embR a)) W := rfl
    generalize embR (.lck s a) = S at *
    simp [f_is_recipe, b_is_recipe, rw2, i0, lenR, tagR, cmp_str, at2, tt, ll, isS, cmp_int, cne_int, hit_mem, pubR, e1, e2, ih, nm]
  | .bye s a, n + 1, hf, h3 => by
    have i0 := ixR0 (.bye s a) W
    have rw2 := row_ok (r := .bye s a) (okR.fit hf) 2 W
    have at2 := atom_ok (r := .bye s a) hf (fun i => by simp) W
    have tt := isT (.bye s a)
    have ll := len_ok (r := .bye s a) (okR.fit hf)
    have ih := rec_ok a n hf.2 (by simp [dR] at h3; omega)
    have nm := name_pq hf.1 W
    have e1 : ixV (.d (embR (.bye s a))) (.int 1) W = .ok (.d (.str s)) W := rfl
    have e2 : ixV (.d (embR (.bye s a))) (.int 2) W = .ok (.d (embR a)) W := rfl
    generalize embR (.bye s a) = S at *
    simp [f_is_recipe, b_is_recipe, rw2, i0, lenR, tagR, cmp_str, at2, tt, ll, isS, cmp_int, cne_int, hit_mem, pubR, e1, e2, ih, nm]
  | .shr a i j, n + 1, hf, h3 => by
    have i0 := ixR0 (.shr a i j) W
    have rw2 := row_ok (r := .shr a i j) (okR.fit hf) 2 W
    have at2 := atom_ok (r := .shr a i j) hf (fun i => by simp) W
    have tt := isT (.shr a i j)
    have ll := len_ok (r := .shr a i j) (okR.fit hf)
    have ih := rec_ok a n hf.2 (by simp [dR] at h3; omega)
    have f1 := from_ok' (i := i) (a := 1) (b := 9) W
    have f2 := from_ok' (i := j) (a := 1) (b := 9) W
    rw [decide_eq_true ⟨hf.1.1, hf.1.2.1⟩] at f1
    rw [decide_eq_true ⟨hf.1.2.2.1, hf.1.2.2.2⟩] at f2
    have e1 : ixV (.d (embR (.shr a i j))) (.int 1) W = .ok (.d (embR a)) W := rfl
    have e2 : ixV (.d (embR (.shr a i j))) (.int 2) W = .ok (.d (.int i)) W := rfl
    have e3 : ixV (.d (embR (.shr a i j))) (.int 3) W = .ok (.d (.int j)) W := rfl
    generalize embR (.shr a i j) = S at *
    simp [f_is_recipe, b_is_recipe, rw2, i0, lenR, tagR, cmp_str, at2, tt, ll, isS, cmp_int, cne_int, hit_mem, pubR, e1, e2, e3, ih, f1, f2]
  | .jo1 a, n + 1, hf, h3 => by
    have i0 := ixR0 (.jo1 a) W
    have rw2 := row_ok (r := .jo1 a) (okR.fit hf) 2 W
    have at2 := atom_ok (r := .jo1 a) hf (fun i => by simp) W
    have tt := isT (.jo1 a)
    have ll := len_ok (r := .jo1 a) (okR.fit hf)
    have ih := rec_ok a n hf (by simp [dR] at h3; omega)
    have e1 : ixV (.d (embR (.jo1 a))) (.int 1) W = .ok (.d (.tup [embR a])) W := rfl
    have i1 : items (.tup [embR a]) = some [embR a] := rfl
    have t1 : builtin .isTuple (.tup [embR a]) = some (.bl true) := rfl
    have c1 : cmpop .eq (.tup [embR a]) (.tup []) = some false := by simp [cmpop, eqO, kt, eqKL, eqv, eqvL]
    generalize embR (.jo1 a) = S at *
    simp [f_is_recipe, b_is_recipe, rw2, i0, lenR, tagR, cmp_str, at2, tt, ll, isS, cmp_int, cne_int, hit_mem, pubR, e1, i1, t1, c1, loopL, fitF_ok, all1, all2, ih]
  | .jo2 a b, n + 1, hf, h3 => by
    have i0 := ixR0 (.jo2 a b) W
    have rw2 := row_ok (r := .jo2 a b) (okR.fit hf) 2 W
    have at2 := atom_ok (r := .jo2 a b) hf (fun i => by simp) W
    have tt := isT (.jo2 a b)
    have ll := len_ok (r := .jo2 a b) (okR.fit hf)
    have ih := rec_ok a n hf.1 (by simp [dR] at h3; omega)
    have ih2 := rec_ok b n hf.2 (by simp [dR] at h3; omega)
    have e1 : ixV (.d (embR (.jo2 a b))) (.int 1) W = .ok (.d (.tup [embR a, embR b])) W := rfl
    have i1 : items (.tup [embR a, embR b]) = some [embR a, embR b] := rfl
    have t1 : builtin .isTuple (.tup [embR a, embR b]) = some (.bl true) := rfl
    have c1 : cmpop .eq (.tup [embR a, embR b]) (.tup []) = some false := by simp [cmpop, eqO, kt, eqKL, eqv, eqvL]
    generalize embR (.jo2 a b) = S at *
    simp [f_is_recipe, b_is_recipe, rw2, i0, lenR, tagR, cmp_str, at2, tt, ll, isS, cmp_int, cne_int, hit_mem, pubR, e1, i1, t1, c1, loopL, fitF_ok, all1, all2, ih, ih2]
end
end K04
end
section
set_option linter.all false
set_option maxRecDepth 100000
set_option maxHeartbeats 4000000
/-! k04: what is drawn. -/
namespace K04
open Rx Rx.Tr
open Rx.Dr (wd)
theorem next_ok (ns : List Int) (k : Nat) (b : Int) (hb : 0 < b) : ∃ r : Int, 0 ≤ r ∧ r < b ∧ f__law_next [.o 0, .d (.int b)] (wd ns k) = .ok (.d (.int r)) (wd ns (k + 1)) := Dr.next_spec ns k b hb
theorem pick_ok (ns : List Int) (k : Nat) (xs : List PV) (h : xs ≠ []) : ∃ x ∈ xs, f__law_pick [.o 0, .d (.lst xs)] (wd ns k) = .ok (.d x) (wd ns (k + 1)) := Dr.pick_lst ns k xs h
theorem pick2 (ns : List Int) (k : Nat) (a b : List Nat) : ∃ s, (s = a ∨ s = b) ∧ f__law_pick [.o 0, .d (.lst [.str a, .str b])] (wd ns k) = .ok (.d (.str s)) (wd ns (k + 1)) := by
  obtain ⟨x, h1, h2⟩ := pick_ok ns k [.str a, .str b] (by simp)
  simp only [List.mem_cons, List.not_mem_nil, or_false] at h1
  rcases h1 with rfl | rfl
  · exact ⟨a, .inl rfl, h2⟩
  · exact ⟨b, .inr rfl, h2⟩
theorem pick3 (ns : List Int) (k : Nat) (a b c : List Nat) : ∃ s, f__law_pick [.o 0, .d (.lst [.str a, .str b, .str c])] (wd ns k) = .ok (.d (.str s)) (wd ns (k + 1)) := by
  obtain ⟨x, h1, h2⟩ := pick_ok ns k [.str a, .str b, .str c] (by simp)
  simp only [List.mem_cons, List.not_mem_nil, or_false] at h1
  rcases h1 with rfl | rfl | rfl
  · exact ⟨a, h2⟩
  · exact ⟨b, h2⟩
  · exact ⟨c, h2⟩
theorem ini2 (r a b : Int) : cmpop .inn (.int r) (.tup [.int a, .int b]) = some (decide (r = a ∨ r = b)) := by
  simp [cmpop, inO, memK, memL, kii, eqv, eq_comm]
theorem gt_i (a b : Int) : cmpop .gt (.int a) (.int b) = some (decide (b < a)) := rfl
theorem lt_i (a b : Int) : cmpop .lt (.int a) (.int b) = some (decide (a < b)) := rfl
theorem sub_i (a b : Int) : binop .sub (.int a) (.int b) = some (.int (a - b)) := rfl

theorem drawn_term (ns : List Int) : ∀ (deep n k : Nat), deep + 1 ≤ n → ∃ (t : Tm) (k' : Nat), dp t ≤ deep + 1 ∧ f__law_term n [.o 0, .d (.int (deep : Int))] (wd ns k) = .ok (.d (emb t)) (wd ns k')
  | _, 0, _, h => by omega
  | 0, n + 1, k, h => by
    obtain ⟨r, r0, r1, h1⟩ := next_ok ns k 7 (by decide)
    have cases7 : r = 0 ∨ r = 1 ∨ r = 2 ∨ r = 3 ∨ r = 4 ∨ r = 5 ∨ r = 6 := by omega
    rcases cases7 with rfl | rfl | rfl | rfl | rfl | rfl | rfl
    · obtain ⟨s, _, p⟩ := pick2 ns (k + 1) [97] [98]
      exact ⟨.nam s, k + 2, by simp [dp], by simp [f__law_term, b__law_term, gt_i, lt_i, sub_i, add_i, h1, cmp_int, ini2, p, emb]⟩
    · obtain ⟨s, _, _, p⟩ := next_ok ns (k + 1) 3 (by decide)
      exact ⟨.num s, k + 2, by simp [dp], by simp [f__law_term, b__law_term, gt_i, lt_i, sub_i, add_i, h1, cmp_int, ini2, p, emb]⟩
    · obtain ⟨s, p⟩ := pick3 ns (k + 1) [] [121, 101, 115] [110, 111]
      exact ⟨.txt s, k + 2, by simp [dp], by simp [f__law_term, b__law_term, gt_i, lt_i, sub_i, add_i, h1, cmp_int, ini2, p, emb]⟩
    · obtain ⟨s, _, p⟩ := pick2 ns (k + 1) [107] [108]
      exact ⟨.key s, k + 2, by simp [dp], by simp [f__law_term, b__law_term, gt_i, lt_i, sub_i, add_i, h1, cmp_int, ini2, p, emb]⟩
    · obtain ⟨s, _, p⟩ := pick2 ns (k + 1) [107] [108]
      exact ⟨.key s, k + 2, by simp [dp], by simp [f__law_term, b__law_term, gt_i, lt_i, sub_i, add_i, h1, cmp_int, ini2, p, emb]⟩
    · obtain ⟨s, _, p⟩ := pick2 ns (k + 1) [109] [110]
      exact ⟨.non s, k + 2, by simp [dp], by simp [f__law_term, b__law_term, gt_i, lt_i, sub_i, add_i, h1, cmp_int, ini2, p, emb]⟩
    · obtain ⟨s, _, p⟩ := pick2 ns (k + 1) [112] [113]
      exact ⟨.sec s, k + 2, by simp [dp], by simp [f__law_term, b__law_term, gt_i, lt_i, sub_i, add_i, h1, cmp_int, ini2, p, emb]⟩
  | deep + 1, n + 1, k, h => by
    obtain ⟨r, r0, r1, h1⟩ := next_ok ns k 16 (by decide)
    have hd : (0 : Int) < (deep : Int) + 1 := by omega
    have hs : ((deep : Int) + 1) - 1 = (deep : Int) := by omega
    obtain ⟨t, k2, t1, t2⟩ := drawn_term ns deep n (k + 1) (by omega)
    have hc : r = 0 ∨ r = 1 ∨ r = 2 ∨ r = 3 ∨ r = 4 ∨ r = 5 ∨ r = 6 ∨ r = 7 ∨ r = 8 ∨ r = 9 ∨ r = 10 ∨ r = 11 ∨ r = 12 ∨ r = 13 ∨ r = 14 ∨ r = 15 := by omega
    rcases hc with rfl | rfl | rfl | rfl | rfl | rfl | rfl | rfl | rfl | rfl | rfl | rfl | rfl | rfl | rfl | rfl
    · obtain ⟨s, _, p⟩ := pick2 ns (k + 1) [97] [98]
      exact ⟨.nam s, k + 2, by simp [dp], by simp [f__law_term, b__law_term, gt_i, lt_i, sub_i, add_i, h1, cmp_int, ini2, hd, hs, t2, p, emb]⟩
    · obtain ⟨s, _, _, p⟩ := next_ok ns (k + 1) 3 (by decide)
      exact ⟨.num s, k + 2, by simp [dp], by simp [f__law_term, b__law_term, gt_i, lt_i, sub_i, add_i, h1, cmp_int, ini2, hd, hs, t2, p, emb]⟩
    · obtain ⟨s, p⟩ := pick3 ns (k + 1) [] [121, 101, 115] [110, 111]
      exact ⟨.txt s, k + 2, by simp [dp], by simp [f__law_term, b__law_term, gt_i, lt_i, sub_i, add_i, h1, cmp_int, ini2, hd, hs, t2, p, emb]⟩
    · obtain ⟨s, _, p⟩ := pick2 ns (k + 1) [107] [108]
      exact ⟨.key s, k + 2, by simp [dp], by simp [f__law_term, b__law_term, gt_i, lt_i, sub_i, add_i, h1, cmp_int, ini2, hd, hs, t2, p, emb]⟩
    · obtain ⟨s, _, p⟩ := pick2 ns (k + 1) [107] [108]
      exact ⟨.key s, k + 2, by simp [dp], by simp [f__law_term, b__law_term, gt_i, lt_i, sub_i, add_i, h1, cmp_int, ini2, hd, hs, t2, p, emb]⟩
    · obtain ⟨s, _, p⟩ := pick2 ns (k + 1) [109] [110]
      exact ⟨.non s, k + 2, by simp [dp], by simp [f__law_term, b__law_term, gt_i, lt_i, sub_i, add_i, h1, cmp_int, ini2, hd, hs, t2, p, emb]⟩
    · obtain ⟨s, _, p⟩ := pick2 ns (k + 1) [112] [113]
      exact ⟨.sec s, k + 2, by simp [dp], by simp [f__law_term, b__law_term, gt_i, lt_i, sub_i, add_i, h1, cmp_int, ini2, hd, hs, t2, p, emb]⟩
    · exact ⟨.hsh t, k2, by simp [dp]; omega, by simp [f__law_term, b__law_term, gt_i, lt_i, sub_i, add_i, h1, cmp_int, ini2, hd, hs, t2, emb]⟩
    · exact ⟨.hsh t, k2, by simp [dp]; omega, by simp [f__law_term, b__law_term, gt_i, lt_i, sub_i, add_i, h1, cmp_int, ini2, hd, hs, t2, emb]⟩
    · obtain ⟨s, _, p⟩ := pick2 ns k2 [112] [113]
      exact ⟨.lck s t, k2 + 1, by simp [dp]; omega, by simp [f__law_term, b__law_term, gt_i, lt_i, sub_i, add_i, h1, cmp_int, ini2, hd, hs, t2, p, emb]⟩
    · obtain ⟨s, _, p⟩ := pick2 ns k2 [112] [113]
      exact ⟨.sgn s t, k2 + 1, by simp [dp]; omega, by simp [f__law_term, b__law_term, gt_i, lt_i, sub_i, add_i, h1, cmp_int, ini2, hd, hs, t2, p, emb]⟩
    · obtain ⟨i, _, _, p⟩ := next_ok ns k2 3 (by decide)
      obtain ⟨j, _, _, q⟩ := next_ok ns (k2 + 1) 2 (by decide)
      exact ⟨.shr t (1 + i) (1 + j), k2 + 2, by simp [dp]; omega, by simp [f__law_term, b__law_term, gt_i, lt_i, sub_i, add_i, h1, cmp_int, ini2, hd, hs, t2, p, q, emb]⟩
    · obtain ⟨u, k3, u1, u2⟩ := drawn_term ns deep n k2 (by omega)
      exact ⟨.pai t u, k3, by simp [dp]; omega, by simp [f__law_term, b__law_term, gt_i, lt_i, sub_i, add_i, h1, cmp_int, ini2, hd, hs, t2, u2, emb]⟩
    · obtain ⟨u, k3, u1, u2⟩ := drawn_term ns deep n k2 (by omega)
      exact ⟨.pai t u, k3, by simp [dp]; omega, by simp [f__law_term, b__law_term, gt_i, lt_i, sub_i, add_i, h1, cmp_int, ini2, hd, hs, t2, u2, emb]⟩
    · obtain ⟨u, k3, u1, u2⟩ := drawn_term ns deep n k2 (by omega)
      exact ⟨.sea t u, k3, by simp [dp]; omega, by simp [f__law_term, b__law_term, gt_i, lt_i, sub_i, add_i, h1, cmp_int, ini2, hd, hs, t2, u2, emb]⟩
    · obtain ⟨u, k3, u1, u2⟩ := drawn_term ns deep n k2 (by omega)
      exact ⟨.sea t u, k3, by simp [dp]; omega, by simp [f__law_term, b__law_term, gt_i, lt_i, sub_i, add_i, h1, cmp_int, ini2, hd, hs, t2, u2, emb]⟩
theorem pick_pub (ns : List Int) (k : Nat) : ∃ t ∈ pubs, f__law_pick [.o 0, .d (.lst [.tup [.str [110, 117, 109, 98, 101, 114], .int 0], .tup [.str [110, 97, 109, 101], .str [97]], .tup [.str [116, 101, 120, 116], .str [121, 101, 115]], .tup [.str [110, 117, 109, 98, 101, 114], .int 1]])] (wd ns k) = .ok (.d (emb t)) (wd ns (k + 1)) := by
  obtain ⟨x, h1, h2⟩ := pick_ok ns k _ (show [PV.tup [.str [110, 117, 109, 98, 101, 114], .int 0], .tup [.str [110, 97, 109, 101], .str [97]], .tup [.str [116, 101, 120, 116], .str [121, 101, 115]], .tup [.str [110, 117, 109, 98, 101, 114], .int 1]] ≠ [] by simp)
  simp only [List.mem_cons, List.not_mem_nil, or_false] at h1
  rcases h1 with rfl | rfl | rfl | rfl
  · exact ⟨.num 0, by simp, h2⟩
  · exact ⟨.nam [97], by simp, h2⟩
  · exact ⟨.txt [121, 101, 115], by simp, h2⟩
  · exact ⟨.num 1, by simp, h2⟩
theorem words_ix (W : Wd) (i : Nat) (h : i < 11) : ixV (.d (.lst [.str [112, 97, 105, 114], .str [115, 101, 97, 108], .str [104, 97, 115, 104], .str [108, 111, 99, 107], .str [115, 104, 97, 114, 101], .str [115, 105, 103, 110], .str [102, 105, 114, 115, 116], .str [115, 101, 99, 111, 110, 100], .str [111, 112, 101, 110], .str [117, 110, 108, 111, 99, 107], .str [98, 121]])) (.int (i : Int)) W = .ok (.d (.str (([[112, 97, 105, 114], [115, 101, 97, 108], [104, 97, 115, 104], [108, 111, 99, 107], [115, 104, 97, 114, 101], [115, 105, 103, 110], [102, 105, 114, 115, 116], [115, 101, 99, 111, 110, 100], [111, 112, 101, 110], [117, 110, 108, 111, 99, 107], [98, 121]] : List (List Nat)).getD i []))) W := by
  match i, h with
  | 0, _ => rfl
  | 1, _ => rfl
  | 2, _ => rfl
  | 3, _ => rfl
  | 4, _ => rfl
  | 5, _ => rfl
  | 6, _ => rfl
  | 7, _ => rfl
  | 8, _ => rfl
  | 9, _ => rfl
  | 10, _ => rfl
  | i + 11, h => omega
theorem sl_pair (x y : PV) (i : Int) : slice (.tup [x, y]) none (some (1 + i)) = if i = 0 then some (.tup [x]) else if i = 1 then some (.tup [x, y]) else slice (.tup [x, y]) none (some (1 + i)) := by
  by_cases h : i = 0
  · subst h; simp [slice, endO, clip, cut]
  · by_cases h2 : i = 1
    · subst h2; simp [slice, endO, clip, cut]
    · rw [if_neg h, if_neg h2]
theorem drawn_recipe (ns : List Int) {m : Nat} (hm : 0 < m) : ∀ (deep n k : Nat), deep + 1 ≤ n → ∃ (r : Rc) (k' : Nat), okR m r ∧ dR r ≤ deep + 1 ∧ f__law_recipe n [.o 0, .d (.int (m : Int)), .d (.int (deep : Int))] (wd ns k) = .ok (.d (embR r)) (wd ns k')
  | _, 0, _, h => by omega
  | 0, n + 1, k, h => by
    obtain ⟨r, r0, r1, h1⟩ := next_ok ns k 3 (by decide)
    have hm' : (0 : Int) < (m : Int) := by omega
    by_cases q : r < 2
    · obtain ⟨i, i0, i1, p⟩ := next_ok ns (k + 1) m hm'
      have ei : ((i.toNat : Nat) : Int) = i := by omega
      exact ⟨.at' i.toNat, k + 2, by show i.toNat < m; omega, by simp [dR], by simp [f__law_recipe, b__law_recipe, gt_i, lt_i, sub_i, h1, q, hm', hm, p, embR, ei]⟩
    · obtain ⟨t, ht, p⟩ := pick_pub ns (k + 1)
      have q3 : r < 3 := r1
      exact ⟨.pub t, k + 2, ht, by simp [dR], by simp [f__law_recipe, b__law_recipe, gt_i, lt_i, sub_i, h1, q, q3, p, embR]⟩
  | deep + 1, n + 1, k, h => by
    obtain ⟨r, r0, r1, h1⟩ := next_ok ns k 14 (by decide)
    have hm' : (0 : Int) < (m : Int) := by omega
    have hd : (0 : Int) < (deep : Int) + 1 := by omega
    have hs : ((deep : Int) + 1) - 1 = (deep : Int) := by omega
    by_cases q : r < 2
    · obtain ⟨i, i0, i1, p⟩ := next_ok ns (k + 1) m hm'
      have ei : ((i.toNat : Nat) : Int) = i := by omega
      exact ⟨.at' i.toNat, k + 2, by show i.toNat < m; omega, by simp [dR], by simp [f__law_recipe, b__law_recipe, gt_i, lt_i, sub_i, h1, hd, q, hm', hm, p, embR, ei]⟩
    by_cases q3 : r < 3
    · obtain ⟨t, ht, p⟩ := pick_pub ns (k + 1)
      exact ⟨.pub t, k + 2, ht, by simp [dR], by simp [f__law_recipe, b__law_recipe, gt_i, lt_i, sub_i, h1, hd, q, q3, p, embR]⟩
    obtain ⟨a, k2, a1, a2, a3⟩ := drawn_recipe ns hm deep n (k + 1) (by omega)
    obtain ⟨b, k3, b1, b2, b3⟩ := drawn_recipe ns hm deep n k2 (by omega)
    have wi := words_ix (wd ns k3)
    have hc : r = 3 ∨ r = 4 ∨ r = 5 ∨ r = 6 ∨ r = 7 ∨ r = 8 ∨ r = 9 ∨ r = 10 ∨ r = 11 ∨ r = 12 ∨ r = 13 := by omega
    clear r0 r1 q q3
    rcases hc with rfl | rfl | rfl | rfl | rfl | rfl | rfl | rfl | rfl | rfl | rfl
    · have w0 := wi 0 (by decide)
      exact ⟨.pai a b, k3, ⟨a1, b1⟩, by simp [dR]; omega, by simp at w0; simp [f__law_recipe, b__law_recipe, gt_i, lt_i, sub_i, add_i, h1, hd, hs, a3, b3, in3, in2, cmp_str, w0, embR]⟩
    · have w0 := wi 1 (by decide)
      exact ⟨.sea a b, k3, ⟨a1, b1⟩, by simp [dR]; omega, by simp at w0; simp [f__law_recipe, b__law_recipe, gt_i, lt_i, sub_i, add_i, h1, hd, hs, a3, b3, in3, in2, cmp_str, w0, embR]⟩
    · have w0 := wi 2 (by decide)
      exact ⟨.hsh a, k3, a1, by simp [dR]; omega, by simp at w0; simp [f__law_recipe, b__law_recipe, gt_i, lt_i, sub_i, add_i, h1, hd, hs, a3, b3, in3, in2, cmp_str, w0, embR]⟩
    · have w0 := wi 3 (by decide)
      obtain ⟨s, s1, p⟩ := pick2 ns k3 [112] [113]
      exact ⟨.lck s a, k3 + 1, ⟨by simpa using s1, a1⟩, by simp [dR]; omega, by simp at w0; simp [f__law_recipe, b__law_recipe, gt_i, lt_i, sub_i, add_i, h1, hd, hs, a3, b3, in3, in2, cmp_str, w0, p, embR]⟩
    · have w0 := wi 4 (by decide)
      simp at w0
      obtain ⟨z, z0, z1, p⟩ := next_ok ns k3 2 (by decide)
      by_cases qz : z = 0
      · obtain ⟨i, i0, i1, p1⟩ := next_ok ns (k3 + 1) 3 (by decide)
        obtain ⟨j, j0, j1, p2⟩ := next_ok ns (k3 + 2) 2 (by decide)
        exact ⟨.shr a (1 + i) (1 + j), k3 + 3, ⟨⟨by omega, by omega, by omega, by omega⟩, a1⟩, by simp [dR]; omega, by simp [f__law_recipe, b__law_recipe, gt_i, lt_i, sub_i, add_i, h1, hd, hs, a3, b3, in3, in2, cmp_str, w0, p, qz, cmp_int, p1, p2, embR]⟩
      · obtain ⟨i, i0, i1, p1⟩ := next_ok ns (k3 + 1) 2 (by decide)
        have sl := sl_pair (embR a) (embR b) i
        by_cases qi : i = 0
        · subst qi
          rw [if_pos rfl] at sl
          simp at sl
          exact ⟨.jo1 a, k3 + 2, a1, by simp [dR]; omega, by simp [f__law_recipe, b__law_recipe, gt_i, lt_i, sub_i, add_i, h1, hd, hs, a3, b3, in3, in2, cmp_str, w0, p, qz, cmp_int, p1, sl, embR]⟩
        · have e1 : i = 1 := by omega
          subst e1
          rw [if_neg (by decide), if_pos rfl] at sl
          simp at sl
          exact ⟨.jo2 a b, k3 + 2, ⟨a1, b1⟩, by simp [dR]; omega, by simp [f__law_recipe, b__law_recipe, gt_i, lt_i, sub_i, add_i, h1, hd, hs, a3, b3, in3, in2, cmp_str, w0, p, qz, cmp_int, p1, sl, embR]⟩
    · have w0 := wi 5 (by decide)
      exact ⟨.sgn a b, k3, ⟨a1, b1⟩, by simp [dR]; omega, by simp at w0; simp [f__law_recipe, b__law_recipe, gt_i, lt_i, sub_i, add_i, h1, hd, hs, a3, b3, in3, in2, cmp_str, w0, embR]⟩
    · have w0 := wi 6 (by decide)
      exact ⟨.fst a, k3, a1, by simp [dR]; omega, by simp at w0; simp [f__law_recipe, b__law_recipe, gt_i, lt_i, sub_i, add_i, h1, hd, hs, a3, b3, in3, in2, cmp_str, w0, embR]⟩
    · have w0 := wi 7 (by decide)
      exact ⟨.snd a, k3, a1, by simp [dR]; omega, by simp at w0; simp [f__law_recipe, b__law_recipe, gt_i, lt_i, sub_i, add_i, h1, hd, hs, a3, b3, in3, in2, cmp_str, w0, embR]⟩
    · have w0 := wi 8 (by decide)
      exact ⟨.ope a b, k3, ⟨a1, b1⟩, by simp [dR]; omega, by simp at w0; simp [f__law_recipe, b__law_recipe, gt_i, lt_i, sub_i, add_i, h1, hd, hs, a3, b3, in3, in2, cmp_str, w0, embR]⟩
    · have w0 := wi 9 (by decide)
      exact ⟨.unl a b, k3, ⟨a1, b1⟩, by simp [dR]; omega, by simp at w0; simp [f__law_recipe, b__law_recipe, gt_i, lt_i, sub_i, add_i, h1, hd, hs, a3, b3, in3, in2, cmp_str, w0, embR]⟩
    · have w0 := wi 10 (by decide)
      obtain ⟨s, s1, p⟩ := pick2 ns k3 [112] [113]
      exact ⟨.bye s a, k3 + 1, ⟨by simpa using s1, a1⟩, by simp [dR]; omega, by simp at w0; simp [f__law_recipe, b__law_recipe, gt_i, lt_i, sub_i, add_i, h1, hd, hs, a3, b3, in3, in2, cmp_str, w0, p, embR]⟩
end K04
end
section
set_option linter.all false
set_option maxRecDepth 100000
set_option maxHeartbeats 4000000
/-! k04: holds, is_test, what is no recipe. -/
namespace K04
open Rx Rx.Tr
open Rx.Dr (wd)
def hv (ts : List Tm) (a b : Rc) : Bool := (rn ts a).isSome && decide (rn ts a = rn ts b)
structure Fr (m : Nat) (ts : List Tm) : Prop where
  len : ts.length = m
  dp : ∀ t ∈ ts, dp t ≤ 4
theorem ne_bl (a b : Bool) : cmpop .ne (.bl a) (.bl b) = some (a != b) := by
  cases a <;> cases b <;> simp [cmpop, eqO, eqK, eqv]
section
variable {m : Nat} {ts us : List Tm} {a b : Rc} (ht : Fr m ts) (hu : Fr m us) (ha : okR m a) (hb : okR m b) (da : dR a ≤ 4) (db : dR b ≤ 4) (W : Wd)
include ht in
theorem fit_of {r : Rc} (h : okR m r) : fitR ts.length r := by rw [ht.len]; exact h.fit
include ht ha da in
theorem run_a : f_run 12 [.d (embR a), .d (.tup (ts.map emb))] W = .ok (.d (ov (rn ts a))) W := run_ok ht.dp (by decide) (by decide) a 12 (fit_of ht ha) (by omega) (by omega)
include ht ha da in
theorem lrun_a : f__law_run 12 [.d (embR a), .d (.tup (ts.map emb))] W = .ok (.d (ov (rn ts a))) W := lrun_ok ht.dp (by decide) (by decide) a 12 (fit_of ht ha) (by omega) (by omega)
include ht ha da in
theorem dp_a : ∀ t, rn ts a = some t → dp t ≤ 99 := fun t e => by have := dp_rn ht.dp (by decide) a t (fit_of ht ha) e; omega
include ht ha hb da db in
theorem holds_ok : f_holds [.d (.tup [embR a, embR b]), .d (.tup (ts.map emb))] W = .ok (.d (.bl (hv ts a b))) W := by
  have r1 := run_a ht ha da W
  have r2 := run_a ht hb db W
  have e1 : ixV (.d (.tup [embR a, embR b])) (.int 0) W = .ok (.d (embR a)) W := rfl
  have e2 : ixV (.d (.tup [embR a, embR b])) (.int 1) W = .ok (.d (embR b)) W := rfl
  have nn := notn_ov (rn ts a)
  have ce := cmp_ov (b := rn ts b) (dp_a ht ha da)
  generalize ts.map emb = T at *
  unfold hv
  generalize rn ts a = x at *
  generalize rn ts b = y at *
  generalize hx : ov x = X at *
  generalize hy : ov y = Y at *
  cases h : x.isSome with
  | true =>
    rw [h] at nn
    simp [f_holds, b_holds, r1, r2, e1, e2, nn, ce]
  | false =>
    rw [h] at nn
    simp [f_holds, b_holds, r1, r2, e1, e2, nn]
theorem rowT (xs : List PV) (k : Int) (W : Wd) : f_is_row [.d (.tup xs), .d (.int k)] W = .ok (.d (.bl (decide ((xs.length : Int) = k)))) W := by
  have t : builtin .isTuple (.tup xs) = some (.bl true) := rfl
  have l : builtin .len (.tup xs) = some (.int (xs.length : Int)) := rfl
  simp [f_is_row, b_is_row, t, l, cmp_int]
theorem lenT (xs : List PV) : builtin .len (.tup xs) = some (.int (xs.length : Int)) := rfl
theorem lenM (ts : List Tm) : builtin .len (.tup (ts.map emb)) = some (.int (ts.length : Int)) := by rw [lenT, List.length_map]
include ht hu ha hb da db in
theorem test_ok : f_is_test [.d (.tup [embR a, embR b]), .d (.tup (ts.map emb)), .d (.tup (us.map emb))] W = .ok (.d (.bl (hv ts a b != hv us a b))) W := by
  have h1 := holds_ok ht ha hb da db W
  have h2 := holds_ok hu ha hb da db W
  have r1 := rec_ok (W := W) a 12 ha (by omega)
  have r2 := rec_ok (W := W) b 12 hb (by omega)
  have l1 := lenM ts
  have l2 := lenM us
  have rt := rowT [embR a, embR b] 2 W
  have i1 : items (.tup [embR a, embR b]) = some [embR a, embR b] := rfl
  rw [ht.len] at l1
  rw [hu.len] at l2
  generalize ts.map emb = T at *
  generalize us.map emb = U at *
  simp [f_is_test, b_is_test, h1, h2, l1, l2, cne_int, rt, i1, loopL, r1, r2, fitF_ok, all2, ne_bl]
include ht hu ha da in
theorem test_bad {x : PV} (hx : f_is_recipe 12 [.d x, .d (.int (m : Int))] W = .ok (.d (.bl false)) W) : f_is_test [.d (.tup [embR a, x]), .d (.tup (ts.map emb)), .d (.tup (us.map emb))] W = .ok (.d (.bl false)) W := by
  have r1 := rec_ok (W := W) a 12 ha (by omega)
  have l1 := lenM ts
  have l2 := lenM us
  have rt := rowT [embR a, x] 2 W
  have i1 : items (.tup [embR a, x]) = some [embR a, x] := rfl
  rw [ht.len] at l1
  rw [hu.len] at l2
  generalize ts.map emb = T at *
  generalize us.map emb = U at *
  simp [f_is_test, b_is_test, l1, l2, cne_int, rt, i1, loopL, r1, hx, fitF_ok, all2]
end
/-! ### what is no recipe -/
theorem row_no {x : PV} (h : builtin .isTuple x = some (.bl false)) (k : PV) (W : Wd) : f_is_row [.d x, .d k] W = .ok (.d (.bl false)) W := by
  simp [f_is_row, b_is_row, h]
theorem rec_nt {x : PV} (h : builtin .isTuple x = some (.bl false)) (n : Nat) (m : PV) (W : Wd) : f_is_recipe (n + 1) [.d x, .d m] W = .ok (.d (.bl false)) W := by
  have r := row_no h (.int 2) W
  simp [f_is_recipe, b_is_recipe, r, f_is_atom, b_is_atom, h]
theorem ixT0 (x : PV) (xs : List PV) (W : Wd) : ixV (.d (.tup (x :: xs))) (.int 0) W = .ok (.d x) W := by
  show R.of (((place 0 (x :: xs).length).bind (nthO (x :: xs))).map Val.d) W = _
  have : place 0 (x :: xs).length = some 0 := by
    unfold place
    rw [if_pos (by decide), if_pos (by rw [List.length_cons]; omega)]; rfl
  rw [this]; rfl
theorem ixT1 (x y : PV) (xs : List PV) (W : Wd) : ixV (.d (.tup (x :: y :: xs))) (.int 1) W = .ok (.d y) W := by
  show R.of (((place 1 (x :: y :: xs).length).bind (nthO (x :: y :: xs))).map Val.d) W = _
  have : place 1 (x :: y :: xs).length = some 1 := by
    unfold place
    rw [if_pos (by decide), if_pos (by rw [List.length_cons, List.length_cons]; omega)]; rfl
  rw [this]; rfl
theorem ixT2 (x y z : PV) (xs : List PV) (W : Wd) : ixV (.d (.tup (x :: y :: z :: xs))) (.int 2) W = .ok (.d z) W := by
  show R.of (((place 2 (x :: y :: z :: xs).length).bind (nthO (x :: y :: z :: xs))).map Val.d) W = _
  have : place 2 (x :: y :: z :: xs).length = some 2 := by
    unfold place
    rw [if_pos (by decide), if_pos (by rw [List.length_cons, List.length_cons, List.length_cons]; omega)]; rfl
  rw [this]; rfl
theorem isTT (xs : List PV) : builtin .isTuple (.tup xs) = some (.bl true) := rfl
theorem ex3 : extL (.tup [.str [107, 101, 121], .str [110, 111, 110, 99, 101], .str [115, 101, 99, 114, 101, 116]]) = some [.str [107, 101, 121], .str [110, 111, 110, 99, 101], .str [115, 101, 99, 114, 101, 116]] := rfl
abbrev A0 : PV := .tup [.str [97, 116], .int 0]
abbrev wrongs (m : Nat) : List PV := [.non, .tup [], .tup [.str [97, 116], .int (m : Int)], .tup [.str [97, 116], .int (-1)], .tup [.str [97, 116], .bl true], .tup [.str [97, 116]],
  .tup [.str [107, 101, 121], .str [107]], .tup [.str [115, 101, 99, 114, 101, 116], .str [112]], .tup [.str [110, 111, 110, 99, 101], .str [110]], .tup [.str [112, 97, 105, 114], A0], .tup [.str [104, 97, 115, 104], .non],
  .tup [.str [108, 111, 99, 107], A0, A0], .tup [.str [98, 121], .str [80], A0], .tup [.str [115, 104, 97, 114, 101], A0, .int 0, .int 1], .tup [.str [115, 104, 97, 114, 101], A0, .int 1], .tup [.str [106, 111, 105, 110], .tup []], .tup [.str [106, 111, 105, 110], A0],
  .tup [.str [106, 111, 105, 110], .lst [A0]], .tup [.str [111, 112, 101, 110], A0], .tup [.str [102, 105, 114, 115, 116], A0, A0], .tup [.str [103, 111], A0], .lst [.str [97, 116], .int 0], .tup [.str [110, 97, 109, 101], .str [65]], .tup [.str [115, 105, 103, 110], .str [112], A0], .str [97, 116], .int 3]
theorem rec12 (vs : List Val) (W : Wd) : f_is_recipe 12 vs W = fixR 2 3 (b_is_recipe (f_is_recipe 11)) vs W := rfl
theorem wrong_ok {m : Nat} {x : PV} (h : x ∈ wrongs m) (W : Wd) : f_is_recipe 12 [.d x, .d (.int (m : Int))] W = .ok (.d (.bl false)) W := by
  have sb : binop .sub (.int (m : Int)) (.int 1) = some (.int ((m : Int) - 1)) := rfl
  have fr := fun i a b => from_ok' (i := i) (a := a) (b := b) W
  have wb : f_is_whole [.d (.bl true)] W = .ok (.d (.bl false)) W := rfl
  have fb : ∀ a b, f_is_from [.d (.bl true), .d a, .d b] W = .ok (.d (.bl false)) W := fun a b => by simp [f_is_from, b_is_from, wb]
  have nk : f_is_name [.d (.str [107])] W = .ok (.d (.bl true)) W := rfl
  have np : f_is_name [.d (.str [112])] W = .ok (.d (.bl true)) W := rfl
  have nn : f_is_name [.d (.str [110])] W = .ok (.d (.bl true)) W := rfl
  have nP : f_is_name [.d (.str [80])] W = .ok (.d (.bl false)) W := rfl
  have nA : f_is_name [.d (.str [65])] W = .ok (.d (.bl false)) W := rfl
  have nt : ∀ xs, f_is_name [.d (.tup xs)] W = .ok (.d (.bl false)) W := fun xs => by simp [f_is_name, b_is_name, show builtin .isStr (.tup xs) = some (.bl false) from rfl]
  have hn := rec_nt (x := .non) rfl 10 (.int (m : Int)) W
  have hs := fun s => rec_nt (x := .str s) rfl 10 (.int (m : Int)) W
  have hi := fun i => rec_nt (x := .int i) rfl 10 (.int (m : Int)) W
  have pbk : ∀ s y, f_is_public [.d (.tup [.str s, y])] W = .ok (.d (.bl (decide (s = [110, 97, 109, 101] ∨ s = [110, 117, 109, 98, 101, 114] ∨ s = [116, 101, 120, 116])))) W := fun s y => by simp [f_is_public, b_is_public, ixT0, in3]
  have t2 : builtin .isTuple (.lst [A0]) = some (.bl false) := rfl
  have hm1 : (m : Int) - 1 < (m : Int) := by omega
  have c0 : cmpop .eq (.tup []) (.tup []) = some true := by simp [cmpop, eqO, kt, eqKL, eqv, eqvL]
  have c1 : cmpop .eq A0 (.tup []) = some false := by simp [cmpop, eqO, kt, eqKL, eqv, eqvL]
  have iA : items A0 = some [.str [97, 116], .int 0] := rfl
  simp only [wrongs, List.mem_cons, List.not_mem_nil, or_false] at h
  rcases h with rfl | rfl | rfl | rfl | rfl | rfl | rfl | rfl | rfl | rfl | rfl | rfl | rfl | rfl | rfl | rfl | rfl | rfl | rfl | rfl | rfl | rfl | rfl | rfl | rfl | rfl
  case inl => exact rec_nt rfl 11 _ W
  case inr.inr.inr.inr.inr.inr.inr.inr.inr.inr.inr.inr.inr.inr.inr.inr.inr.inr.inr.inr.inr.inl => exact rec_nt rfl 11 _ W
  case inr.inr.inr.inr.inr.inr.inr.inr.inr.inr.inr.inr.inr.inr.inr.inr.inr.inr.inr.inr.inr.inr.inr.inr.inl => exact rec_nt rfl 11 _ W
  case inr.inr.inr.inr.inr.inr.inr.inr.inr.inr.inr.inr.inr.inr.inr.inr.inr.inr.inr.inr.inr.inr.inr.inr.inr => exact rec_nt rfl 11 _ W
  all_goals simp [rec12, b_is_recipe, rowT, ixT0, ixT1, ixT2, isTT, lenT, isS, cmp_str, cmp_int, cne_int, hit_mem, f_is_atom, b_is_atom, ex3, in4, sb, fr, fb, nk, np, nn, nP, nA, nt, hn, hs, hi, pbk, t2, c0, c1, iA, hm1, loopL, fitF_ok, all2]
end K04
end
section
set_option linter.all false
set_option maxRecDepth 100000
set_option maxHeartbeats 4000000
/-! k04: the law. -/
namespace K04
open Rx Rx.Tr
open Rx.Dr (wd)
abbrev L0 : RS := (setR 2 (binR .add (cstR (.int 1)) (callR f__law_next (consR (varR 1) (consR (cstR (.int 5)) nilR)))))
abbrev L1 : RS := (unlS [3, 4] (comp1R (rngR (cstR (.int 0)) (cstR (.int 2))) (leafL (ap1R (builtin .tuple) (comp1R (rngR (cstR (.int 0)) (varR 2)) (leafL (callR (f__law_term 6) (consR (varR 1) (consR (cstR (.int 3)) nilR)))) (.nm 5) yesT [5] finL))) (.nm 11) yesT [11] finL))
abbrev L2 : RS := (ifR (cmpR .eq (callR f__law_next (consR (varR 1) (consR (cstR (.int 2)) nilR))) (cstR (.int 0))) (seqR (setR 4 (binR .add (slR (varR 3) noO (soO (negR (cstR (.int 1))))) (slR (varR 4) (soO (negR (cstR (.int 1)))) noO))) nopR) nopR)
abbrev L3 : RS := (forR (rngR (cstR (.int 0)) (cstR (.int 12))) (.nm 5) (seqR (tupS [6, 7] (tupR (consR (callR (f__law_recipe 6) (consR (varR 1) (consR (varR 2) (consR (cstR (.int 3)) nilR)))) (consR (callR (f__law_recipe 6) (consR (varR 1) (consR (varR 2) (consR (cstR (.int 2)) nilR)))) nilR)))) (seqR (ifR (orR (notR (callR (f_is_recipe 12) (consR (varR 6) (consR (varR 2) nilR)))) (orR (cmpR .ne (callR (f_run 12) (consR (varR 6) (consR (varR 3) nilR))) (callR (f__law_run 12) (consR (varR 6) (consR (varR 3) nilR)))) (cmpR .ne (callR (f_recipe_size 12) (consR (varR 6) nilR)) (callR (f__law_size 12) (consR (varR 6) nilR))))) (seqR (retR (cstR (.bl false))) nopR) nopR) (seqR (setR 8 (andR (cmpR .notn (callR (f__law_run 12) (consR (varR 6) (consR (varR 3) nilR))) (cstR .non)) (cmpR .eq (callR (f__law_run 12) (consR (varR 6) (consR (varR 3) nilR))) (callR (f__law_run 12) (consR (varR 7) (consR (varR 3) nilR)))))) (seqR (setR 9 (andR (cmpR .notn (callR (f__law_run 12) (consR (varR 6) (consR (varR 4) nilR))) (cstR .non)) (cmpR .eq (callR (f__law_run 12) (consR (varR 6) (consR (varR 4) nilR))) (callR (f__law_run 12) (consR (varR 7) (consR (varR 4) nilR)))))) (seqR (ifR (orR (cmpR .ne (callR f_holds (consR (tupR (consR (varR 6) (consR (varR 7) nilR))) (consR (varR 3) nilR))) (varR 8)) (cmpR .ne (callR f_is_test (consR (tupR (consR (varR 6) (consR (varR 7) nilR))) (consR (varR 3) (consR (varR 4) nilR)))) (cmpR .ne (varR 8) (varR 9)))) (seqR (retR (cstR (.bl false))) nopR) nopR) nopR))))))
abbrev L4 : RS := (setR 6 (tupR (consR (cstR (.str [97, 116])) (consR (cstR (.int 0)) nilR))))
abbrev L5 : RS := (setR 10 (lstR (consR (cstR .non) (consR (tupR nilR) (consR (tupR (consR (cstR (.str [97, 116])) (consR (varR 2) nilR))) (consR (tupR (consR (cstR (.str [97, 116])) (consR (negR (cstR (.int 1))) nilR))) (consR (tupR (consR (cstR (.str [97, 116])) (consR (cstR (.bl true)) nilR))) (consR (tupR (consR (cstR (.str [97, 116])) nilR)) (consR (tupR (consR (cstR (.str [107, 101, 121])) (consR (cstR (.str [107])) nilR))) (consR (tupR (consR (cstR (.str [115, 101, 99, 114, 101, 116])) (consR (cstR (.str [112])) nilR))) (consR (tupR (consR (cstR (.str [110, 111, 110, 99, 101])) (consR (cstR (.str [110])) nilR))) (consR (tupR (consR (cstR (.str [112, 97, 105, 114])) (consR (varR 6) nilR))) (consR (tupR (consR (cstR (.str [104, 97, 115, 104])) (consR (cstR .non) nilR))) (consR (tupR (consR (cstR (.str [108, 111, 99, 107])) (consR (varR 6) (consR (varR 6) nilR)))) (consR (tupR (consR (cstR (.str [98, 121])) (consR (cstR (.str [80])) (consR (varR 6) nilR)))) (consR (tupR (consR (cstR (.str [115, 104, 97, 114, 101])) (consR (varR 6) (consR (cstR (.int 0)) (consR (cstR (.int 1)) nilR))))) (consR (tupR (consR (cstR (.str [115, 104, 97, 114, 101])) (consR (varR 6) (consR (cstR (.int 1)) nilR)))) (consR (tupR (consR (cstR (.str [106, 111, 105, 110])) (consR (tupR nilR) nilR))) (consR (tupR (consR (cstR (.str [106, 111, 105, 110])) (consR (varR 6) nilR))) nilR)))))))))))))))))))
abbrev L6 : RS := (setR 10 (binR .add (varR 10) (lstR (consR (tupR (consR (cstR (.str [106, 111, 105, 110])) (consR (lstR (consR (varR 6) nilR)) nilR))) (consR (tupR (consR (cstR (.str [111, 112, 101, 110])) (consR (varR 6) nilR))) (consR (tupR (consR (cstR (.str [102, 105, 114, 115, 116])) (consR (varR 6) (consR (varR 6) nilR)))) (consR (tupR (consR (cstR (.str [103, 111])) (consR (varR 6) nilR))) (consR (lstR (consR (cstR (.str [97, 116])) (consR (cstR (.int 0)) nilR))) (consR (tupR (consR (cstR (.str [110, 97, 109, 101])) (consR (cstR (.str [65])) nilR))) (consR (tupR (consR (cstR (.str [115, 105, 103, 110])) (consR (cstR (.str [112])) (consR (varR 6) nilR)))) (consR (cstR (.str [97, 116])) (consR (cstR (.int 3)) nilR))))))))))))
abbrev L7 : RS := (ifR (orR (ap1R (builtin .any) (comp1R (itemsR (varR 10)) (leafL (callR (f_is_recipe 12) (consR (varR 12) (consR (varR 2) nilR)))) (.nm 12) yesT [12] finL)) (ap1R (builtin .any) (comp1R (itemsR (varR 10)) (leafL (callR f_is_test (consR (tupR (consR (varR 6) (consR (varR 12) nilR))) (consR (varR 3) (consR (varR 4) nilR))))) (.nm 12) yesT [12] finL))) (seqR (retR (cstR (.bl false))) nopR) nopR)
abbrev L8 : RS := (retR (andR (notR (callR f_is_test (consR (tupR (consR (varR 6) nilR)) (consR (varR 3) (consR (varR 4) nilR))))) (andR (notR (callR f_is_test (consR (cstR .non) (consR (varR 3) (consR (varR 4) nilR))))) (notR (callR f_is_test (consR (tupR (consR (tupR (consR (cstR (.str [110, 117, 109, 98, 101, 114])) (consR (cstR (.int 0)) nilR))) (consR (tupR (consR (cstR (.str [110, 117, 109, 98, 101, 114])) (consR (cstR (.int 0)) nilR))) nilR))) (consR (varR 3) (consR (slR (varR 4) noO (soO (negR (cstR (.int 1))))) nilR))))))))
theorem b_law_eq : b_law = seqR L0 (seqR L1 (seqR L2 (seqR L3 (seqR L4 (seqR L5 (seqR L6 (seqR L7 (seqR L8 (nopR))))))))) := rfl
theorem l0_ok (ns : List Int) : ∃ (m k : Nat), 0 < m ∧ m ≤ 5 ∧ L0 (env0 13) (wd ns 0) = .nx [none, some (.o 0), some (.d (.int (m : Int))), none, none, none, none, none, none, none, none, none, none] (wd ns k) := by
  obtain ⟨r, r0, r1, h⟩ := next_ok ns 0 5 (by decide)
  refine ⟨(1 + r).toNat, 1, by omega, by omega, ?_⟩
  have e : (((1 + r).toNat : Nat) : Int) = 1 + r := by omega
  rw [e]
  simp [env0, h, add_i]
abbrev Tl : RE := callR (f__law_term 6) (consR (varR 1) (consR (cstR (.int 3)) nilR))
theorem terms_loop (ns : List Int) (m : Nat) (x : PV) : ∀ (j k : Nat) (i : Int), ∃ (ts : List Tm) (k' : Nat), ts.length = j ∧ (∀ t ∈ ts, dp t ≤ 4) ∧ loopL (turnF [none, some (.o 0), some (.d (.int (m : Int))), none, none, none, none, none, none, none, none, some (.d x), none] (.nm 5) yesT (leafL Tl)) (rangeL i j) (wd ns k) = .ok (ts.map emb) (wd ns k')
  | 0, k, i => ⟨[], k, rfl, fun _ h => absurd h List.not_mem_nil, rfl⟩
  | j + 1, k, i => by
    obtain ⟨t, k1, t1, t2⟩ := drawn_term ns 3 6 k (by decide)
    obtain ⟨ts, k2, h1, h2, h3⟩ := terms_loop ns m x j k1 (i + 1)
    refine ⟨t :: ts, k2, by rw [List.length_cons, h1], fun u hu => ?_, ?_⟩
    · rcases List.mem_cons.mp hu with rfl | hu
      · exact t1
      · exact h2 u hu
    · have t2 : f__law_term 6 [.o 0, .d (.int 3)] (wd ns k) = .ok (.d (emb t)) (wd ns k1) := t2
      have : turnF [none, some (.o 0), some (.d (.int (m : Int))), none, none, none, none, none, none, none, none, some (.d x), none] (.nm 5) yesT (leafL Tl) (.int i) (wd ns k) = .ok [emb t] (wd ns k1) := by simp [t2]
      rw [rangeL, loopL, this, R.bind_ok, h3]
      rfl
theorem tupB (xs : List PV) : builtin .tuple (.lst xs) = some (.tup xs) := rfl
theorem l1_ok (ns : List Int) (k : Nat) {m : Nat} (hm : m ≤ 5) : ∃ (ts us : List Tm) (k' : Nat), Fr m ts ∧ Fr m us ∧ L1 [none, some (.o 0), some (.d (.int (m : Int))), none, none, none, none, none, none, none, none, none, none] (wd ns k) = .nx [none, some (.o 0), some (.d (.int (m : Int))), some (.d (.tup (ts.map emb))), some (.d (.tup (us.map emb))), none, none, none, none, none, none, none, none] (wd ns k') := by
  obtain ⟨ts, k1, t1, t2, t3⟩ := terms_loop ns m (.int 0) m k 0
  obtain ⟨us, k2, u1, u2, u3⟩ := terms_loop ns m (.int 1) m k1 0
  refine ⟨ts, us, k2, ⟨t1, t2⟩, ⟨u1, u2⟩, ?_⟩
  have f1 := fitF_ok finL (ts.map emb) (wd ns k1) (by rw [List.length_map]; omega)
  have f2 := fitF_ok finL (us.map emb) (wd ns k2) (by rw [List.length_map]; omega)
  have r2 : rngO (.int 0) (.int 2) = some [.int 0, .int 1] := rngO_0 2 (by decide)
  have rm := rngO_0 m (by omega)
  generalize ts.map emb = T at *
  generalize us.map emb = U at *
  have stp : ∀ (x : PV) (k k' : Nat) (T : List PV), loopL (turnF [none, some (.o 0), some (.d (.int (m : Int))), none, none, none, none, none, none, none, none, some (.d x), none] (.nm 5) yesT (leafL Tl)) (rangeL 0 m) (wd ns k) = .ok T (wd ns k') → fitF finL (.ok T (wd ns k')) = R.of ((finL T).map .d) (wd ns k') → turnF [none, some (.o 0), some (.d (.int (m : Int))), none, none, none, none, none, none, none, none, none, none] (.nm 11) yesT (leafL (ap1R (builtin .tuple) (comp1R (rngR (cstR (.int 0)) (varR 2)) (leafL Tl) (.nm 5) yesT [5] finL))) x (wd ns k) = .ok [.tup T] (wd ns k') := fun x k k' T h1 h2 => by
    simp [rm, h1, h2, tupB]
  have s1 := stp (.int 0) _ _ _ t3 f1
  have s2 := stp (.int 1) _ _ _ u3 f2
  have lp : loopL (turnF [none, some (.o 0), some (.d (.int (m : Int))), none, none, none, none, none, none, none, none, none, none] (.nm 11) yesT (leafL (ap1R (builtin .tuple) (comp1R (rngR (cstR (.int 0)) (varR 2)) (leafL Tl) (.nm 5) yesT [5] finL)))) [.int 0, .int 1] (wd ns k) = .ok [.tup T, .tup U] (wd ns k2) := by
    rw [loopL, s1, R.bind_ok, loopL, s2, R.bind_ok]
    rfl
  have f3 := fitF_ok finL [.tup T, .tup U] (wd ns k2) (by simp)
  show (dat (comp1R _ _ _ _ _ _ _ (wd ns k))).go _ _ = _
  have e : (comp1R (rngR (cstR (.int 0)) (cstR (.int 2))) (leafL (ap1R (builtin .tuple) (comp1R (rngR (cstR (.int 0)) (varR 2)) (leafL Tl) (.nm 5) yesT [5] finL))) (.nm 11) yesT [11] finL) [none, some (.o 0), some (.d (.int (m : Int))), none, none, none, none, none, none, none, none, none, none] (wd ns k) = .ok (.d (.lst [.tup T, .tup U])) (wd ns k2) := by
    rw [p_comp1]
    simp only [p_rng, p_cst, R.bind_ok, dat_ok, r2, R.of_some]
    refine (congrArg (fitF finL) lp).trans f3
  rw [e]
  rfl
end K04
end
section
set_option linter.all false
set_option maxRecDepth 100000
set_option maxHeartbeats 4000000
/-! k04: the law, whole. -/
namespace K04
open Rx Rx.Tr
open Rx.Dr (wd)
theorem sl_init (xs : List PV) : slice (.tup xs) none (some (-1)) = some (.tup (xs.take (xs.length - 1))) := by
  show some (PV.tup (cut xs 0 (clip (-1) xs.length))) = _
  unfold clip cut
  rw [if_pos (by decide), List.drop_zero]
  congr 3
  omega
theorem sl_last (xs : List PV) : slice (.tup xs) (some (-1)) none = some (.tup (xs.drop (xs.length - 1))) := by
  show some (PV.tup (cut xs (clip (-1) xs.length) xs.length)) = _
  unfold clip cut
  rw [if_pos (by decide)]
  have : ((-1 : Int) + (xs.length : Int)).toNat = xs.length - 1 := by omega
  rw [this, List.take_of_length_le (by rw [List.length_drop]; omega)]
theorem add_tup (xs ys : List PV) (h : xs.length + ys.length ≤ 16777216) : binop .add (.tup xs) (.tup ys) = some (.tup (xs ++ ys)) := by
  show (if fits (xs.length + ys.length) = true then _ else _) = _
  rw [if_pos (show fits _ = true from Nat.ble_eq_true_of_le h)]
abbrev Ea (m : Nat) (ts us : List Tm) (x5 x6 x7 x8 x9 x10 : Option PV) : Env := [none, some (.o 0), some (.d (.int (m : Int))), some (.d (.tup (ts.map emb))), some (.d (.tup (us.map emb))), x5.map .d, x6.map .d, x7.map .d, x8.map .d, x9.map .d, x10.map .d, none, none]
theorem l2_ok (ns : List Int) (k : Nat) {m : Nat} (hm : m ≤ 5) (h0 : 0 < m) {ts us : List Tm} (ht : Fr m ts) (hu : Fr m us) : ∃ (vs : List Tm) (k' : Nat), Fr m vs ∧ L2 (Ea m ts us none none none none none none) (wd ns k) = .nx (Ea m ts vs none none none none none none) (wd ns k') := by
  obtain ⟨r, r0, r1, h⟩ := next_ok ns k 2 (by decide)
  by_cases q : r = 0
  · refine ⟨ts.take (m - 1) ++ us.drop (m - 1), k + 1, ⟨?_, fun t ht' => ?_⟩, ?_⟩
    · rw [List.length_append, List.length_take, List.length_drop, ht.len, hu.len]
      omega
    · rcases List.mem_append.mp ht' with z | z
      · exact ht.dp t (List.mem_of_mem_take z)
      · exact hu.dp t (List.mem_of_mem_drop z)
    · have s1 := sl_init (ts.map emb)
      have s2 := sl_last (us.map emb)
      rw [List.length_map, ht.len] at s1
      rw [List.length_map, hu.len] at s2
      have ad := add_tup ((ts.map emb).take (m - 1)) ((us.map emb).drop (m - 1)) (by rw [List.length_take, List.length_drop, List.length_map, List.length_map, ht.len, hu.len]; omega)
      have e : (ts.take (m - 1) ++ us.drop (m - 1)).map emb = (ts.map emb).take (m - 1) ++ (us.map emb).drop (m - 1) := by rw [List.map_append, List.map_take, List.map_drop]
      unfold Ea
      rw [e]
      generalize (ts.map emb).take (m - 1) = A at *
      generalize (us.map emb).drop (m - 1) = B at *
      generalize ts.map emb = T at *
      generalize us.map emb = U at *
      simp [h, q, cmp_int, s1, s2, ad]
  · refine ⟨us, k + 1, hu, ?_⟩
    unfold Ea
    generalize ts.map emb = T at *
    generalize us.map emb = U at *
    simp [h, q, cmp_int]
abbrev L3b : RS := (seqR (tupS [6, 7] (tupR (consR (callR (f__law_recipe 6) (consR (varR 1) (consR (varR 2) (consR (cstR (.int 3)) nilR)))) (consR (callR (f__law_recipe 6) (consR (varR 1) (consR (varR 2) (consR (cstR (.int 2)) nilR)))) nilR)))) (seqR (ifR (orR (notR (callR (f_is_recipe 12) (consR (varR 6) (consR (varR 2) nilR)))) (orR (cmpR .ne (callR (f_run 12) (consR (varR 6) (consR (varR 3) nilR))) (callR (f__law_run 12) (consR (varR 6) (consR (varR 3) nilR)))) (cmpR .ne (callR (f_recipe_size 12) (consR (varR 6) nilR)) (callR (f__law_size 12) (consR (varR 6) nilR))))) (seqR (retR (cstR (.bl false))) nopR) nopR) (seqR (setR 8 (andR (cmpR .notn (callR (f__law_run 12) (consR (varR 6) (consR (varR 3) nilR))) (cstR .non)) (cmpR .eq (callR (f__law_run 12) (consR (varR 6) (consR (varR 3) nilR))) (callR (f__law_run 12) (consR (varR 7) (consR (varR 3) nilR)))))) (seqR (setR 9 (andR (cmpR .notn (callR (f__law_run 12) (consR (varR 6) (consR (varR 4) nilR))) (cstR .non)) (cmpR .eq (callR (f__law_run 12) (consR (varR 6) (consR (varR 4) nilR))) (callR (f__law_run 12) (consR (varR 7) (consR (varR 4) nilR)))))) (seqR (ifR (orR (cmpR .ne (callR f_holds (consR (tupR (consR (varR 6) (consR (varR 7) nilR))) (consR (varR 3) nilR))) (varR 8)) (cmpR .ne (callR f_is_test (consR (tupR (consR (varR 6) (consR (varR 7) nilR))) (consR (varR 3) (consR (varR 4) nilR)))) (cmpR .ne (varR 8) (varR 9)))) (seqR (retR (cstR (.bl false))) nopR) nopR) nopR)))))
theorem turn_ok (ns : List Int) (k : Nat) {m : Nat} (h0 : 0 < m) {ts us : List Tm} (ht : Fr m ts) (hu : Fr m us) (x5 : PV) (x6 x7 x8 x9 : Option PV) : ∃ (a b : Rc) (k' : Nat), 
    L3b (Ea m ts us (some x5) x6 x7 x8 x9 none) (wd ns k) = .nx (Ea m ts us (some x5) (some (embR a)) (some (embR b)) (some (.bl (hv ts a b))) (some (.bl (hv us a b))) none) (wd ns k') := by
  obtain ⟨a, k1, a1, a2, a3⟩ := drawn_recipe ns h0 3 6 k (by decide)
  obtain ⟨b, k2, b1, b2, b3⟩ := drawn_recipe ns h0 2 6 k1 (by decide)
  refine ⟨a, b, k2, ?_⟩
  have a3 : f__law_recipe 6 [.o 0, .d (.int (m : Int)), .d (.int 3)] (wd ns k) = .ok (.d (embR a)) (wd ns k1) := a3
  have b3 : f__law_recipe 6 [.o 0, .d (.int (m : Int)), .d (.int 2)] (wd ns k1) = .ok (.d (embR b)) (wd ns k2) := b3
  have W := wd ns k2
  have rc := rec_ok (W := wd ns k2) a 12 a1 (by omega)
  have r1 := run_a ht a1 (by omega) (wd ns k2)
  have l1 := lrun_a ht a1 (by omega) (wd ns k2)
  have l2 := lrun_a ht b1 (by omega) (wd ns k2)
  have l3 := lrun_a hu a1 (by omega) (wd ns k2)
  have l4 := lrun_a hu b1 (by omega) (wd ns k2)
  have z1 := size_ok (m := m) (W := wd ns k2) a 12 a1.fit (by omega)
  have z2 := lsize_ok (m := m) (W := wd ns k2) a 12 a1.fit (by omega)
  have ne1 : cmpop .ne (ov (rn ts a)) (ov (rn ts a)) = some false := by rw [cne_ov (dp_a ht a1 (by omega))]; simp
  have ne2 : cmpop .ne (.int (szR a)) (.int (szR a)) = some false := by rw [cne_int]; simp
  have n1 := notn_ov (rn ts a)
  have n2 := notn_ov (rn us a)
  have c1 := cmp_ov (b := rn ts b) (dp_a ht a1 (by omega))
  have c2 := cmp_ov (b := rn us b) (dp_a hu a1 (by omega))
  have ho := holds_ok ht a1 b1 (by omega) (by omega) (wd ns k2)
  have te := test_ok ht hu a1 b1 (by omega) (by omega) (wd ns k2)
  unfold Ea
  unfold hv at *
  generalize ts.map emb = T at *
  generalize us.map emb = U at *
  generalize embR a = A at *
  generalize embR b = B at *
  generalize decide (rn ts a = rn ts b) = e1 at *
  generalize decide (rn us a = rn us b) = e2 at *
  generalize (rn ts a).isSome = s1 at *
  generalize (rn us a).isSome = s2 at *
  generalize ov (rn ts a) = o1 at *
  generalize ov (rn us a) = o2 at *
  generalize ov (rn ts b) = o3 at *
  generalize ov (rn us b) = o4 at *
  cases s1 <;> cases s2 <;> simp [a3, b3, rc, r1, l1, l2, l3, l4, z1, z2, ne1, ne2, n1, n2, c1, c2, ho, te, ne_bl]
end K04
end
section
set_option linter.all false
set_option maxRecDepth 100000
set_option maxHeartbeats 4000000
/-! k04: the law, its end. -/
namespace K04
open Rx Rx.Tr
open Rx.Dr (wd)
theorem turns_ok (ns : List Int) {m : Nat} (h0 : 0 < m) {ts us : List Tm} (ht : Fr m ts) (hu : Fr m us) : ∀ (j k : Nat) (i : Int) (x5 x6 x7 x8 x9 : Option PV), ∃ (k' : Nat) (y5 y6 y7 y8 y9 : Option PV),
    forL (stepF (.nm 5) L3b) (rangeL i j) (Ea m ts us x5 x6 x7 x8 x9 none) (wd ns k) = .nx (Ea m ts us y5 y6 y7 y8 y9 none) (wd ns k')
  | 0, k, i, x5, x6, x7, x8, x9 => ⟨k, x5, x6, x7, x8, x9, rfl⟩
  | j + 1, k, i, x5, x6, x7, x8, x9 => by
    obtain ⟨a, b, k1, h1⟩ := turn_ok ns k h0 ht hu (.int i) x6 x7 x8 x9
    obtain ⟨k2, y5, y6, y7, y8, y9, h2⟩ := turns_ok ns h0 ht hu j k1 (i + 1) (some (.int i)) (some (embR a)) (some (embR b)) (some (.bl (hv ts a b))) (some (.bl (hv us a b)))
    refine ⟨k2, y5, y6, y7, y8, y9, ?_⟩
    rw [rangeL, forL_nx (show stepF (.nm 5) L3b (.int i) (Ea m ts us x5 x6 x7 x8 x9 none) (wd ns k) = _ from h1), h2]
theorem l3_ok (ns : List Int) (k : Nat) {m : Nat} (h0 : 0 < m) {ts us : List Tm} (ht : Fr m ts) (hu : Fr m us) : ∃ (k' : Nat) (y5 y6 y7 y8 y9 : Option PV), L3 (Ea m ts us none none none none none none) (wd ns k) = .nx (Ea m ts us y5 y6 y7 y8 y9 none) (wd ns k') := by
  obtain ⟨k2, y5, y6, y7, y8, y9, h⟩ := turns_ok ns h0 ht hu 12 k 0 none none none none none
  refine ⟨k2, y5, y6, y7, y8, y9, ?_⟩
  show (rngR (cstR (.int 0)) (cstR (.int 12)) _ (wd ns k)).go _ _ = _
  have e : rngR (cstR (.int 0)) (cstR (.int 12)) (Ea m ts us none none none none none none) (wd ns k) = .ok (rangeL 0 12) (wd ns k) := by
    rw [p_rng]
    have := rngO_0 12 (by decide)
    simp only [p_cst, R.bind_ok, dat_ok]
    exact congrArg (fun o => R.of o (wd ns k)) this
  rw [e]
  exact h
section
variable {m : Nat} {ts us : List Tm} {x5 x6 x7 x8 x9 x10 : Option PV} {W : Wd}
theorem l4_ok : L4 (Ea m ts us x5 x6 x7 x8 x9 none) W = .nx (Ea m ts us x5 (some A0) x7 x8 x9 none) W := by
  unfold Ea
  generalize ts.map emb = T at *
  generalize us.map emb = U at *
  simp
theorem l5_ok : L5 (Ea m ts us x5 (some A0) x7 x8 x9 none) W = .nx (Ea m ts us x5 (some A0) x7 x8 x9 (some (.lst ((wrongs m).take 17)))) W := by
  unfold Ea
  generalize ts.map emb = T at *
  generalize us.map emb = U at *
  simp
theorem l6_ok : L6 (Ea m ts us x5 (some A0) x7 x8 x9 (some (.lst ((wrongs m).take 17)))) W = .nx (Ea m ts us x5 (some A0) x7 x8 x9 (some (.lst (wrongs m)))) W := by
  have ad : ∀ xs ys : List PV, xs.length + ys.length ≤ 16777216 → binop .add (.lst xs) (.lst ys) = some (.lst (xs ++ ys)) := fun xs ys h => by
    show (if fits (xs.length + ys.length) = true then _ else _) = _
    rw [if_pos (show fits _ = true from Nat.ble_eq_true_of_le h)]
  unfold Ea
  generalize ts.map emb = T at *
  generalize us.map emb = U at *
  simp [ad]
theorem falses {f : PV → Wd → R (List PV)} : ∀ {xs : List PV}, (∀ x ∈ xs, f x W = .ok [.bl false] W) → loopL f xs W = .ok (xs.map fun _ => .bl false) W
  | [], _ => rfl
  | x :: xs, h => by
    rw [loopL, h x List.mem_cons_self, R.bind_ok, falses fun y hy => h y (List.mem_cons_of_mem _ hy)]
    rfl
theorem any_false (xs : List PV) : builtin .any (.lst (xs.map fun _ => .bl false)) = some (.bl false) := by
  have hb : ∀ xs : List PV, ∃ bs, boolsO (xs.map fun _ => PV.bl false) = some bs ∧ bs.any id = false := fun xs => by
    induction xs with
    | nil => exact ⟨[], rfl, rfl⟩
    | cons x xs ih =>
      obtain ⟨bs, e1, e2⟩ := ih
      refine ⟨false :: bs, ?_, by rw [List.any_cons, e2]; rfl⟩
      show (boolsO (xs.map fun _ => PV.bl false)).map (false :: ·) = _
      rw [e1]; rfl
  obtain ⟨bs, e1, e2⟩ := hb xs
  show (boolsO _).map _ = _
  rw [e1]
  show some (PV.bl (bs.any id)) = _
  rw [e2]
theorem l7_ok (ht : Fr m ts) (hu : Fr m us) (h0 : 0 < m) : L7 (Ea m ts us x5 (some A0) x7 x8 x9 (some (.lst (wrongs m)))) W = .nx (Ea m ts us x5 (some A0) x7 x8 x9 (some (.lst (wrongs m)))) W := by
  have hw : ∀ x ∈ wrongs m, f_is_recipe 12 [.d x, .d (.int (m : Int))] W = .ok (.d (.bl false)) W := fun x h => wrong_ok h W
  have h1 : ∀ x ∈ wrongs m, f_is_test [.d (.tup [A0, x]), .d (.tup (ts.map emb)), .d (.tup (us.map emb))] W = .ok (.d (.bl false)) W := fun x h => test_bad (a := .at' 0) ht hu h0 (by simp [dR]) W (hw x h)
  have hl : (wrongs m).length = 26 := rfl
  generalize wrongs m = ws at *
  have i1 : items (.lst ws) = some ws := rfl
  unfold Ea
  generalize ts.map emb = T at *
  generalize us.map emb = U at *
  have l1 := falses (W := W) (xs := ws) (f := turnF [none, some (.o 0), some (.d (.int (m : Int))), some (.d (.tup T)), some (.d (.tup U)), x5.map .d, some (.d A0), x7.map .d, x8.map .d, x9.map .d, some (.d (.lst ws)), none, none] (.nm 12) yesT (leafL (callR (f_is_recipe 12) (consR (varR 12) (consR (varR 2) nilR))))) fun x hx => by simp [hw x hx]
  have l2 := falses (W := W) (xs := ws) (f := turnF [none, some (.o 0), some (.d (.int (m : Int))), some (.d (.tup T)), some (.d (.tup U)), x5.map .d, some (.d A0), x7.map .d, x8.map .d, x9.map .d, some (.d (.lst ws)), none, none] (.nm 12) yesT (leafL (callR f_is_test (consR (tupR (consR (varR 6) (consR (varR 12) nilR))) (consR (varR 3) (consR (varR 4) nilR)))))) fun x hx => by simp [h1 x hx]
  have ft := fitF_ok finL (ws.map fun _ => PV.bl false) W (by rw [List.length_map]; omega)
  have an := any_false ws
  generalize (ws.map fun _ => PV.bl false) = F at *
  simp [i1, l1, l2, ft, an]
theorem l8_ok (ht : Fr m ts) (hu : Fr m us) (h0 : 0 < m) : L8 (Ea m ts us x5 (some A0) x7 x8 x9 x10) W = .rt (.d (.bl true)) W := by
  have l1 := lenM ts
  have l2 := lenM us
  rw [ht.len] at l1
  rw [hu.len] at l2
  have r1 := rowT [A0] 2 W
  have r2 := row_no (x := .non) rfl (.int 2) W
  have sl := sl_init (us.map emb)
  rw [List.length_map, hu.len] at sl
  have l3 : builtin .len (.tup ((us.map emb).take (m - 1))) = some (.int ((m : Int) - 1)) := by
    rw [lenT, List.length_take, List.length_map, hu.len]
    congr 2
    omega
  have hm : ¬ (m : Int) = (m : Int) - 1 := by omega
  unfold Ea
  generalize (us.map emb).take (m - 1) = V at *
  generalize ts.map emb = T at *
  generalize us.map emb = U at *
  simp [f_is_test, b_is_test, l1, l2, l3, cne_int, r1, r2, sl, hm]
end
theorem law_ok (ns : List Int) : ∃ W', b_law (env0 13) (world0 ns) = .rt (.d (.bl true)) W' := by
  obtain ⟨m, k1, h0, h5, e0⟩ := l0_ok ns
  obtain ⟨ts, us, k2, ht, hu, e1⟩ := l1_ok ns k1 h5
  obtain ⟨vs, k3, hv, e2⟩ := l2_ok ns k2 h5 h0 ht hu
  obtain ⟨k4, y5, y6, y7, y8, y9, e3⟩ := l3_ok ns k3 h0 ht hv
  have e4 := l4_ok (m := m) (ts := ts) (us := vs) (x5 := y5) (x6 := y6) (x7 := y7) (x8 := y8) (x9 := y9) (W := wd ns k4)
  have e5 := l5_ok (m := m) (ts := ts) (us := vs) (x5 := y5) (x7 := y7) (x8 := y8) (x9 := y9) (W := wd ns k4)
  have e6 := l6_ok (m := m) (ts := ts) (us := vs) (x5 := y5) (x7 := y7) (x8 := y8) (x9 := y9) (W := wd ns k4)
  have e7 := l7_ok (x5 := y5) (x7 := y7) (x8 := y8) (x9 := y9) (W := wd ns k4) ht hv h0
  have e8 := l8_ok (x5 := y5) (x7 := y7) (x8 := y8) (x9 := y9) (x10 := some (.lst (wrongs m))) (W := wd ns k4) ht hv h0
  refine ⟨wd ns k4, ?_⟩
  rw [b_law_eq, show world0 ns = wd ns 0 from rfl]
  have st : ∀ {r k : RS} {ρ ρ' : Env} {W W' : Wd}, r ρ W = .nx ρ' W' → seqR r k ρ W = k ρ' W' := fun h => by rw [p_seq, h, Out.then_nx]
  have st2 : ∀ {r k : RS} {ρ : Env} {W W' : Wd} {v : Val}, r ρ W = .rt v W' → seqR r k ρ W = .rt v W' := fun h => by rw [p_seq, h, Out.then_rt]
  exact (st e0).trans ((st e1).trans ((st e2).trans ((st e3).trans ((st e4).trans ((st e5).trans ((st e6).trans ((st e7).trans (st2 e8))))))))
end K04
end
section
set_option Elab.async false
set_option maxRecDepth 100000
theorem K04.plain : ∀ ns : List Int, ns.length ≤ 63 → ∃ W', K04.b_law (Rx.env0 13) (Rx.world0 ns) = .rt (.d (.bl true)) W' := fun ns _ => K04.law_ok ns
open PySem PySem.W PyProof.Rows
set_option maxRecDepth 100000 in
set_option maxHeartbeats 0 in
theorem PySem.Challenge.cw_sealedstore_k04_whole_recipes_holds : PySem.Challenge.rw_sealedstore_k04_whole_recipes.Holds := by
  w_on; o_law; k_head; (case hw => w_witness2)
  k_fill
  refine Rx.walk_law (l := PySem.Challenge.rw_sealedstore_k04_whole_recipes) (k := 17) rfl rfl ⟨rfl, by decide, by decide⟩ (fun w h Y => PySem.W.kIn_of Y) ?F
  case F =>
    intro w mg fa h KX G hmg
    refine' K04.fn_all (P := PySem.Challenge.rw_sealedstore_k04_whole_recipes.prog) (w := w) KX G ?a0 ?l0 ?c0 ?k0 ?a1 ?l1 ?c1 ?k1 ?a2 ?l2 ?c2 ?k2 ?a3 ?l3 ?c3 ?k3 ?a4 ?l4 ?c4 ?k4 ?a5 ?l5 ?c5 ?k5 ?a6 ?l6 ?c6 ?k6 ?a7 ?l7 ?c7 ?k7 ?a8 ?l8 ?c8 ?k8 ?a9 ?l9 ?c9 ?k9 ?a10 ?l10 ?c10 ?k10 ?a11 ?l11 ?c11 ?k11 ?a12 ?l12 ?c12 ?k12 ?a13 ?l13 ?c13 ?k13 ?a14 ?l14 ?c14 ?k14 ?a15 ?l15 ?c15 ?k15 ?a16 ?l16 ?c16 ?k16 ?a17 ?l17 ?c17 ?k17 ?a18 ?l18 ?c18 ?k18 ?a19 ?l19 ?c19 ?k19 ?a20 ?l20 ?c20 ?k20 ?a21 ?l21 ?c21 ?k21 ?a22 ?l22 ?c22 ?k22 ?a23 ?l23 ?c23 ?k23 ?z_all ?z_any ?z_bool ?z_int ?z_isinstance ?z_len ?z_range ?z_set ?z_str ?z_sum ?z_tuple ?g_FIGURES ?g_LETTERS ?g_MOST_NAME ?g_MOST_NUMBER ?g_MOST_TEXT ?g_PUBLIC ?gl_PUBLIC ?g_UNKNOWN ?gl_UNKNOWN ?xp K04.plain hmg
    (case a0 => k_is)
    (case l0 => k_is)
    (case c0 => k_is)
    (case k0 => k_is)
    (case a1 => k_is)
    (case l1 => k_is)
    (case c1 => k_is)
    (case k1 => k_is)
    (case a2 => k_is)
    (case l2 => k_is)
    (case c2 => k_is)
    (case k2 => k_is)
    (case a3 => k_is)
    (case l3 => k_is)
    (case c3 => k_is)
    (case k3 => k_is)
    (case a4 => k_is)
    (case l4 => k_is)
    (case c4 => k_is)
    (case k4 => k_is)
    (case a5 => k_is)
    (case l5 => k_is)
    (case c5 => k_is)
    (case k5 => k_is)
    (case a6 => k_is)
    (case l6 => k_is)
    (case c6 => k_is)
    (case k6 => k_is)
    (case a7 => k_is)
    (case l7 => k_is)
    (case c7 => k_is)
    (case k7 => k_is)
    (case a8 => k_is)
    (case l8 => k_is)
    (case c8 => k_is)
    (case k8 => k_is)
    (case a9 => k_is)
    (case l9 => k_is)
    (case c9 => k_is)
    (case k9 => k_is)
    (case a10 => k_is)
    (case l10 => k_is)
    (case c10 => k_is)
    (case k10 => k_is)
    (case a11 => k_is)
    (case l11 => k_is)
    (case c11 => k_is)
    (case k11 => k_is)
    (case a12 => k_is)
    (case l12 => k_is)
    (case c12 => k_is)
    (case k12 => k_is)
    (case a13 => k_is)
    (case l13 => k_is)
    (case c13 => k_is)
    (case k13 => k_is)
    (case a14 => k_is)
    (case l14 => k_is)
    (case c14 => k_is)
    (case k14 => k_is)
    (case a15 => k_is)
    (case l15 => k_is)
    (case c15 => k_is)
    (case k15 => k_is)
    (case a16 => k_is)
    (case l16 => k_is)
    (case c16 => k_is)
    (case k16 => k_is)
    (case a17 => k_is)
    (case l17 => k_is)
    (case c17 => k_is)
    (case k17 => k_is)
    (case a18 => k_is)
    (case l18 => k_is)
    (case c18 => k_is)
    (case k18 => k_is)
    (case a19 => k_is)
    (case l19 => k_is)
    (case c19 => k_is)
    (case k19 => k_is)
    (case a20 => k_is)
    (case l20 => k_is)
    (case c20 => k_is)
    (case k20 => k_is)
    (case a21 => k_is)
    (case l21 => k_is)
    (case c21 => k_is)
    (case k21 => k_is)
    (case a22 => k_is)
    (case l22 => k_is)
    (case c22 => k_is)
    (case k22 => k_is)
    (case a23 => k_is)
    (case l23 => k_is)
    (case c23 => k_is)
    (case k23 => k_is)
    (case z_all => k_is)
    (case z_any => k_is)
    (case z_bool => k_is)
    (case z_int => k_is)
    (case z_isinstance => k_is)
    (case z_len => k_is)
    (case z_range => k_is)
    (case z_set => k_is)
    (case z_str => k_is)
    (case z_sum => k_is)
    (case z_tuple => k_is)
    (case g_FIGURES => k_is)
    (case g_LETTERS => k_is)
    (case g_MOST_NAME => k_is)
    (case g_MOST_NUMBER => k_is)
    (case g_MOST_TEXT => k_is)
    (case g_PUBLIC => k_is)
    (case gl_PUBLIC => k_is)
    (case g_UNKNOWN => k_is)
    (case gl_UNKNOWN => k_is)
    (case xp => decide +kernel)
end
