import PyProof.Rows.All
import Wide.All
import OpenK.AllK
import Wide.FinOn
import PyProof.EqAt
import PyProof.EqKinds
import PyProof.TupleCall
import PySem.Str
import KE.SortData
import HandS.ForMost
import HandS.SortOrd
import HandS.TupAny
import KE.LtSeq
import HandS.Conv
import HandS.Zip
import HandS.TupMul
import HandS.Wide
import HandS.IsInst
import HandS.TupLen
import HandS.Gcd
import KE.DataMinMax
import HandS.Flow
import HandS.WordsExc
import HandS.SetFor
import HandS.Iter
import HandS.Comp
import HandS.Small
import HandS.Style
import HandS.SortInts
import HandS.SortRule
import HandS.Strs
import HandS.TupSets
import HandS.DictTup
import KE.KDictWalk
import KE.KDictList
import KE.KDictSum
import KE.GoesMore
import HandS.Ends
import PySem.Challenge.RW_dominohall_k77_whole_worths_far_on
set_option Elab.async false
set_option linter.all false
set_option maxRecDepth 100000

/-! DenA: plain values, the small syntax, what it denotes. No model in sight. -/
namespace L2.DN
open PySem (Str)

/-- plain values; lists, dicts and sets here are never written any more -/
inductive D where
  | non | bl (b : Bool) | int (i : Int) | str (x : Str)
  | tup (xs : List D) | lst (xs : List D) | dct (ks vs : List D) | st (xs : List D) | rng (lo hi : Int) | scr (ns : List Int)
  deriving Inhabited
inductive Er where
  | stuck | exc (c : Nat) (a : List D)
abbrev M (α : Type) := Except Er α
def stk {α : Type} : M α := .error .stuck
/-- a frame's slot: not yet assigned; a value; a list or dict of this frame's own -/
inductive Slot where
  | nil | v (d : D) | o (d : D)
  deriving Inhabited
abbrev Env := List Slot
/-- an operand: a value, or the slot that is read when the operation is done -/
inductive Arg where
  | v (d : D) | s (i : Nat)

def sz : Nat := 16777216
/-! ### equality, order, truth -/
def b2i (b : Bool) : Int := if b then 1 else 0
def eqs (f : D → D → Option Bool) : List D → List D → Option Bool
  | [], [] => some true
  | a :: as, b :: bs => match f a b, eqs f as bs with
    | some x, some y => some (x && y)
    | _, _ => none
  | _, _ => some false
def eqF : Nat → D → D → Option Bool
  | 0, _, _ => none
  | n + 1, a, b => match a, b with
    | .non, .non => some true
    | .bl x, .bl y => some (x == y)
    | .int x, .int y => some (decide (x = y))
    | .bl x, .int y => some (decide (b2i x = y))
    | .int x, .bl y => some (decide (x = b2i y))
    | .str x, .str y => some (decide (x = y))
    | .tup x, .tup y => eqs (eqF n) x y
    | .lst x, .lst y => eqs (eqF n) x y
    | .dct .., _ => none
    | _, .dct .. => none
    | .st .., _ => none
    | _, .st .. => none
    | .rng .., _ => none
    | _, .rng .. => none
    | .scr .., _ => none
    | _, .scr .. => none
    | _, _ => some false
def lts (e l : D → D → Option Bool) : List D → List D → Option Bool
  | [], [] => some false
  | [], _ :: _ => some true
  | _ :: _, [] => some false
  | a :: as, b :: bs => match e a b, lts e l as bs with
    | some true, some r => some r
    | some false, some _ => l a b
    | _, _ => none
def ltF : Nat → D → D → Option Bool
  | 0, _, _ => none
  | n + 1, a, b => match a, b with
    | .int x, .int y => some (decide (x < y))
    | .str x, .str y => some (decide (x.cps.toList < y.cps.toList))
    | .tup x, .tup y => lts (eqF n) (ltF n) x y
    | _, _ => none
def dep : Nat := 40
def eqD (a b : D) : M Bool := match eqF dep a b with | some r => .ok r | none => stk
def ltD (a b : D) : M Bool := match ltF dep a b with | some r => .ok r | none => stk
def gtD : D → D → M Bool
  | .int x, .int y => .ok (decide (y < x))
  | _, _ => stk
def truthy : D → M Bool
  | .non => .ok false
  | .bl b => .ok b
  | .int i => .ok (decide (i ≠ 0))
  | .str x => if x.length ≤ sz then .ok (decide (x.length ≠ 0)) else stk
  | .tup xs => .ok (!xs.isEmpty)
  | .lst xs => .ok (!xs.isEmpty)
  | _ => stk
/-- is one of them: identity or == -/
def inL (x : D) : List D → M Bool
  | [] => .ok false
  | y :: ys => do
    let e ← eqD y x
    let r ← inL x ys
    .ok (e || r)
/-! ### operators -/
inductive Bop where | add | sub | mul | fdiv | mod | pow
  deriving DecidableEq
inductive Cop where | eq | ne | lt | le | gt | ge | isin | nin | is | isn
  deriving DecidableEq
def small (i : Int) : Bool := decide (-(2 ^ 64) < i) && decide (i < 2 ^ 64)
def rep (n : Nat) (xs : List D) : List D := (List.replicate n xs).flatten
def binF : Bop → D → D → M D
  | .add, .int x, .int y => .ok (.int (x + y))
  | .add, .tup x, .tup y => if x.length + y.length ≤ sz then .ok (.tup (x ++ y)) else stk
  | .add, .lst x, .lst y => if x.length + y.length ≤ sz then .ok (.lst (x ++ y)) else stk
  | .add, .str x, .str y => if x.length + y.length ≤ sz then .ok (.str (x ++ y)) else stk
  | .sub, .int x, .int y => .ok (.int (x - y))
  | .mul, .int x, .int y => if small x || small y then .ok (.int (x * y)) else stk
  | .mul, .tup x, .int y => if y = 1 then .ok (.tup x) else if x ≠ [] ∧ 2 ≤ y ∧ y ≤ 1000 ∧ x.length ≤ 1000 then .ok (.tup (rep y.toNat x)) else stk
  | .mul, .lst x, .int y => if -(2 ^ 63) ≤ y ∧ y < 2 ^ 63 ∧ x.length * y.toNat ≤ sz then .ok (.lst (rep y.toNat x)) else stk
  | .fdiv, .int x, .int y => if 0 < y ∧ y < 18446744073709551616 then .ok (.int (x / y)) else stk
  | .mod, .int x, .int y => if 0 < y then .ok (.int (x % y)) else stk
  | .pow, .int x, .int y => if 0 ≤ x ∧ x ≤ 10 ∧ 0 ≤ y ∧ y ≤ 18 then .ok (.int (x ^ y.toNat)) else stk
  | _, _, _ => stk
def isF : D → D → M Bool
  | .non, .non => .ok true
  | .bl x, .bl y => .ok (x == y)
  | _, .non => .ok false
  | .non, .bl _ => .ok false
  | .int _, .bl _ => .ok false
  | .str _, .bl _ => .ok false
  | .tup _, .bl _ => .ok false
  | .lst _, .bl _ => .ok false
  | _, _ => stk
/-- what kind of a dict's key: an int or a text; a tuple of such -/
def flatK : D → Bool
  | .int _ => true
  | .str _ => true
  | _ => false
def kindK : D → Option Bool
  | .int _ => some false
  | .str _ => some false
  | .tup ds => if ds.all flatK then some true else none
  | _ => none
def keyFits (x : D) (ks : List D) : Bool := match kindK x with
  | none => false
  | some b => match ks with
    | [] => true
    | k :: _ => decide (kindK k = some b)
def inF (x : D) : D → M Bool
  | .tup xs => inL x xs
  | .lst xs => inL x xs
  | .dct ks _ => if keyFits x ks then inL x ks else stk
  | _ => stk
def cmpF : Cop → D → D → M Bool
  | .eq, x, y => eqD x y
  | .ne, x, y => do .ok (!(← eqD x y))
  | .lt, x, y => ltD x y
  | .gt, x, y => gtD x y
  | .le, x, y => match x, y with
    | .int x, .int y => .ok (decide (x ≤ y))
    | _, _ => stk
  | .ge, x, y => match x, y with
    | .int x, .int y => .ok (decide (y ≤ x))
    | _, _ => stk
  | .isin, x, y => inF x y
  | .nin, x, y => do .ok (!(← inF x y))
  | .is, x, y => isF x y
  | .isn, x, y => do .ok (!(← isF x y))
/-- an item's place -/
def place (n : Nat) (i : Int) : Option Nat := if 0 ≤ i then (if i < n then some i.toNat else none) else if -(n : Int) ≤ i then some (i + n).toNat else none
def dgetL : List D → List D → D → M (Option D)
  | k :: ks, v :: vs, x => do
    let e ← eqD k x
    let r ← dgetL ks vs x
    .ok (if e then some v else r)
  | [], [], _ => .ok none
  | _, _, _ => stk
def dget (ks vs : List D) (x : D) : M (Option D) := if keyFits x ks then dgetL ks vs x else stk
def ixF : D → D → M D
  | .tup xs, .int i => match place xs.length i with | some j => (match xs[j]? with | some x => .ok x | none => stk) | none => stk
  | .lst xs, .int i => match place xs.length i with | some j => (match xs[j]? with | some x => .ok x | none => stk) | none => stk
  | .dct ks vs, k => do match ← dget ks vs k with | some v => .ok v | none => stk
  | _, _ => stk
/-- a slice's end -/
def cutAt (n : Nat) (d : Nat) : Option Int → Nat
  | none => d
  | some i => if i < 0 then (i + n).toNat else min i.toNat n
def cutL (xs : List D) (lo hi : Option Int) : List D := (xs.drop (cutAt xs.length 0 lo)).take (cutAt xs.length xs.length hi - cutAt xs.length 0 lo)
def ioF (nn : Bool) (d : D) : M (Option Int) := if nn then .ok none else match d with
  | .int i => .ok (some i)
  | _ => stk
def slO (l h : Option Int) (x : D) : M D := match x with
  | .tup xs => .ok (.tup (cutL xs l h))
  | .lst xs => .ok (.lst (cutL xs l h))
  | _ => stk
/-- by steps -/
def step2 {α : Type} : List α → List α
  | x :: _ :: r => x :: step2 r
  | x => x
def slK (x : D) (k : Int) : M D := match x with
  | .tup xs => if k = -1 then .ok (.tup xs.reverse) else if k = 2 then .ok (.tup (step2 xs)) else stk
  | _ => stk
/-! ### built-in functions -/
inductive Bi where
  | len | tuple | list | all | any | sum | sorted | min | max | abs | int | set | range | isInt | isBool | isTuple | isStr | isList | dict | gcd
  deriving DecidableEq
def upTo (lo : Int) : Nat → List D
  | 0 => []
  | n + 1 => .int lo ::  upTo (lo + 1) n
def iterD : D → M (List D)
  | .tup xs => .ok xs
  | .lst xs => .ok xs
  | .scr ns => .ok (ns.map .int)
  | _ => stk
def allB : List D → M Bool
  | [] => .ok true
  | .bl b :: r => do
    let s ← allB r
    .ok (b && s)
  | _ => stk
def anyB : List D → M Bool
  | [] => .ok false
  | .bl b :: r => do
    let s ← anyB r
    .ok (b || s)
  | _ => stk
def sumI : List D → M Int
  | [] => .ok 0
  | .int i :: r => do
    let s ← sumI r
    .ok (i + s)
  | _ => stk
/-- insertion: x ahead of the first that is not less -/
def ins (x : D) : List D → M (List D)
  | [] => .ok [x]
  | y :: ys => do
    let l ← ltD y x
    let r ← ins x ys
    .ok (if l then y :: r else x :: y :: ys)
def sortD : List D → M (List D)
  | [] => .ok []
  | x :: xs => do
    let r ← sortD xs
    ins x r
def allInt : List D → Option (List Int)
  | [] => some []
  | .int i :: r => (allInt r).map (i :: ·)
  | _ => none
def allPr : List D → Option (List (Int × Int))
  | [] => some []
  | .tup [.int i, .int j] :: r => (allPr r).map ((i, j) :: ·)
  | _ => none
def prD (p : Int × Int) : D := .tup [.int p.1, .int p.2]
def lexP (p q : Int × Int) : Bool := decide (p.1 < q.1) || (decide (p.1 = q.1) && decide (p.2 < q.2))
def ltI (x y : Int) : Bool := decide (x < y)
def insB {α : Type} (lt : α → α → Bool) (x : α) : List α → List α
  | [] => [x]
  | y :: ys => if lt y x then y :: insB lt x ys else x :: y :: ys
def srtB {α : Type} (lt : α → α → Bool) : List α → List α
  | [] => []
  | x :: xs => insB lt x (srtB lt xs)
mutual
/-- ints and tuples as the library's data -/
def encD : D → PySem.PyData
  | .int i => .int i
  | .tup xs => .tuple (encDs xs)
  | _ => .none
def encDs : List D → List PySem.PyData
  | [] => []
  | x :: r => encD x :: encDs r
end
def datF : Nat → D → Bool
  | _, .int _ => true
  | n + 1, .tup xs => xs.all (datF n)
  | _, _ => false
def tupNe : D → Bool
  | .tup (_ :: _) => true
  | _ => false
def srtOk (xs : List D) : Bool := xs.all tupNe && xs.all (datF 30) && xs.all fun a => xs.all fun b => PySem.W.alike (encD a) (encD b)
def leD : D → D → Bool := PySem.W.dataLe false encD
/-- sorted(..): ints, pairs of ints, tuples of tuples of ints that are alike -/
def srtF (xs : List D) : M (List D) := match allInt xs with
  | some ns => .ok ((srtB ltI ns).map .int)
  | none => match allPr xs with
    | some ps => .ok ((srtB lexP ps).map prD)
    | none => if srtOk xs then .ok (xs.mergeSort leD) else stk
def insU (x : Int) : List Int → List Int
  | [] => [x]
  | y :: ys => if x < y then x :: y :: ys else if x = y then y :: ys else y :: insU x ys
def srtU : List Int → List Int
  | [] => []
  | x :: xs => insU x (srtU xs)
def insUP (x : Int × Int) : List (Int × Int) → List (Int × Int)
  | [] => [x]
  | y :: ys => if lexP x y then x :: y :: ys else if x = y then y :: ys else y :: insUP x ys
def srtUP : List (Int × Int) → List (Int × Int)
  | [] => []
  | x :: xs => insUP x (srtUP xs)
def in64 (p : Int × Int) : Bool := decide (0 ≤ p.1) && decide (p.1 < 64) && decide (0 ≤ p.2) && decide (p.2 < 64)
/-- sorted(set(..)) -/
def sstL (xs : List D) : M (List D) := match allInt xs with
  | some ns => if ns.length < 64 then .ok ((srtU ns).map .int) else stk
  | none => match allPr xs with
    | some ps => if ps.length < 64 ∧ ps.all in64 = true then .ok ((srtUP ps).map prD) else stk
    | none => stk
def sstF : D → M (List D)
  | .tup xs => sstL xs
  | .lst xs => sstL xs
  | _ => stk
/-- len(set(..)) -/
def lseL (xs : List D) : M Int := match allInt xs with
  | some ns => if ns.length < 64 then .ok ((srtU ns).length : Nat) else stk
  | none => match allPr xs with
    | some ps => if ps.length < 64 then .ok ((srtUP ps).length : Nat) else stk
    | none => stk
def lseF : D → M Int
  | .tup xs => lseL xs
  | .lst xs => lseL xs
  | _ => stk
/-- sorted(d) -/
def srtKF (ks : List D) : M (List D) := match allInt ks with
  | some ns => if ns.length < 64 then .ok ((srtB ltI ns).map .int) else stk
  | none => match allPr ks with
    | some ps => .ok ((srtB lexP ps).map prD)
    | none => stk
/-- the first least one -/
def minL (x : D) : List D → M D
  | [] => .ok x
  | y :: ys => do
    let l ← ltD y x
    minL (if l then y else x) ys
def maxL (x : D) : List D → M D
  | [] => .ok x
  | y :: ys => do
    let l ← gtD y x
    maxL (if l then y else x) ys
def addS (xs : List D) (x : D) : M (List D) := do
  let e ← inL x xs
  .ok (if e then xs else xs ++ [x])
def dedup (acc : List D) : List D → M (List D)
  | [] => .ok acc
  | x :: r => do
    let a ← addS acc x
    dedup a r
/-- d[k] = v -/
def dsetL : List D → List D → D → D → M (List D)
  | k :: ks, w :: vs, x, v => do
    let e ← eqD k x
    let r ← dsetL ks vs x v
    .ok ((if e then v else w) :: r)
  | [], [], _, _ => .ok []
  | _, _, _, _ => stk
def dput (ks vs : List D) (x v : D) : M (List D × List D) := if keyFits x ks then do
    let b ← inL x ks
    if b then do
      let vs' ← dsetL ks vs x v
      .ok (ks, vs')
    else .ok (ks ++ [x], vs ++ [v])
  else stk
def dputs (ks vs : List D) : List D → M (List D × List D)
  | [] => .ok (ks, vs)
  | .tup [k, v] :: r => do
    let (ks', vs') ← dput ks vs k v
    dputs ks' vs' r
  | _ => stk
def isD (f : Nat → Bool) : D → M D
  | .bl _ => .ok (.bl (f 0))
  | .int _ => .ok (.bl (f 1))
  | .non => .ok (.bl (f 2))
  | .str _ => .ok (.bl (f 3))
  | .tup _ => .ok (.bl (f 4))
  | .lst _ => .ok (.bl (f 5))
  | _ => stk
def biF : Bi → List D → M D
  | .len, [.tup xs] => .ok (.int xs.length)
  | .len, [.lst xs] => .ok (.int xs.length)
  | .len, [.dct ks _] => .ok (.int ks.length)
  | .tuple, [x] => do .ok (.tup (← iterD x))
  | .list, [x] => do .ok (.lst (← iterD x))
  | .all, [.lst xs] => do .ok (.bl (← allB xs))
  | .any, [.lst xs] => do .ok (.bl (← anyB xs))
  | .sum, [.lst xs] => do .ok (.int (← sumI xs))
  | .sum, [.tup xs] => do .ok (.int (← sumI xs))
  | .sorted, [.lst xs] => do .ok (.lst (← srtF xs))
  | .sorted, [.dct ks _] => do .ok (.lst (← srtKF ks))
  | .min, [.lst (x :: r)] => (match allInt (x :: r) with | some _ => minL x r | none => stk)
  | .max, [.lst (x :: r)] => (match allInt (x :: r) with | some _ => maxL x r | none => stk)
  | .min, [.tup (x :: r)] => (match allInt (x :: r) with | some _ => minL x r | none => stk)
  | .max, [.tup (x :: r)] => (match allInt (x :: r) with | some _ => maxL x r | none => stk)
  | .min, [.int x, .int y] => .ok (.int (if y < x then y else x))
  | .max, [.int x, .int y] => .ok (.int (if y > x then y else x))
  | .abs, [.int x] => .ok (.int (if x < 0 then -x else x))
  | .int, [.int x] => .ok (.int x)
  | .int, [.bl x] => .ok (.int (if x then 1 else 0))
  | .set, [.lst xs] => do .ok (.st (← dedup [] xs))
  | .set, [.tup xs] => do .ok (.st (← dedup [] xs))
  | .range, [.int n] => if -16777216 ≤ n ∧ n ≤ 16777216 then .ok (.rng 0 n) else stk
  | .range, [.int m, .int n] => if -(2 ^ 62) ≤ m ∧ m < 2 ^ 62 ∧ -(2 ^ 62) ≤ n ∧ n < 2 ^ 62 ∧ n - m ≤ 16777216 then .ok (.rng m n) else stk
  | .isInt, [x] => isD (fun k => k == 0 || k == 1) x
  | .isBool, [x] => isD (fun k => k == 0) x
  | .isTuple, [x] => isD (fun k => k == 4) x
  | .isStr, [x] => isD (fun k => k == 3) x
  | .isList, [x] => isD (fun k => k == 5) x
  | .gcd, [.int x, .int y] => .ok (.int ((Nat.gcd x.natAbs y.natAbs : Nat) : Int))
  | .dict, [.lst xs] => do
    let (ks, vs) ← dputs [] [] xs
    .ok (.dct ks vs)
  | _, _ => stk
inductive Mt where
  | dget | lcount | tcount | lindex | tindex
  deriving DecidableEq
/-! ### syntax -/
mutual
inductive T where
  | n (i : Nat) | p (ts : Ts)
inductive Ts where
  | nil | cons (t : T) (r : Ts)
end
mutual
inductive E where
  | c (d : D) | v (i : Nat) | b (i : Nat)
  | tup (es : Es) | lst (es : Es) | emp
  | neg (a : E) | nt (a : E) | bin (o : Bop) (a b : E) | cmp (o : Cop) (a b : E) | cmp2 (o : Cop) (a b : E) (o' : Cop) (c : E)
  | and (a b : E) | or (a b : E) | ife (t a b : E)
  | ix (a i : E) | sl (a lo hi : E) | slk (a : E) (k : Int)
  | call (f : Nat) (es : Es) | bi (f : Bi) (es : Es)
  | meth (m : Mt) (a : E) (es : Es)
  | pop (i : Nat) | popAt (i : Nat) (e : E) | nvr
  /-- sorted(set(..)) -/
  | sst (a : E)
  /-- len(set(..)) -/
  | lse (a : E)
  /-- list(range(..)) -/
  | lrg (es : Es)
  | comp (own : List Nat) (t : T) (it : It) (ifs : Es) (e : E)
  | comp2 (own own1 : List Nat) (t : T) (it : It) (ifs : Es) (t1 : T) (it1 : It) (ifs1 : Es) (e : E)
inductive Es where
  | nil | cons (e : E) (r : Es)
inductive It where
  | e (a : E) | rg (es : Es) | keys (a : E) | enm (a : E) | zip (a b : E) | items (a : E) | vals (a : E) | rng (a b : E) (k : Int)
end
mutual
inductive S where
  | asg (t : T) (e : E) | own (i : Nat) (e : E)
  | two (i j : Nat) (oi oj : Bool) (a b : E) | three (i j k : Nat) (oi oj ok : Bool) (a b c : E)
  | aug (i : Nat) (o : Bop) (e : E) | augL (i : Nat) (e : E)
  | put (i : Nat) (k v : E) | app (i : Nat) (e : E)
  | ex (e : E)
  | ife (c : E) (a b : Ss) | for (t : T) (it : It) (body : Ss) | whl (c : E) (body : Ss)
  | ret (e : E) | retN | rse (c : Nat) | brk | cont | pas | nvr
inductive Ss where
  | nil | cons (s : S) (r : Ss)
end
def isNonC : E → Bool
  | .c .non => true
  | _ => false
inductive Flow where
  | next | ret (d : D) | brk | cont

/-! ### what it denotes -/
def frz (d : D) : D := d
def rd (env : Env) (i : Nat) : M (D × Env) := match env.getD i .nil with
  | .v d => .ok (d, env)
  | .o d => .ok (d, env.set i (.v d))
  | .nil => stk
def peek (env : Env) (i : Nat) : M D := match env.getD i .nil with
  | .v d => .ok d
  | .o d => .ok d
  | .nil => stk
def val (env : Env) : Arg → M D
  | .v d => .ok d
  | .s i => peek env i
def vals (env : Env) : List Arg → M (List D)
  | [] => .ok []
  | a :: r => do
    let d ← val env a
    let ds ← vals env r
    .ok (d :: ds)
mutual
def asgT : T → D → Env → M Env
  | .n i, d, env => if i < env.length then .ok (env.set i (.v d)) else stk
  | .p ts, d, env => match d with
    | .tup xs => asgTs ts xs env
    | _ => stk
def asgTs : Ts → List D → Env → M Env
  | .nil, [], env => .ok env
  | .cons t r, x :: xs, env => do
    let env ← asgT t x env
    asgTs r xs env
  | _, _, _ => stk
end
/-- what a call takes and gives: a slot a parameter; the slots of the parameters behind it -/
abbrev CallT := Nat → List Slot → M (D × List Slot)
/-- an argument as the callee's slot: br tells which parameters are written by the callee -/
def slotOf (env : Env) (br : Bool) : Arg → M Slot
  | .v d => .ok (.v d)
  | .s i => if br then (match env.getD i .nil with | .o d => .ok (.o d) | _ => stk) else stk
def slotsOf (env : Env) : List Bool → List Arg → M (List Slot)
  | br, a :: r => do
    let s ← slotOf env (br.headD false) a
    let ss ← slotsOf env br.tail r
    .ok (s :: ss)
  | _, [] => .ok []
def back (env : Env) : List Arg → List Slot → Env
  | .s i :: r, s :: ss => back (env.set i s) r ss
  | _ :: r, _ :: ss => back env r ss
  | _, _ => env
def wipe (env : Env) : List Nat → Env
  | [] => env
  | i :: r => (wipe env r).set i .nil
def unwipe (old env : Env) : List Nat → Env
  | [] => env
  | i :: r => (unwipe old env r).set i (old.getD i .nil)
/-- the slots a call passes by themselves are all different -/
def argIx : List Arg → List Nat
  | [] => []
  | .s i :: r => i :: argIx r
  | _ :: r => argIx r
def enumL (i : Int) : List D → List D
  | [] => []
  | x :: r => .tup [.int i, x] :: enumL (i + 1) r
def zipL : List D → List D → List D
  | x :: xs, y :: ys => .tup [x, y] :: zipL xs ys
  | _, _ => []
def downs (hi : Int) : Nat → List D
  | 0 => []
  | n + 1 => .int hi :: downs (hi - 1) n
structure Cfg where
  cl : CallT
  br : Nat → List Bool
  W : Nat
  /-- what is returned is new: nobody else has it -/
  nw : Nat → Bool
/-- what each item gives, one behind another -/
def compL (f : D → Env → M (List D × Env)) : List D → Env → M (List D × Env)
  | [], env => .ok ([], env)
  | x :: r, env => do
    let (a, env) ← f x env
    let (b, env) ← compL f r env
    .ok (a ++ b, env)
/-- no exception comes out of it -/
def noX {α : Type} : M α → M α
  | .ok a => .ok a
  | .error _ => stk
/-- the own slots that are walked: nobody reads or writes them meanwhile -/
def hideE : E → List Nat
  | .b i => [i]
  | _ => []
def hide : It → List Nat
  | .e a => hideE a
  | .rg _ => []
  | .keys a => hideE a
  | .enm a => hideE a
  | .zip a b => hideE a ++ hideE b
  | .items a => hideE a
  | .vals a => hideE a
  | .rng _ _ _ => []
/-- pure operations, by values; nothing is raised by them -/
def op1 {α : Type} (f : D → M α) (env : Env) (x : Arg) : M α := noX (do f (← val env x))
def op2 {α : Type} (f : D → D → M α) (env : Env) (x y : Arg) : M α := noX (do f (← val env x) (← val env y))
def opL {α : Type} (f : List D → M α) (env : Env) (xs : List Arg) : M α := noX (do f (← vals env xs))
def seqD : D → M (List D)
  | .tup xs => .ok xs
  | .lst xs => .ok xs
  | .scr ns => .ok (ns.map .int)
  | _ => stk
def rgF : List D → M (List D)
  | [.int n] => if -16777216 ≤ n ∧ n ≤ 16777216 then .ok (upTo 0 n.toNat) else stk
  | [.int m, .int n] => if -(2 ^ 62) ≤ m ∧ m < 2 ^ 62 ∧ -(2 ^ 62) ≤ n ∧ n < 2 ^ 62 ∧ n - m ≤ 16777216 then .ok (upTo m (n - m).toNat) else stk
  | _ => stk
def keysF : D → M (List D)
  | .dct ks _ => .ok ks
  | _ => stk
def negF : D → M D
  | .int i => .ok (.int (-i))
  | _ => stk
def getF (k d x : D) : M D := match x with
  | .dct ks vs => do
    match ← dget ks vs k with
    | some v => .ok v
    | none => .ok d
  | _ => stk
def enumF : D → M (List D)
  | .tup xs => .ok (enumL 0 xs)
  | .lst xs => .ok (enumL 0 xs)
  | _ => stk
def itemsF : D → M (List D)
  | .dct ks vs => .ok (zipL ks vs)
  | _ => stk
def valsF : D → M (List D)
  | .dct _ vs => .ok vs
  | _ => stk
def downF (k : Int) : D → D → M (List D)
  | .int hi, .int lo => if k = -1 ∧ hi - lo ≤ 16777216 then .ok (downs hi (hi - lo).toNat) else stk
  | _, _ => stk
def zipF : D → D → M (List D)
  | .lst xs, .lst ys => if xs.length ≤ sz then .ok (zipL xs ys) else stk
  | .tup xs, .tup ys => if xs.length ≤ sz then .ok (zipL xs ys) else stk
  | _, _ => stk
def mtTy : Mt → D → M Unit
  | .dget, .dct _ _ => .ok ()
  | .lcount, .lst _ => .ok ()
  | .lindex, .lst _ => .ok ()
  | _, _ => stk
def countL (x : D) : List D → M Nat
  | [] => .ok 0
  | y :: r => do
    let e ← eqD y x
    let n ← countL x r
    .ok (if e then n + 1 else n)
def indexL (x : D) : List D → M Nat
  | [] => stk
  | y :: r => do
    let e ← eqD y x
    if e then .ok 0 else do
      let n ← indexL x r
      .ok (n + 1)
def mtF : Mt → List D → M D
  | .dget, [x, k] => getF k .non x
  | .dget, [x, k, d] => getF k d x
  | .lcount, [.lst xs, .int k] => (match allInt xs with | some ns => .ok (.int ((ns.count k : Nat) : Int)) | none => stk)
  | .tcount, [.tup xs, x] => do .ok (.int (← countL x xs))
  | .lindex, [.lst xs, x] => do .ok (.int (← indexL x xs))
  | .tindex, [.tup xs, x] => do .ok (.int (← indexL x xs))
  | _, _ => stk
def ownL (env : Env) (i : Nat) : M Unit := match env.getD i .nil with
  | .o (.lst _) => .ok ()
  | _ => stk
def popF (env : Env) (i : Nat) : M (D × Env) := match env.getD i .nil with
  | .o (.lst xs) => if xs.isEmpty then stk else .ok (xs.getLastD .non, env.set i (.o (.lst xs.dropLast)))
  | _ => stk
def popAtF (env : Env) (i : Nat) (k : D) : M (D × Env) := match env.getD i .nil, k with
  | .o (.lst xs), .int k => (match place xs.length k with
    | some j => if xs.length ≤ sz then .ok (xs.getD j .non, env.set i (.o (.lst (xs.eraseIdx j)))) else stk
    | none => stk)
  | _, _ => stk
/-- an operand: a slot's name is not read yet -/
def opn (e : E) (env : Env) (r : M (D × Env)) : M (Arg × Env) := match e with
  | .b i => noX (do
    let _ ← peek env i
    .ok (.s i, env))
  | _ => r >>= fun p => .ok (.v p.1, p.2)
section
variable (X : Cfg)
mutual
def den : E → Env → M (D × Env)
  | .c d, env => .ok (d, env)
  | .v i, env => noX (rd env i)
  | .b _, _ => stk
  | .tup es, env => do
    let (as, env) ← dens es env
    .ok (.tup (← opL .ok env as), env)
  | .lst es, env => do
    let (as, env) ← dens es env
    .ok (.lst (← opL .ok env as), env)
  | .emp, env => .ok (.dct [] [], env)
  | .neg a, env => do
    let (x, env) ← opn a env (den a env)
    .ok (← op1 negF env x, env)
  | .nt a, env => do
    let (x, env) ← opn a env (den a env)
    .ok (.bl (!(← op1 truthy env x)), env)
  | .bin o a b, env => do
    let (x, env) ← opn a env (den a env)
    let (y, env) ← opn b env (den b env)
    .ok (← op2 (binF o) env x y, env)
  | .cmp o a b, env => do
    let (x, env) ← opn a env (den a env)
    let (y, env) ← opn b env (den b env)
    .ok (.bl (← op2 (cmpF o) env x y), env)
  | .cmp2 o a b o' c, env => do
    let (x, env) ← opn a env (den a env)
    let (y, env) ← opn b env (den b env)
    if ← op2 (cmpF o) env x y then do
      let (z, env) ← opn c env (den c env)
      .ok (.bl (← op2 (cmpF o') env y z), env)
    else .ok (.bl false, env)
  | .and a b, env => do
    let (x, env) ← den a env
    if ← noX (truthy x) then den b env else .ok (x, env)
  | .or a b, env => do
    let (x, env) ← den a env
    if ← noX (truthy x) then .ok (x, env) else den b env
  | .ife t a b, env => do
    let (x, env) ← opn t env (den t env)
    if ← op1 truthy env x then den a env else den b env
  | .ix a i, env => do
    let (x, env) ← opn a env (den a env)
    let (y, env) ← opn i env (den i env)
    .ok (← op2 ixF env x y, env)
  | .sl a lo hi, env => do
    let (x, env) ← opn a env (den a env)
    let (l, env) ← den lo env
    let l ← noX (ioF (isNonC lo) l)
    let (h, env) ← den hi env
    let h ← noX (ioF (isNonC hi) h)
    .ok (← op1 (slO l h) env x, env)
  | .slk a k, env => do
    let (x, env) ← opn a env (den a env)
    .ok (← op1 (fun x => slK x k) env x, env)
  | .call f es, env => do
    let (as, env) ← dens es env
    let ss ← noX (slotsOf env (X.br f) as)
    let (d, outs) ← X.cl f ss
    .ok (d, back env as outs)
  | .bi f es, env => do
    let (as, env) ← dens es env
    .ok (← opL (biF f) env as, env)
  | .meth m a es, env => do
    let (x, env) ← opn a env (den a env)
    let _ ← op1 (mtTy m) env x
    let (as, env) ← dens es env
    .ok (← opL (mtF m) env (x :: as), env)
  | .nvr, _ => stk
  | .sst a, env => do
    let (x, env) ← opn a env (den a env)
    .ok (.lst (← op1 sstF env x), env)
  | .lse a, env => do
    let (x, env) ← opn a env (den a env)
    .ok (.int (← op1 lseF env x), env)
  | .lrg es, env => do
    let (as, env) ← dens es env
    .ok (.lst (← opL rgF env as), env)
  | .pop i, env => noX (popF env i)
  | .popAt i e, env => do
    let _ ← noX (ownL env i)
    let (k, env) ← den e env
    noX (popAtF env i k)
  | .comp own t it ifs e, env => do
    let (xs, env) ← deni it env
    let (ys, env') ← noX (compL (fun x env => do
      let env ← noX (asgT t x (wipe env own))
      let (b, env) ← denIfs ifs env
      if b then do
        let (d, env) ← den e env
        .ok ([d], env)
      else .ok ([], env)) xs (wipe env (hide it)))
    .ok (.lst ys, unwipe env env' (own ++ hide it))
  | .comp2 own own1 t it ifs t1 it1 ifs1 e, env => do
    let (xs, env) ← deni it env
    let (ys, env') ← noX (compL (fun x env => do
      let env ← noX (asgT t x (wipe env own))
      let (b, env) ← denIfs ifs env
      if b then do
        let (zs, env) ← deni it1 env
        let (ys, env') ← compL (fun y env => do
          let env ← noX (asgT t1 y (wipe env own1))
          let (b, env) ← denIfs ifs1 env
          if b then do
            let (d, env) ← den e env
            .ok ([d], env)
          else .ok ([], env)) zs (wipe env (hide it1))
        .ok (ys, unwipe env env' (hide it1))
      else .ok ([], env)) xs (wipe env (hide it)))
    if ys.length ≤ sz then .ok (.lst ys, unwipe env env' (own ++ hide it)) else stk
def dens : Es → Env → M (List Arg × Env)
  | .nil, env => .ok ([], env)
  | .cons e r, env => do
    let (x, env) ← opn e env (den e env)
    let (xs, env) ← dens r env
    .ok (x :: xs, env)
def denIfs : Es → Env → M (Bool × Env)
  | .nil, env => .ok (true, env)
  | .cons e r, env => do
    let (x, env) ← opn e env (den e env)
    if ← op1 truthy env x then denIfs r env else .ok (false, env)
def deni : It → Env → M (List D × Env)
  | .e a, env => do
    let (x, env) ← opn a env (den a env)
    .ok (← op1 seqD env x, env)
  | .rg es, env => do
    let (as, env) ← dens es env
    .ok (← opL rgF env as, env)
  | .keys a, env => do
    let (x, env) ← opn a env (den a env)
    .ok (← op1 keysF env x, env)
  | .enm a, env => do
    let (x, env) ← opn a env (den a env)
    .ok (← op1 enumF env x, env)
  | .zip a b, env => do
    let (x, env) ← opn a env (den a env)
    let (y, env) ← opn b env (den b env)
    .ok (← op2 zipF env x y, env)
  | .items a, env => do
    let (x, env) ← opn a env (den a env)
    .ok (← op1 itemsF env x, env)
  | .vals a, env => do
    let (x, env) ← opn a env (den a env)
    .ok (← op1 valsF env x, env)
  | .rng a b k, env => do
    let (x, env) ← opn a env (den a env)
    let (y, env) ← opn b env (den b env)
    .ok (← op2 (downF k) env x y, env)
end
def deno (e : E) (env : Env) : M (Arg × Env) := opn e env (den X e env)
/-- a while, W turns at most -/
def whileN (t : Env → M (Bool × Env)) (f : Env → M (Flow × Env)) : Nat → Env → M (Flow × Env)
  | 0, _ => stk
  | n + 1, env => do
    let (b, env) ← t env
    if b then do
      let (w, env) ← f env
      match w with
      | .next => whileN t f n env
      | .cont => whileN t f n env
      | .brk => .ok (.next, env)
      | .ret d => .ok (.ret d, env)
    else .ok (.next, env)
def forL (f : D → Env → M (Flow × Env)) : List D → Env → M (Flow × Env)
  | [], env => .ok (.next, env)
  | x :: r, env => do
    let (w, env) ← f x env
    match w with
    | .next => forL f r env
    | .cont => forL f r env
    | .brk => .ok (.next, env)
    | .ret d => .ok (.ret d, env)
def setS (env : Env) (i : Nat) (own : Bool) (d : D) : M Env := if i < env.length then .ok (env.set i (if own then .o d else .v d)) else stk
def augF (o : Bop) : D → D → M D
  | .int x, .int y => binF o (.int x) (.int y)
  | _, _ => stk
def augLF (env : Env) (i : Nat) (y : D) : M Env := match env.getD i .nil, y with
  | .o (.lst xs), .lst ys => if xs.length + ys.length ≤ sz then .ok (env.set i (.o (.lst (xs ++ ys)))) else stk
  | _, _ => stk
def putD : D → D → D → M D
  | .lst xs, .int k, v => (match place xs.length k with
    | some j => .ok (.lst (xs.set j v))
    | none => stk)
  | .dct ks vs, k, v => if ks.length < sz then do
      let (ks', vs') ← dput ks vs k v
      .ok (.dct ks' vs')
    else stk
  | _, _, _ => stk
def ownD (env : Env) (i : Nat) : M Unit := match env.getD i .nil with
  | .o _ => .ok ()
  | _ => stk
def putF (env : Env) (i : Nat) (k v : D) : M Env := match env.getD i .nil with
  | .o d => do
    let d' ← putD d k v
    .ok (env.set i (.o d'))
  | _ => stk
def appF (env : Env) (i : Nat) (v : D) : M Env := match env.getD i .nil with
  | .o (.lst xs) => if xs.length < sz then .ok (env.set i (.o (.lst (xs ++ [v])))) else stk
  | _ => stk
mutual
def exe : S → Env → M (Flow × Env)
  | .asg t e, env => do
    let (d, env) ← den X e env
    .ok (.next, ← noX (asgT t d env))
  | .own i e, env => do
    let (d, env) ← den X e env
    .ok (.next, ← noX (setS env i true d))
  | .two i j oi oj a b, env => do
    let (x, env) ← den X a env
    let (y, env) ← den X b env
    let env ← noX (setS env i oi x)
    .ok (.next, ← noX (setS env j oj y))
  | .three i j k oi oj ok a b c, env => do
    let (x, env) ← den X a env
    let (y, env) ← den X b env
    let (z, env) ← den X c env
    let env ← noX (setS env i oi x)
    let env ← noX (setS env j oj y)
    .ok (.next, ← noX (setS env k ok z))
  | .aug i o e, env => do
    let x ← noX (peek env i)
    let (y, env) ← den X e env
    let z ← noX (augF o x y)
    .ok (.next, ← noX (setS env i false z))
  | .augL i e, env => do
    let _ ← noX (ownL env i)
    let (y, env) ← den X e env
    .ok (.next, ← noX (augLF env i y))
  | .put i k v, env => do
    let (v, env) ← den X v env
    let _ ← noX (ownD env i)
    let (k, env) ← den X k env
    .ok (.next, ← noX (putF env i k v))
  | .app i e, env => do
    let _ ← noX (ownL env i)
    let (v, env) ← den X e env
    .ok (.next, ← noX (appF env i v))
  | .ex e, env => do
    let (_, env) ← den X e env
    .ok (.next, env)
  | .ife c a b, env => do
    let (x, env) ← deno X c env
    if ← op1 truthy env x then exes a env else exes b env
  | .for t it body, env => do
    let (xs, env) ← deni X it env
    let (w, env') ← forL (fun x env => do exes body (← noX (asgT t x env))) xs (wipe env (hide it))
    .ok (w, unwipe env env' (hide it))
  | .whl c body, env => whileN (fun env => do
      let (x, env) ← deno X c env
      .ok (← op1 truthy env x, env)) (fun env => exes body env) X.W env
  | .ret e, env => do
    let (d, env) ← den X e env
    .ok (.ret d, env)
  | .retN, env => .ok (.ret .non, env)
  | .rse c, _ => .error (.exc c [])
  | .brk, env => .ok (.brk, env)
  | .cont, env => .ok (.cont, env)
  | .pas, env => .ok (.next, env)
  | .nvr, _ => stk
def exes : Ss → Env → M (Flow × Env)
  | .nil, env => .ok (.next, env)
  | .cons s r, env => do
    let (w, env) ← exe s env
    match w with
    | .next => exes r env
    | w => .ok (w, env)
end
end
/-- a def: its parameters (which are written), how many slots in all, its body -/
structure Fn where
  br : List Bool
  nw : Bool
  n : Nat
  body : Ss
/-- what comes back of the parameters: those that are written by the def -/
def outs : List Bool → Env → List Slot
  | b :: br, s :: env => (if b then s else .nil) :: outs br env
  | _ :: br, [] => .nil :: outs br []
  | [], _ => []
def brOk : List Bool → List Slot → Bool
  | true :: br, .o _ :: ss => brOk br ss
  | true :: _, _ => false
  | false :: br, _ :: ss => brOk br ss
  | _, _ => true
def cfgN (P : List Fn) (W : Nat) (cl : CallT) : Cfg := ⟨cl, fun f => match P[f]? with | some fn => fn.br | none => [], W, fun f => match P[f]? with | some fn => fn.nw | none => false⟩
/-- a program's defs, n calls deep at most -/
def callN (P : List Fn) (W : Nat) : Nat → CallT
  | 0, _, _ => stk
  | n + 1, f, ss => match P[f]? with
    | none => stk
    | some fn => if ss.length = fn.br.length ∧ brOk fn.br ss = true then do
        let (w, env) ← exes (cfgN P W (callN P W n)) fn.body (ss ++ List.replicate (fn.n - ss.length) .nil)
        match w with
        | .ret d => .ok (d, outs fn.br env)
        | .next => if fn.nw then stk else .ok (.non, outs fn.br env)
        | _ => stk
      else stk
theorem deno_eq {X : Cfg} {e : E} {env : Env} : deno X e env = opn e env (den X e env) := rfl
end L2.DN

/-! DenB: how plain values lie in the abstract heap; equality, order, membership -/
namespace L2.DN
open PySem PySem.Spec PyProof.Rows L2

def keyD : Key → D
  | .inl i => .int i
  | .inr x => .str x
mutual
inductive Rep (K : PySem.W.Frag) (H : Hp) : V → D → Prop
  | non : Rep K H .non .non
  | bl (b : Bool) : Rep K H (.bl b) (.bl b)
  | int (i : Int) : Rep K H (.int i) (.int i)
  | str (x : Str) : Rep K H (.str x) (.str x)
  | tup {a : Addr} {vs : List V} {ds : List D} : H a = some (.tup vs) → Reps K H vs ds → Rep K H (.ref a) (.tup ds)
  | lst {a : Addr} {vs : List V} {ds : List D} : H a = some (.lst vs) → Reps K H vs ds → Rep K H (.ref a) (.lst ds)
  | dK {a : Addr} {kvs : List (Key × V)} {ds : List D} : H a = some (.dK kvs) → Reps K H (kvs.map (·.2)) ds → Rep K H (.ref a) (.dct (kvs.map fun p => keyD p.1) ds)
  | dT {a : Addr} {kvs : List (List Key × V)} {ds : List D} : H a = some (.dT kvs) → Reps K H (kvs.map (·.2)) ds → Rep K H (.ref a) (.dct (kvs.map fun p => .tup (p.1.map keyD)) ds)
  | rng {a : Addr} {lo hi : Int} : H a = some (.rng lo hi) → Rep K H (.ref a) (.rng lo hi)
  | scr {a : Addr} {ns : List Int} : SqL K H a (ns.map V.int) → Rep K H (.ref a) (.scr ns)
inductive Reps (K : PySem.W.Frag) (H : Hp) : List V → List D → Prop
  | nil : Reps K H [] []
  | cons {v : V} {vs : List V} {d : D} {ds : List D} : Rep K H v d → Reps K H vs ds → Reps K H (v :: vs) (d :: ds)
end
def Sub (F H : Hp) : Prop := ∀ a o, F a = some o → H a = some o
theorem Sub.refl (H : Hp) : Sub H H := fun _ _ h => h
theorem Sub.trans {F G H : Hp} (a : Sub F G) (b : Sub G H) : Sub F H := fun c o h => b c o (a c o h)
theorem Sub.sqL {K : PySem.W.Frag} {F H : Hp} {a : Addr} {xs : List V} (s : Sub F H) (h : SqL K F a xs) : SqL K H a xs := by
  rcases h with (h | ⟨o, h⟩) | h
  · exact .inl (.inl (s _ _ h))
  · exact .inl (.inr ⟨o, s _ _ h⟩)
  · exact .inr h
theorem Sub.sqT {K : PySem.W.Frag} {F H : Hp} {a : Addr} {xs : List V} (s : Sub F H) (h : SqT K F a xs) : SqT K H a xs := by
  rcases h with (h | ⟨o, h⟩) | h
  · exact .inl (.inl (s _ _ h))
  · exact .inl (.inr ⟨o, s _ _ h⟩)
  · exact .inr h
section
variable {K : PySem.W.Frag} {F H : Hp}
mutual
theorem Rep.mono (s : Sub F H) : ∀ {v : V} {d : D}, Rep K F v d → Rep K H v d
  | _, _, .non => .non
  | _, _, .bl b => .bl b
  | _, _, .int i => .int i
  | _, _, .str x => .str x
  | _, _, .tup h r => .tup (s _ _ h) (Reps.mono s r)
  | _, _, .lst h r => .lst (s _ _ h) (Reps.mono s r)
  | _, _, .dK h r => .dK (s _ _ h) (Reps.mono s r)
  | _, _, .dT h r => .dT (s _ _ h) (Reps.mono s r)
  | _, _, .rng h => .rng (s _ _ h)
  | _, _, .scr h => .scr (s.sqL h)
theorem Reps.mono (s : Sub F H) : ∀ {vs : List V} {ds : List D}, Reps K F vs ds → Reps K H vs ds
  | _, _, .nil => .nil
  | _, _, .cons h r => .cons (Rep.mono s h) (Reps.mono s r)
end
theorem Reps.length : ∀ {vs : List V} {ds : List D}, Reps K H vs ds → vs.length = ds.length
  | _, _, .nil => rfl
  | _, _, .cons _ r => by rw [List.length_cons, List.length_cons, Reps.length r]
theorem Reps.get : ∀ {vs : List V} {ds : List D} {i : Nat} {d : D}, Reps K H vs ds → ds[i]? = some d → ∃ v, vs[i]? = some v ∧ Rep K H v d
  | _, _, _, _, .nil, e => by simp at e
  | _, _, 0, _, .cons h _, e => by simp at e; subst e; exact ⟨_, rfl, h⟩
  | _, _, i + 1, _, .cons _ r, e => by
    obtain ⟨v, h1, h2⟩ := Reps.get (i := i) r (by simpa using e)
    exact ⟨v, by simpa using h1, h2⟩
theorem Reps.getV : ∀ {vs : List V} {ds : List D} {i : Nat} {v : V}, Reps K H vs ds → vs[i]? = some v → ∃ d, ds[i]? = some d ∧ Rep K H v d
  | _, _, _, _, .nil, e => by simp at e
  | _, _, 0, _, .cons h _, e => by simp at e; subst e; exact ⟨_, rfl, h⟩
  | _, _, i + 1, _, .cons _ r, e => by
    obtain ⟨v, h1, h2⟩ := Reps.getV (i := i) r (by simpa using e)
    exact ⟨v, by simpa using h1, h2⟩
theorem Reps.append : ∀ {vs ws : List V} {ds es : List D}, Reps K H vs ds → Reps K H ws es → Reps K H (vs ++ ws) (ds ++ es)
  | _, _, _, _, .nil, s => s
  | _, _, _, _, .cons h r, s => .cons h (Reps.append r s)
theorem Reps.take : ∀ {vs : List V} {ds : List D} (n : Nat), Reps K H vs ds → Reps K H (vs.take n) (ds.take n)
  | _, _, 0, _ => .nil
  | _, _, _ + 1, .nil => .nil
  | _, _, n + 1, .cons h r => .cons h (Reps.take n r)
theorem Reps.drop : ∀ {vs : List V} {ds : List D} (n : Nat), Reps K H vs ds → Reps K H (vs.drop n) (ds.drop n)
  | _, _, 0, r => r
  | _, _, _ + 1, .nil => .nil
  | _, _, n + 1, .cons h r => Reps.drop n r
theorem Reps.set {v : V} {d : D} (h : Rep K H v d) : ∀ {vs : List V} {ds : List D} (i : Nat), Reps K H vs ds → Reps K H (vs.set i v) (ds.set i d)
  | _, _, _, .nil => .nil
  | _, _, 0, .cons _ r => .cons h r
  | _, _, i + 1, .cons g r => .cons g (Reps.set h i r)
theorem Reps.eraseIdx : ∀ {vs : List V} {ds : List D} (i : Nat), Reps K H vs ds → Reps K H (vs.eraseIdx i) (ds.eraseIdx i)
  | _, _, _, .nil => .nil
  | _, _, 0, .cons _ r => r
  | _, _, i + 1, .cons g r => .cons g (Reps.eraseIdx i r)
theorem Reps.reverse : ∀ {vs : List V} {ds : List D}, Reps K H vs ds → Reps K H vs.reverse ds.reverse
  | _, _, .nil => .nil
  | _, _, .cons h r => by
    rw [List.reverse_cons, List.reverse_cons]
    exact (Reps.reverse r).append (.cons h .nil)
theorem Reps.mem : ∀ {vs : List V} {ds : List D} {d : D}, Reps K H vs ds → d ∈ ds → ∃ v, v ∈ vs ∧ Rep K H v d
  | _, _, _, .nil, e => by simp at e
  | _, _, d, .cons h r, e => by
    rcases List.mem_cons.mp e with rfl | e
    · exact ⟨_, List.mem_cons_self, h⟩
    · obtain ⟨v, m, q⟩ := Reps.mem r e
      exact ⟨v, List.mem_cons_of_mem _ m, q⟩
end

section
variable {X : Cx} {pins : List (Addr × Obj)} {σ : St} {H : Hp} {s : Shared}
theorem Rep.tupAt (I : Inv X pins σ H s) {v : V} {u : Value} {ds : List D} (h : Rep X.K H v (.tup ds)) (r : RelV v u) :
    ∃ a vs its, v = .ref a ∧ u = .ref a ∧ H a = some (.tup vs) ∧ Reps X.K H vs ds ∧ Vals vs its ∧ IsTup s.heap a its.toArray ∧ vs.length ≤ sizeLine := by
  cases h with
  | tup h g =>
    cases r
    obtain ⟨its, rv, p, z⟩ := I.tuple (SqT.of h)
    exact ⟨_, _, its, rfl, rfl, h, g, rv, p, z⟩
theorem Rep.lstAt (I : Inv X pins σ H s) {v : V} {u : Value} {ds : List D} (h : Rep X.K H v (.lst ds)) (r : RelV v u) :
    ∃ a vs its, v = .ref a ∧ u = .ref a ∧ H a = some (.lst vs) ∧ Reps X.K H vs ds ∧ Vals vs its ∧ PlainL s.heap a its.toArray ∧ vs.length ≤ sizeLine := by
  cases h with
  | lst h g =>
    cases r
    obtain ⟨its, rv, p, z⟩ := I.list (SqL.of h)
    exact ⟨_, _, its, rfl, rfl, h, g, rv, p, z⟩

theorem not_tup_lst {H : Hp} {a : Addr} {vs ws : List V} (h : H a = some (.tup vs)) (g : H a = some (.lst ws)) : False := by
  rw [h] at g
  cases g

theorem eqs_same {f : D → D → Option Bool} (hf : ∀ (v : V) (a b : D) (r : Bool), f a b = some r → Rep X.K H v a → Rep X.K H v b → r = true) :
    ∀ (xs ys : List D) (vs : List V) (r : Bool), eqs f xs ys = some r → Reps X.K H vs xs → Reps X.K H vs ys → r = true := by
  intro xs
  induction xs with
  | nil =>
    intro ys vs r h p q
    cases p
    cases q
    simp [eqs] at h; exact h
  | cons x xs ih =>
    intro ys vs r h p q
    cases p with
    | cons p ps =>
      cases q with
      | cons q qs =>
        simp only [eqs] at h
        split at h
        · rename_i x1 y1 e1 e2
          have h1 := hf _ _ _ _ e1 p q
          have h2 := ih _ _ _ e2 ps qs
          subst h1 h2
          simpa using h.symm
        · cases h
theorem eq_same (I : Inv X pins σ H s) : ∀ (n : Nat) (v : V) (a b : D) (r : Bool), eqF n a b = some r → Rep X.K H v a → Rep X.K H v b → r = true
  | 0, _, _, _, _, h, _, _ => by simp [eqF] at h
  | n + 1, v, a, b, r, h, p, q => by
    have ih := eq_same I n
    cases p with
    | non => cases q; simp [eqF] at h; exact h
    | bl b => cases q; simp [eqF] at h; exact h
    | int i => cases q; simp [eqF] at h; exact h
    | str x => cases q; simp [eqF] at h; exact h
    | tup hp gp =>
      cases q with
      | tup hq gq =>
        have e := I.tuple_inj (SqT.of hp) (SqT.of hq)
        subst e
        simp only [eqF] at h
        exact eqs_same ih _ _ _ _ h gp gq
      | lst hq gq => exact (not_tup_lst hp hq).elim
      | dK _ _ => simp [eqF] at h
      | dT _ _ => simp [eqF] at h
      | rng _ => simp [eqF] at h
      | scr _ => simp [eqF] at h
    | lst hp gp =>
      cases q with
      | lst hq gq =>
        have e := I.list_inj (SqL.of hp) (SqL.of hq)
        subst e
        simp only [eqF] at h
        exact eqs_same ih _ _ _ _ h gp gq
      | tup hq gq => exact (not_tup_lst hq hp).elim
      | dK _ _ => simp [eqF] at h
      | dT _ _ => simp [eqF] at h
      | rng _ => simp [eqF] at h
      | scr _ => simp [eqF] at h
    | dK _ _ => cases b <;> simp [eqF] at h
    | dT _ _ => cases b <;> simp [eqF] at h
    | rng _ => cases b <;> simp [eqF] at h
    | scr _ => cases b <;> simp [eqF] at h

/-! ### == -/
open SeqAt (EqAt RcAt)
theorem eqs_len : ∀ {f : D → D → Option Bool} {xs ys : List D} {r : Bool}, eqs f xs ys = some r → r = true → xs.length = ys.length
  | _, [], [], _, _, _ => rfl
  | _, [], _ :: _, r, h, e => by simp [eqs] at h; rw [e] at h; simp at h
  | _, _ :: _, [], r, h, e => by simp [eqs] at h; rw [e] at h; simp at h
  | f, x :: xs, y :: ys, r, h, e => by
    simp only [eqs] at h
    split at h
    · rename_i x1 y1 e1 e2
      subst e
      have h' := Option.some.inj h
      have hy : y1 = true := by
        cases y1
        · simp at h'
        · rfl
      have := eqs_len e2 hy
      simp [this]
    · cases h
/-- the answers at each place -/
def eAt (f : D → D → Option Bool) : List D → List D → Nat → Bool
  | x :: _, y :: _, 0 => (f x y).getD false
  | _ :: xs, _ :: ys, j + 1 => eAt f xs ys j
  | _, _, _ => false
theorem eqs_at : ∀ {f : D → D → Option Bool} {xs ys : List D} {r : Bool} {j : Nat} {x y : D}, eqs f xs ys = some r → xs[j]? = some x → ys[j]? = some y → f x y = some (eAt f xs ys j)
  | _, [], _, _, _, _, _, _, h, _ => by simp at h
  | _, _ :: _, [], _, _, _, _, _, _, h => by simp at h
  | f, a :: xs, b :: ys, r, 0, x, y, h, h1, h2 => by
    simp at h1 h2
    subst h1 h2
    simp only [eqs] at h
    split at h
    · rename_i x1 y1 e1 e2
      simp [eAt, e1]
    · cases h
  | f, a :: xs, b :: ys, r, j + 1, x, y, h, h1, h2 => by
    simp only [eqs] at h
    split at h
    · rename_i x1 y1 e1 e2
      exact eqs_at (xs := xs) (ys := ys) (j := j) e2 (by simpa using h1) (by simpa using h2)
    · cases h
theorem eqs_all : ∀ {f : D → D → Option Bool} {xs ys : List D} {r : Bool}, eqs f xs ys = some r → ((List.range (min xs.length ys.length)).all (eAt f xs ys) && xs.length == ys.length) = r
  | _, [], [], r, h => by simp [eqs] at h; simp [h]
  | _, [], _ :: _, r, h => by simp [eqs] at h; subst h; simp
  | _, _ :: _, [], r, h => by simp [eqs] at h; subst h; simp
  | f, x :: xs, y :: ys, r, h => by
    simp only [eqs] at h
    split at h
    · rename_i x1 y1 e1 e2
      have ih := eqs_all e2
      have h' := Option.some.inj h
      subst h'
      rw [← ih, List.length_cons, List.length_cons, Nat.succ_min_succ, List.range_succ_eq_map, List.all_cons, List.all_map]
      have e3 : eAt f (x :: xs) (y :: ys) 0 = x1 := by simp [eAt, e1]
      have e4 : (eAt f (x :: xs) (y :: ys) ∘ Nat.succ) = eAt f xs ys := by funext j; rfl
      rw [e3, e4]
      simp [Bool.and_assoc]
    · cases h
theorem Vals.getS {xs : List V} {us : List Value} (r : Vals xs us) {j : Nat} (h : j < us.length) : ∃ x, xs[j]? = some x ∧ RelV x us[j] := by
  have hx : j < xs.length := by rw [r.length]; exact h
  obtain ⟨u, h1, h2⟩ := r.get (i := j) (x := xs[j]) (by simp [hx])
  rw [List.getElem?_eq_getElem h] at h1
  cases h1
  exact ⟨_, by simp [hx], h2⟩
theorem b2i_eq (b : Bool) : (if b = true then (1 : Int) else 0) = b2i b := rfl
theorem eqs_none_len {f : D → D → Option Bool} : ∀ {xs ys : List D} {r : Bool}, eqs f xs ys = some r → xs.length ≠ ys.length → r = false := fun {xs ys r} h e => by
  cases r
  · rfl
  · exact absurd (eqs_len h rfl) e
theorem eq_at (I : Inv X pins σ H s) : ∀ (n : Nat) (a b : D) (r : Bool) (x y : V) (v u : Value) (A : Around), eqF n a b = some r → A.units + n < cLine → Rep X.K H x a → Rep X.K H y b → RelV x v → RelV y u → EqAt A s v u r
  | 0, _, _, _, _, _, _, _, _, h, _, _, _, _, _ => by simp [eqF] at h
  | n + 1, a, b, r, x, y, v, u, A, h, hu, p, q, rp, rq => by
    have hu0 : A.units < cLine := by omega
    have ih : ∀ (a b : D) (r : Bool) (x y : V) (v u : Value), eqF n a b = some r → Rep X.K H x a → Rep X.K H y b → RelV x v → RelV y u → EqAt A.in1 s v u r := fun a b r x y v u e1 e2 e3 e4 e5 => eq_at I n a b r x y v u A.in1 e1 (by show A.units + 1 + n < cLine; omega) e2 e3 e4 e5
    have its : ∀ {xs ys : List D} {k : Bool} {vs ws : List V} {its its' : List Value}, eqs (eqF n) xs ys = some k → Reps X.K H vs xs → Reps X.K H ws ys → Vals vs its → Vals ws its' →
        ∀ j (h1 : j < its.toArray.size) (h2 : j < its'.toArray.size), EqAt A.in1 s its.toArray[j] its'.toArray[j] (eAt (eqF n) xs ys j) := by
      intro xs ys k vs ws its its' e g1 g2 v1 v2 j h1 h2
      obtain ⟨x1, a1, b1⟩ := Vals.getS v1 (j := j) (by simpa using h1)
      obtain ⟨y1, a2, b2⟩ := Vals.getS v2 (j := j) (by simpa using h2)
      obtain ⟨d1, c1, r1⟩ := g1.getV a1
      obtain ⟨d2, c2, r2⟩ := g2.getV a2
      exact ih _ _ _ _ _ _ _ (eqs_at e c1 c2) r1 r2 b1 b2
    cases p with
    | non =>
      cases rp
      cases q with
      | non => cases rq; simp [eqF] at h; subst h; exact EqAt.same _
      | bl b => cases rq; simp [eqF] at h; subst h; exact EqAt.none_bool _
      | int i => obtain ⟨t, rfl⟩ := rq; simp [eqF] at h; subst h; exact EqAt.none_int _ _
      | str i => obtain ⟨t, rfl⟩ := rq; simp [eqF] at h; subst h; exact EqAt.none_str _ _
      | tup hq gq => cases rq; simp [eqF] at h; subst h; obtain ⟨its, _, p, _⟩ := I.tuple (SqT.of hq); exact EqAt.none_tuple p hu0
      | lst hq gq => cases rq; simp [eqF] at h; subst h; obtain ⟨its, _, p, _⟩ := I.list (SqL.of hq); exact EqAt.none_list p.isList hu0
      | dK _ _ => simp [eqF] at h
      | dT _ _ => simp [eqF] at h
      | rng _ => simp [eqF] at h
      | scr _ => simp [eqF] at h
    | bl c =>
      cases rp
      cases q with
      | non => cases rq; simp [eqF] at h; subst h; exact EqAt.bool_none _
      | bl b => cases rq; simp [eqF] at h; subst h; exact EqAt.bool_bool _ _
      | int i =>
        obtain ⟨t, rfl⟩ := rq; simp [eqF] at h; subst h
        have e : decide (b2i c = i) = ((if c = true then (1 : Int) else 0) == i) := by rw [b2i_eq]; rfl
        rw [e]; exact EqAt.bool_int _ _ _
      | str i => obtain ⟨t, rfl⟩ := rq; simp [eqF] at h; subst h; exact EqAt.bool_str _ _ _
      | tup hq gq => cases rq; simp [eqF] at h; subst h; obtain ⟨its, _, p, _⟩ := I.tuple (SqT.of hq); exact EqAt.bool_tuple _ p hu0
      | lst hq gq => cases rq; simp [eqF] at h; subst h; obtain ⟨its, _, p, _⟩ := I.list (SqL.of hq); exact EqAt.bool_list _ p.isList hu0
      | dK _ _ => simp [eqF] at h
      | dT _ _ => simp [eqF] at h
      | rng _ => simp [eqF] at h
      | scr _ => simp [eqF] at h
    | int c =>
      obtain ⟨t0, rfl⟩ := rp
      cases q with
      | non => cases rq; simp [eqF] at h; subst h; exact EqAt.int_none _ _
      | bl b =>
        cases rq; simp [eqF] at h; subst h
        have e : decide (c = b2i b) = (c == (if b = true then (1 : Int) else 0)) := by rw [b2i_eq]; rfl
        rw [e]; exact EqAt.int_bool _ _ _
      | int i => obtain ⟨t, rfl⟩ := rq; simp [eqF] at h; subst h; exact EqAt.int_int _ _ _ _
      | str i => obtain ⟨t, rfl⟩ := rq; simp [eqF] at h; subst h; exact EqAt.int_str _ _ _ _
      | tup hq gq => cases rq; simp [eqF] at h; subst h; obtain ⟨its, _, p, _⟩ := I.tuple (SqT.of hq); exact EqAt.int_tuple _ _ p hu0
      | lst hq gq => cases rq; simp [eqF] at h; subst h; obtain ⟨its, _, p, _⟩ := I.list (SqL.of hq); exact EqAt.int_list _ _ p.isList hu0
      | dK _ _ => simp [eqF] at h
      | dT _ _ => simp [eqF] at h
      | rng _ => simp [eqF] at h
      | scr _ => simp [eqF] at h
    | str c =>
      obtain ⟨t0, rfl⟩ := rp
      cases q with
      | non => cases rq; simp [eqF] at h; subst h; exact EqAt.str_none _ _
      | bl b => cases rq; simp [eqF] at h; subst h; exact EqAt.str_bool _ _ _
      | int i => obtain ⟨t, rfl⟩ := rq; simp [eqF] at h; subst h; exact EqAt.str_int _ _ _ _
      | str i => obtain ⟨t, rfl⟩ := rq; simp [eqF] at h; subst h; exact EqAt.str_str _ _ _ _
      | tup hq gq => cases rq; simp [eqF] at h; subst h; obtain ⟨its, _, p, _⟩ := I.tuple (SqT.of hq); exact EqAt.str_tuple _ _ p hu0
      | lst hq gq => cases rq; simp [eqF] at h; subst h; obtain ⟨its, _, p, _⟩ := I.list (SqL.of hq); exact EqAt.str_list _ _ p.isList hu0
      | dK _ _ => simp [eqF] at h
      | dT _ _ => simp [eqF] at h
      | rng _ => simp [eqF] at h
      | scr _ => simp [eqF] at h
    | @tup a vs ds hp gp =>
      have p0 := Rep.tup hp gp
      cases rp
      obtain ⟨its1, v1, p1, _⟩ := I.tuple (SqT.of hp)
      cases q with
      | non => cases rq; simp [eqF] at h; subst h; exact EqAt.tuple_none p1 hu0
      | bl b => cases rq; simp [eqF] at h; subst h; exact EqAt.tuple_bool _ p1 hu0
      | int i => obtain ⟨t, rfl⟩ := rq; simp [eqF] at h; subst h; exact EqAt.tuple_int _ _ p1 hu0
      | str i => obtain ⟨t, rfl⟩ := rq; simp [eqF] at h; subst h; exact EqAt.tuple_str _ _ p1 hu0
      | @tup a' vs' ds' hq gq =>
        have q0 := Rep.tup hq gq
        cases rq
        by_cases ea : a = a'
        · subst ea
          have := eq_same I _ _ _ _ _ h p0 q0
          subst this
          exact EqAt.same _
        · obtain ⟨its2, v2, p2, _⟩ := I.tuple (SqT.of hq)
          simp only [eqF] at h
          have hall := eqs_all h
          have l1 : its1.toArray.size = ds.length := by rw [List.size_toArray, ← v1.length, gp.length]
          have l2 : its2.toArray.size = ds'.length := by rw [List.size_toArray, ← v2.length, gq.length]
          have hh := RcAt.tuples p1 p2 hu0 (its h gp gq v1 v2)
          rw [l1, l2, hall] at hh
          exact EqAt.of_refs ea hh
      | lst hq gq => cases rq; simp [eqF] at h; subst h; obtain ⟨its, _, p, _⟩ := I.list (SqL.of hq); exact EqAt.tuple_list p1 p.isList hu0
      | dK _ _ => simp [eqF] at h
      | dT _ _ => simp [eqF] at h
      | rng _ => simp [eqF] at h
      | scr _ => simp [eqF] at h
    | @lst a vs ds hp gp =>
      have p0 := Rep.lst hp gp
      cases rp
      obtain ⟨its1, v1, p1, _⟩ := I.list (SqL.of hp)
      cases q with
      | non => cases rq; simp [eqF] at h; subst h; exact EqAt.list_none p1.isList hu0
      | bl b => cases rq; simp [eqF] at h; subst h; exact EqAt.list_bool _ p1.isList hu0
      | int i => obtain ⟨t, rfl⟩ := rq; simp [eqF] at h; subst h; exact EqAt.list_int _ _ p1.isList hu0
      | str i => obtain ⟨t, rfl⟩ := rq; simp [eqF] at h; subst h; exact EqAt.list_str _ _ p1.isList hu0
      | @lst a' vs' ds' hq gq =>
        have q0 := Rep.lst hq gq
        cases rq
        by_cases ea : a = a'
        · subst ea
          have := eq_same I _ _ _ _ _ h p0 q0
          subst this
          exact EqAt.same _
        · obtain ⟨its2, v2, p2, _⟩ := I.list (SqL.of hq)
          simp only [eqF] at h
          have hall := eqs_all h
          have l1 : its1.toArray.size = ds.length := by rw [List.size_toArray, ← v1.length, gp.length]
          have l2 : its2.toArray.size = ds'.length := by rw [List.size_toArray, ← v2.length, gq.length]
          by_cases el : ds.length = ds'.length
          · have hh := RcAt.lists p1.isList p2.isList (by rw [l1, l2, el]) hu0 (its h gp gq v1 v2)
            rw [← el, Nat.min_self, beq_self_eq_true, Bool.and_true] at hall
            rw [l1, hall] at hh
            exact EqAt.of_refs ea hh
          · have hr := eqs_none_len h el
            subst hr
            exact EqAt.of_refs ea (RcAt.lists_lengths p1.isList p2.isList (by rw [l1, l2]; simpa using el) hu0)
      | tup hq gq => cases rq; simp [eqF] at h; subst h; obtain ⟨its, _, p, _⟩ := I.tuple (SqT.of hq); exact EqAt.list_tuple p1.isList p hu0
      | dK _ _ => simp [eqF] at h
      | dT _ _ => simp [eqF] at h
      | rng _ => simp [eqF] at h
      | scr _ => simp [eqF] at h
    | dK _ _ => cases b <;> simp [eqF] at h
    | dT _ _ => cases b <;> simp [eqF] at h
    | rng _ => cases b <;> simp [eqF] at h
    | scr _ => cases b <;> simp [eqF] at h
theorem rc_at (I : Inv X pins σ H s) : ∀ (n : Nat) (a b : D) (r : Bool) (x y : V) (v u : Value) (A : Around), eqF n a b = some r → A.units + n < cLine → Rep X.K H x a → Rep X.K H y b → RelV x v → RelV y u → RcAt A s v u r
  | 0, _, _, _, _, _, _, _, _, h, _, _, _, _, _ => by simp [eqF] at h
  | n + 1, a, b, r, x, y, v, u, A, h, hu, p, q, rp, rq => by
    have hu0 : A.units < cLine := by omega
    have ih : ∀ (a b : D) (r : Bool) (x y : V) (v u : Value), eqF n a b = some r → Rep X.K H x a → Rep X.K H y b → RelV x v → RelV y u → EqAt A.in1 s v u r := fun a b r x y v u e1 e2 e3 e4 e5 => eq_at I n a b r x y v u A.in1 e1 (by show A.units + 1 + n < cLine; omega) e2 e3 e4 e5
    have its : ∀ {xs ys : List D} {k : Bool} {vs ws : List V} {its its' : List Value}, eqs (eqF n) xs ys = some k → Reps X.K H vs xs → Reps X.K H ws ys → Vals vs its → Vals ws its' →
        ∀ j (h1 : j < its.toArray.size) (h2 : j < its'.toArray.size), EqAt A.in1 s its.toArray[j] its'.toArray[j] (eAt (eqF n) xs ys j) := by
      intro xs ys k vs ws its its' e g1 g2 v1 v2 j h1 h2
      obtain ⟨x1, a1, b1⟩ := Vals.getS v1 (j := j) (by simpa using h1)
      obtain ⟨y1, a2, b2⟩ := Vals.getS v2 (j := j) (by simpa using h2)
      obtain ⟨d1, c1, r1⟩ := g1.getV a1
      obtain ⟨d2, c2, r2⟩ := g2.getV a2
      exact ih _ _ _ _ _ _ _ (eqs_at e c1 c2) r1 r2 b1 b2
    cases p with
    | non =>
      cases rp
      cases q with
      | non => cases rq; simp [eqF] at h; subst h; exact RcAt.none_none
      | bl b => cases rq; simp [eqF] at h; subst h; exact RcAt.none_bool _
      | int i => obtain ⟨t, rfl⟩ := rq; simp [eqF] at h; subst h; exact RcAt.none_int _ _
      | str i => obtain ⟨t, rfl⟩ := rq; simp [eqF] at h; subst h; exact RcAt.none_str _ _
      | tup hq gq => cases rq; simp [eqF] at h; subst h; obtain ⟨its, _, p, _⟩ := I.tuple (SqT.of hq); exact RcAt.none_tuple p hu0
      | lst hq gq => cases rq; simp [eqF] at h; subst h; obtain ⟨its, _, p, _⟩ := I.list (SqL.of hq); exact RcAt.none_list p.isList hu0
      | dK _ _ => simp [eqF] at h
      | dT _ _ => simp [eqF] at h
      | rng _ => simp [eqF] at h
      | scr _ => simp [eqF] at h
    | bl c =>
      cases rp
      cases q with
      | non => cases rq; simp [eqF] at h; subst h; exact RcAt.bool_none _
      | bl b => cases rq; simp [eqF] at h; subst h; exact RcAt.bool_bool _ _
      | int i =>
        obtain ⟨t, rfl⟩ := rq; simp [eqF] at h; subst h
        have e : decide (b2i c = i) = ((if c = true then (1 : Int) else 0) == i) := by rw [b2i_eq]; rfl
        rw [e]; exact RcAt.bool_int _ _ _
      | str i => obtain ⟨t, rfl⟩ := rq; simp [eqF] at h; subst h; exact RcAt.bool_str _ _ _
      | tup hq gq => cases rq; simp [eqF] at h; subst h; obtain ⟨its, _, p, _⟩ := I.tuple (SqT.of hq); exact RcAt.bool_tuple _ p hu0
      | lst hq gq => cases rq; simp [eqF] at h; subst h; obtain ⟨its, _, p, _⟩ := I.list (SqL.of hq); exact RcAt.bool_list _ p.isList hu0
      | dK _ _ => simp [eqF] at h
      | dT _ _ => simp [eqF] at h
      | rng _ => simp [eqF] at h
      | scr _ => simp [eqF] at h
    | int c =>
      obtain ⟨t0, rfl⟩ := rp
      cases q with
      | non => cases rq; simp [eqF] at h; subst h; exact RcAt.int_none _ _
      | bl b =>
        cases rq; simp [eqF] at h; subst h
        have e : decide (c = b2i b) = (c == (if b = true then (1 : Int) else 0)) := by rw [b2i_eq]; rfl
        rw [e]; exact RcAt.int_bool _ _ _
      | int i => obtain ⟨t, rfl⟩ := rq; simp [eqF] at h; subst h; exact RcAt.int_int _ _ _ _
      | str i => obtain ⟨t, rfl⟩ := rq; simp [eqF] at h; subst h; exact RcAt.int_str _ _ _ _
      | tup hq gq => cases rq; simp [eqF] at h; subst h; obtain ⟨its, _, p, _⟩ := I.tuple (SqT.of hq); exact RcAt.int_tuple _ _ p hu0
      | lst hq gq => cases rq; simp [eqF] at h; subst h; obtain ⟨its, _, p, _⟩ := I.list (SqL.of hq); exact RcAt.int_list _ _ p.isList hu0
      | dK _ _ => simp [eqF] at h
      | dT _ _ => simp [eqF] at h
      | rng _ => simp [eqF] at h
      | scr _ => simp [eqF] at h
    | str c =>
      obtain ⟨t0, rfl⟩ := rp
      cases q with
      | non => cases rq; simp [eqF] at h; subst h; exact RcAt.str_none _ _
      | bl b => cases rq; simp [eqF] at h; subst h; exact RcAt.str_bool _ _ _
      | int i => obtain ⟨t, rfl⟩ := rq; simp [eqF] at h; subst h; exact RcAt.str_int _ _ _ _
      | str i => obtain ⟨t, rfl⟩ := rq; simp [eqF] at h; subst h; exact RcAt.str_str _ _ _ _
      | tup hq gq => cases rq; simp [eqF] at h; subst h; obtain ⟨its, _, p, _⟩ := I.tuple (SqT.of hq); exact RcAt.str_tuple _ _ p hu0
      | lst hq gq => cases rq; simp [eqF] at h; subst h; obtain ⟨its, _, p, _⟩ := I.list (SqL.of hq); exact RcAt.str_list _ _ p.isList hu0
      | dK _ _ => simp [eqF] at h
      | dT _ _ => simp [eqF] at h
      | rng _ => simp [eqF] at h
      | scr _ => simp [eqF] at h
    | @tup a vs ds hp gp =>
      cases rp
      obtain ⟨its1, v1, p1, _⟩ := I.tuple (SqT.of hp)
      cases q with
      | non => cases rq; simp [eqF] at h; subst h; exact RcAt.tuple_none p1 hu0
      | bl b => cases rq; simp [eqF] at h; subst h; exact RcAt.tuple_bool _ p1 hu0
      | int i => obtain ⟨t, rfl⟩ := rq; simp [eqF] at h; subst h; exact RcAt.tuple_int _ _ p1 hu0
      | str i => obtain ⟨t, rfl⟩ := rq; simp [eqF] at h; subst h; exact RcAt.tuple_str _ _ p1 hu0
      | @tup a' vs' ds' hq gq =>
        cases rq
        obtain ⟨its2, v2, p2, _⟩ := I.tuple (SqT.of hq)
        simp only [eqF] at h
        have hall := eqs_all h
        have l1 : its1.toArray.size = ds.length := by rw [List.size_toArray, ← v1.length, gp.length]
        have l2 : its2.toArray.size = ds'.length := by rw [List.size_toArray, ← v2.length, gq.length]
        have hh := RcAt.tuples p1 p2 hu0 (its h gp gq v1 v2)
        rw [l1, l2, hall] at hh
        exact hh
      | lst hq gq => cases rq; simp [eqF] at h; subst h; obtain ⟨its, _, p, _⟩ := I.list (SqL.of hq); exact RcAt.tuple_list p1 p.isList hu0
      | dK _ _ => simp [eqF] at h
      | dT _ _ => simp [eqF] at h
      | rng _ => simp [eqF] at h
      | scr _ => simp [eqF] at h
    | @lst a vs ds hp gp =>
      cases rp
      obtain ⟨its1, v1, p1, _⟩ := I.list (SqL.of hp)
      cases q with
      | non => cases rq; simp [eqF] at h; subst h; exact RcAt.list_none p1.isList hu0
      | bl b => cases rq; simp [eqF] at h; subst h; exact RcAt.list_bool _ p1.isList hu0
      | int i => obtain ⟨t, rfl⟩ := rq; simp [eqF] at h; subst h; exact RcAt.list_int _ _ p1.isList hu0
      | str i => obtain ⟨t, rfl⟩ := rq; simp [eqF] at h; subst h; exact RcAt.list_str _ _ p1.isList hu0
      | @lst a' vs' ds' hq gq =>
        cases rq
        obtain ⟨its2, v2, p2, _⟩ := I.list (SqL.of hq)
        simp only [eqF] at h
        have hall := eqs_all h
        have l1 : its1.toArray.size = ds.length := by rw [List.size_toArray, ← v1.length, gp.length]
        have l2 : its2.toArray.size = ds'.length := by rw [List.size_toArray, ← v2.length, gq.length]
        by_cases el : ds.length = ds'.length
        · have hh := RcAt.lists p1.isList p2.isList (by rw [l1, l2, el]) hu0 (its h gp gq v1 v2)
          rw [← el, Nat.min_self, beq_self_eq_true, Bool.and_true] at hall
          rw [l1, hall] at hh
          exact hh
        · have hr := eqs_none_len h el
          subst hr
          exact RcAt.lists_lengths p1.isList p2.isList (by rw [l1, l2]; simpa using el) hu0
      | tup hq gq => cases rq; simp [eqF] at h; subst h; obtain ⟨its, _, p, _⟩ := I.tuple (SqT.of hq); exact RcAt.list_tuple p1.isList p hu0
      | dK _ _ => simp [eqF] at h
      | dT _ _ => simp [eqF] at h
      | rng _ => simp [eqF] at h
      | scr _ => simp [eqF] at h
    | dK _ _ => cases b <;> simp [eqF] at h
    | dT _ _ => cases b <;> simp [eqF] at h
    | rng _ => cases b <;> simp [eqF] at h
    | scr _ => cases b <;> simp [eqF] at h
theorem ne_at (I : Inv X pins σ H s) : ∀ (n : Nat) (a b : D) (r : Bool) (x y : V) (v u : Value) (A : Around), eqF n a b = some r → A.units + n < cLine → Rep X.K H x a → Rep X.K H y b → RelV x v → RelV y u → SeqAt.RcNeAt A s v u (!r)
  | 0, _, _, _, _, _, _, _, _, h, _, _, _, _, _ => by simp [eqF] at h
  | n + 1, a, b, r, x, y, v, u, A, h, hu, p, q, rp, rq => by
    have hu0 : A.units < cLine := by omega
    have ih : ∀ (a b : D) (r : Bool) (x y : V) (v u : Value), eqF n a b = some r → Rep X.K H x a → Rep X.K H y b → RelV x v → RelV y u → EqAt A.in1 s v u r := fun a b r x y v u e1 e2 e3 e4 e5 => eq_at I n a b r x y v u A.in1 e1 (by show A.units + 1 + n < cLine; omega) e2 e3 e4 e5
    have its : ∀ {xs ys : List D} {k : Bool} {vs ws : List V} {its its' : List Value}, eqs (eqF n) xs ys = some k → Reps X.K H vs xs → Reps X.K H ws ys → Vals vs its → Vals ws its' →
        ∀ j (h1 : j < its.toArray.size) (h2 : j < its'.toArray.size), EqAt A.in1 s its.toArray[j] its'.toArray[j] (eAt (eqF n) xs ys j) := by
      intro xs ys k vs ws its its' e g1 g2 v1 v2 j h1 h2
      obtain ⟨x1, a1, b1⟩ := Vals.getS v1 (j := j) (by simpa using h1)
      obtain ⟨y1, a2, b2⟩ := Vals.getS v2 (j := j) (by simpa using h2)
      obtain ⟨d1, c1, r1⟩ := g1.getV a1
      obtain ⟨d2, c2, r2⟩ := g2.getV a2
      exact ih _ _ _ _ _ _ _ (eqs_at e c1 c2) r1 r2 b1 b2
    cases p with
    | non =>
      cases rp
      cases q with
      | non => cases rq; simp [eqF] at h; subst h; exact SeqAt.RcNeAt.none_none
      | bl b => cases rq; simp [eqF] at h; subst h; exact SeqAt.RcNeAt.none_bool _
      | int i => obtain ⟨t, rfl⟩ := rq; simp [eqF] at h; subst h; exact SeqAt.RcNeAt.none_int _ _
      | str i => obtain ⟨t, rfl⟩ := rq; simp [eqF] at h; subst h; exact SeqAt.RcNeAt.none_str _ _
      | tup hq gq => cases rq; simp [eqF] at h; subst h; obtain ⟨its, _, p, _⟩ := I.tuple (SqT.of hq); exact SeqAt.RcNeAt.none_tuple p hu0
      | lst hq gq => cases rq; simp [eqF] at h; subst h; obtain ⟨its, _, p, _⟩ := I.list (SqL.of hq); exact SeqAt.RcNeAt.none_list p.isList hu0
      | dK _ _ => simp [eqF] at h
      | dT _ _ => simp [eqF] at h
      | rng _ => simp [eqF] at h
      | scr _ => simp [eqF] at h
    | bl c =>
      cases rp
      cases q with
      | non => cases rq; simp [eqF] at h; subst h; exact SeqAt.RcNeAt.bool_none _
      | bl b => cases rq; simp [eqF] at h; subst h; exact SeqAt.RcNeAt.bool_bool _ _
      | int i =>
        obtain ⟨t, rfl⟩ := rq; simp [eqF] at h; subst h
        have e : decide (b2i c = i) = ((if c = true then (1 : Int) else 0) == i) := by rw [b2i_eq]; rfl
        rw [e]; exact SeqAt.RcNeAt.bool_int _ _ _
      | str i => obtain ⟨t, rfl⟩ := rq; simp [eqF] at h; subst h; exact SeqAt.RcNeAt.bool_str _ _ _
      | tup hq gq => cases rq; simp [eqF] at h; subst h; obtain ⟨its, _, p, _⟩ := I.tuple (SqT.of hq); exact SeqAt.RcNeAt.bool_tuple _ p hu0
      | lst hq gq => cases rq; simp [eqF] at h; subst h; obtain ⟨its, _, p, _⟩ := I.list (SqL.of hq); exact SeqAt.RcNeAt.bool_list _ p.isList hu0
      | dK _ _ => simp [eqF] at h
      | dT _ _ => simp [eqF] at h
      | rng _ => simp [eqF] at h
      | scr _ => simp [eqF] at h
    | int c =>
      obtain ⟨t0, rfl⟩ := rp
      cases q with
      | non => cases rq; simp [eqF] at h; subst h; exact SeqAt.RcNeAt.int_none _ _
      | bl b =>
        cases rq; simp [eqF] at h; subst h
        have e : decide (c = b2i b) = (c == (if b = true then (1 : Int) else 0)) := by rw [b2i_eq]; rfl
        rw [e]; exact SeqAt.RcNeAt.int_bool _ _ _
      | int i => obtain ⟨t, rfl⟩ := rq; simp [eqF] at h; subst h; exact SeqAt.RcNeAt.int_int _ _ _ _
      | str i => obtain ⟨t, rfl⟩ := rq; simp [eqF] at h; subst h; exact SeqAt.RcNeAt.int_str _ _ _ _
      | tup hq gq => cases rq; simp [eqF] at h; subst h; obtain ⟨its, _, p, _⟩ := I.tuple (SqT.of hq); exact SeqAt.RcNeAt.int_tuple _ _ p hu0
      | lst hq gq => cases rq; simp [eqF] at h; subst h; obtain ⟨its, _, p, _⟩ := I.list (SqL.of hq); exact SeqAt.RcNeAt.int_list _ _ p.isList hu0
      | dK _ _ => simp [eqF] at h
      | dT _ _ => simp [eqF] at h
      | rng _ => simp [eqF] at h
      | scr _ => simp [eqF] at h
    | str c =>
      obtain ⟨t0, rfl⟩ := rp
      cases q with
      | non => cases rq; simp [eqF] at h; subst h; exact SeqAt.RcNeAt.str_none _ _
      | bl b => cases rq; simp [eqF] at h; subst h; exact SeqAt.RcNeAt.str_bool _ _ _
      | int i => obtain ⟨t, rfl⟩ := rq; simp [eqF] at h; subst h; exact SeqAt.RcNeAt.str_int _ _ _ _
      | str i => obtain ⟨t, rfl⟩ := rq; simp [eqF] at h; subst h; exact SeqAt.RcNeAt.str_str _ _ _ _
      | tup hq gq => cases rq; simp [eqF] at h; subst h; obtain ⟨its, _, p, _⟩ := I.tuple (SqT.of hq); exact SeqAt.RcNeAt.str_tuple _ _ p hu0
      | lst hq gq => cases rq; simp [eqF] at h; subst h; obtain ⟨its, _, p, _⟩ := I.list (SqL.of hq); exact SeqAt.RcNeAt.str_list _ _ p.isList hu0
      | dK _ _ => simp [eqF] at h
      | dT _ _ => simp [eqF] at h
      | rng _ => simp [eqF] at h
      | scr _ => simp [eqF] at h
    | @tup a vs ds hp gp =>
      cases rp
      obtain ⟨its1, v1, p1, _⟩ := I.tuple (SqT.of hp)
      cases q with
      | non => cases rq; simp [eqF] at h; subst h; exact SeqAt.RcNeAt.tuple_none p1 hu0
      | bl b => cases rq; simp [eqF] at h; subst h; exact SeqAt.RcNeAt.tuple_bool _ p1 hu0
      | int i => obtain ⟨t, rfl⟩ := rq; simp [eqF] at h; subst h; exact SeqAt.RcNeAt.tuple_int _ _ p1 hu0
      | str i => obtain ⟨t, rfl⟩ := rq; simp [eqF] at h; subst h; exact SeqAt.RcNeAt.tuple_str _ _ p1 hu0
      | @tup a' vs' ds' hq gq =>
        cases rq
        obtain ⟨its2, v2, p2, _⟩ := I.tuple (SqT.of hq)
        simp only [eqF] at h
        have hall := eqs_all h
        have l1 : its1.toArray.size = ds.length := by rw [List.size_toArray, ← v1.length, gp.length]
        have l2 : its2.toArray.size = ds'.length := by rw [List.size_toArray, ← v2.length, gq.length]
        have hh := SeqAt.RcNeAt.tuples p1 p2 hu0 (its h gp gq v1 v2)
        rw [l1, l2, hall] at hh
        exact hh
      | lst hq gq => cases rq; simp [eqF] at h; subst h; obtain ⟨its, _, p, _⟩ := I.list (SqL.of hq); exact SeqAt.RcNeAt.tuple_list p1 p.isList hu0
      | dK _ _ => simp [eqF] at h
      | dT _ _ => simp [eqF] at h
      | rng _ => simp [eqF] at h
      | scr _ => simp [eqF] at h
    | @lst a vs ds hp gp =>
      cases rp
      obtain ⟨its1, v1, p1, _⟩ := I.list (SqL.of hp)
      cases q with
      | non => cases rq; simp [eqF] at h; subst h; exact SeqAt.RcNeAt.list_none p1.isList hu0
      | bl b => cases rq; simp [eqF] at h; subst h; exact SeqAt.RcNeAt.list_bool _ p1.isList hu0
      | int i => obtain ⟨t, rfl⟩ := rq; simp [eqF] at h; subst h; exact SeqAt.RcNeAt.list_int _ _ p1.isList hu0
      | str i => obtain ⟨t, rfl⟩ := rq; simp [eqF] at h; subst h; exact SeqAt.RcNeAt.list_str _ _ p1.isList hu0
      | @lst a' vs' ds' hq gq =>
        cases rq
        obtain ⟨its2, v2, p2, _⟩ := I.list (SqL.of hq)
        simp only [eqF] at h
        have hall := eqs_all h
        have l1 : its1.toArray.size = ds.length := by rw [List.size_toArray, ← v1.length, gp.length]
        have l2 : its2.toArray.size = ds'.length := by rw [List.size_toArray, ← v2.length, gq.length]
        by_cases el : ds.length = ds'.length
        · have hh := SeqAt.RcNeAt.lists p1.isList p2.isList (by rw [l1, l2, el]) hu0 (its h gp gq v1 v2)
          rw [← el, Nat.min_self, beq_self_eq_true, Bool.and_true] at hall
          rw [l1, hall] at hh
          exact hh
        · have hr := eqs_none_len h el
          subst hr
          exact SeqAt.RcNeAt.lists_lengths p1.isList p2.isList (by rw [l1, l2]; simpa using el) hu0
      | tup hq gq => cases rq; simp [eqF] at h; subst h; obtain ⟨its, _, p, _⟩ := I.tuple (SqT.of hq); exact SeqAt.RcNeAt.list_tuple p1.isList p hu0
      | dK _ _ => simp [eqF] at h
      | dT _ _ => simp [eqF] at h
      | rng _ => simp [eqF] at h
      | scr _ => simp [eqF] at h
    | dK _ _ => cases b <;> simp [eqF] at h
    | dT _ _ => cases b <;> simp [eqF] at h
    | rng _ => cases b <;> simp [eqF] at h
    | scr _ => cases b <;> simp [eqF] at h

/-! ### < -/
open SeqAt (RcLt firstLt)
/-- what < gives at each place -/
def lAt (f : D → D → Option Bool) : List D → List D → Nat → Bool
  | x :: _, y :: _, 0 => (f x y).getD false
  | _ :: xs, _ :: ys, j + 1 => lAt f xs ys j
  | _, _, _ => false
theorem lts_eq : ∀ {e l : D → D → Option Bool} {xs ys : List D} {r : Bool} {j : Nat} {x y : D}, lts e l xs ys = some r → xs[j]? = some x → ys[j]? = some y → e x y = some (eAt e xs ys j) ∧ (eAt e xs ys j = false → l x y = some (lAt l xs ys j))
  | _, _, [], _, _, _, _, _, _, h, _ => by simp at h
  | _, _, _ :: _, [], _, _, _, _, _, _, h => by simp at h
  | e, l, a :: xs, b :: ys, r, 0, x, y, h, h1, h2 => by
    simp at h1 h2
    subst h1 h2
    simp only [lts] at h
    split at h
    · rename_i x1 e1 e2
      exact ⟨by simp [eAt, e1], by simp [eAt, e1]⟩
    · rename_i x1 e1 e2
      exact ⟨by simp [eAt, e1], fun _ => by simp [lAt, h]⟩
    · cases h
  | e, l, a :: xs, b :: ys, r, j + 1, x, y, h, h1, h2 => by
    simp only [lts] at h
    split at h
    · rename_i x1 e1 e2
      exact lts_eq (xs := xs) (ys := ys) (j := j) e2 (by simpa using h1) (by simpa using h2)
    · rename_i x1 e1 e2
      exact lts_eq (xs := xs) (ys := ys) (j := j) e2 (by simpa using h1) (by simpa using h2)
    · cases h
theorem firstLt_map {e r e' r' : Nat → Bool} {fin : Bool} : ∀ (l : List Nat), (∀ j, e (j + 1) = e' j) → (∀ j, r (j + 1) = r' j) → firstLt e r fin (l.map Nat.succ) = firstLt e' r' fin l
  | [], _, _ => rfl
  | j :: l, h1, h2 => by
    show (if e (j + 1) = true then firstLt e r fin (l.map Nat.succ) else r (j + 1)) = (if e' j = true then firstLt e' r' fin l else r' j)
    rw [h1, h2, firstLt_map l h1 h2]
theorem lts_all : ∀ {e l : D → D → Option Bool} {xs ys : List D} {r : Bool}, lts e l xs ys = some r → firstLt (eAt e xs ys) (lAt l xs ys) (decide (xs.length < ys.length)) (List.range (min xs.length ys.length)) = r
  | _, _, [], [], r, h => by simp [lts] at h; subst h; simp [firstLt]
  | _, _, [], _ :: _, r, h => by simp [lts] at h; subst h; simp [firstLt]
  | _, _, _ :: _, [], r, h => by simp [lts] at h; subst h; simp [firstLt]
  | e, l, x :: xs, y :: ys, r, h => by
    have hd : decide ((x :: xs).length < (y :: ys).length) = decide (xs.length < ys.length) := by simp
    rw [hd, List.length_cons, List.length_cons, Nat.succ_min_succ, List.range_succ_eq_map]
    have hm : firstLt (eAt e (x :: xs) (y :: ys)) (lAt l (x :: xs) (y :: ys)) (decide (xs.length < ys.length)) ((List.range (min xs.length ys.length)).map Nat.succ) = firstLt (eAt e xs ys) (lAt l xs ys) (decide (xs.length < ys.length)) (List.range (min xs.length ys.length)) :=
      firstLt_map _ (fun _ => rfl) (fun _ => rfl)
    simp only [lts] at h
    show (if eAt e (x :: xs) (y :: ys) 0 = true then _ else lAt l (x :: xs) (y :: ys) 0) = r
    split at h
    · rename_i x1 e1 e2
      have e3 : eAt e (x :: xs) (y :: ys) 0 = true := by simp [eAt, e1]
      rw [if_pos e3, hm, lts_all e2]
      exact Option.some.inj h
    · rename_i x1 e1 e2
      have e3 : eAt e (x :: xs) (y :: ys) 0 = false := by simp [eAt, e1]
      rw [if_neg (by rw [e3]; exact Bool.false_ne_true)]
      simp [lAt, h]
    · cases h
theorem lt_at (I : Inv X pins σ H s) : ∀ (n : Nat) (a b : D) (r : Bool) (x y : V) (v u : Value) (A : Around), ltF n a b = some r → A.units + n < cLine → Rep X.K H x a → Rep X.K H y b → RelV x v → RelV y u → RcLt A s v u r
  | 0, _, _, _, _, _, _, _, _, h, _, _, _, _, _ => by simp [ltF] at h
  | n + 1, a, b, r, x, y, v, u, A, h, hu, p, q, rp, rq => by
    have hu0 : A.units < cLine := by omega
    cases p with
    | int i =>
      obtain ⟨t, rfl⟩ := rp
      cases q with
      | int j => obtain ⟨t', rfl⟩ := rq; simp [ltF] at h; subst h; exact fun prog w E Q hq => PyProof.Rows.lt_int hq
      | _ => simp [ltF] at h
    | str i =>
      obtain ⟨t, rfl⟩ := rp
      cases q with
      | str j => obtain ⟨t', rfl⟩ := rq; simp only [ltF] at h; cases h; exact fun prog w E Q hq => PyProof.Rows.lt_str hq
      | _ => simp [ltF] at h
    | @tup a vs ds hp gp =>
      cases rp
      cases q with
      | @tup a' vs' ds' hq gq =>
        cases rq
        obtain ⟨its1, v1, p1, _⟩ := I.tuple (SqT.of hp)
        obtain ⟨its2, v2, p2, _⟩ := I.tuple (SqT.of hq)
        simp only [ltF] at h
        have hall := lts_all h
        have l1 : its1.toArray.size = ds.length := by rw [List.size_toArray, ← v1.length, gp.length]
        have l2 : its2.toArray.size = ds'.length := by rw [List.size_toArray, ← v2.length, gq.length]
        have hu1 : A.in1.units + n < cLine := by show A.units + 1 + n < cLine; omega
        have hh := RcLt.tuples (e := eAt (eqF n) ds ds') (r := lAt (ltF n) ds ds') p1 p2 hu0 (fun j h1 h2 => by
          obtain ⟨x1, a1, b1⟩ := Vals.getS v1 (j := j) (by simpa using h1)
          obtain ⟨y1, a2, b2⟩ := Vals.getS v2 (j := j) (by simpa using h2)
          obtain ⟨d1, c1, r1⟩ := gp.getV a1
          obtain ⟨d2, c2, r2⟩ := gq.getV a2
          exact eq_at I n _ _ _ _ _ _ _ _ (lts_eq h c1 c2).1 hu1 r1 r2 b1 b2) (fun j h1 h2 he => by
          obtain ⟨x1, a1, b1⟩ := Vals.getS v1 (j := j) (by simpa using h1)
          obtain ⟨y1, a2, b2⟩ := Vals.getS v2 (j := j) (by simpa using h2)
          obtain ⟨d1, c1, r1⟩ := gp.getV a1
          obtain ⟨d2, c2, r2⟩ := gq.getV a2
          exact lt_at I n _ _ _ _ _ _ _ _ ((lts_eq h c1 c2).2 he) hu1 r1 r2 b1 b2)
        rw [l1, l2, hall] at hh
        exact hh
      | _ => simp [ltF] at h
    | non => simp [ltF] at h
    | bl _ => simp [ltF] at h
    | lst _ _ => simp [ltF] at h
    | dK _ _ => simp [ltF] at h
    | dT _ _ => simp [ltF] at h
    | rng _ => simp [ltF] at h
    | scr _ => simp [ltF] at h
end
end L2.DN

/-! DenC: the operators, by values -/
namespace L2.DN
open PySem PySem.Spec PyProof.Rows L2

/-- a value that may be read at the top from H: what it holds lies in F -/
inductive Opn (K : PySem.W.Frag) (F H : Hp) : V → D → Prop
  | v {x : V} {d : D} : Rep K F x d → Opn K F H x d
  | lst {a : Addr} {vs : List V} {ds : List D} : H a = some (.lst vs) → Reps K F vs ds → Opn K F H (.ref a) (.lst ds)
  | dK {a : Addr} {kvs : List (Key × V)} {ds : List D} : H a = some (.dK kvs) → Reps K F (kvs.map (·.2)) ds → Opn K F H (.ref a) (.dct (kvs.map fun p => keyD p.1) ds)
  | dT {a : Addr} {kvs : List (List Key × V)} {ds : List D} : H a = some (.dT kvs) → Reps K F (kvs.map (·.2)) ds → Opn K F H (.ref a) (.dct (kvs.map fun p => .tup (p.1.map keyD)) ds)
inductive Opns (K : PySem.W.Frag) (F H : Hp) : List V → List D → Prop
  | nil : Opns K F H [] []
  | cons {v : V} {vs : List V} {d : D} {ds : List D} : Opn K F H v d → Opns K F H vs ds → Opns K F H (v :: vs) (d :: ds)
section
variable {K : PySem.W.Frag} {F F' G H H' H'' : Hp} {x : V} {d : D}
theorem Opn.rep (s : Sub F H) (h : Opn K F H x d) : Rep K H x d := by
  cases h with
  | v r => exact r.mono s
  | lst e r => exact .lst e (r.mono s)
  | dK e r => exact .dK e (r.mono s)
  | dT e r => exact .dT e (r.mono s)
theorem Opn.mono (s : Sub F F') (t : Sub H H') (h : Opn K F H x d) : Opn K F' H' x d := by
  cases h with
  | v r => exact .v (r.mono s)
  | lst e r => exact .lst (t _ _ e) (r.mono s)
  | dK e r => exact .dK (t _ _ e) (r.mono s)
  | dT e r => exact .dT (t _ _ e) (r.mono s)
theorem Opn.tup' {ds : List D} (h : Opn K F H x (.tup ds)) : ∃ a vs, x = .ref a ∧ F a = some (.tup vs) ∧ Reps K F vs ds := by
  cases h with
  | v r => cases r with | tup e r => exact ⟨_, _, rfl, e, r⟩
theorem Opn.lst' {ds : List D} (s : Sub F H) (h : Opn K F H x (.lst ds)) : ∃ a vs, x = .ref a ∧ H a = some (.lst vs) ∧ Reps K F vs ds := by
  cases h with
  | v r => cases r with | lst e r => exact ⟨_, _, rfl, s _ _ e, r⟩
  | lst e r => exact ⟨_, _, rfl, e, r⟩
theorem Opn.int' {i : Int} (h : Opn K F H x (.int i)) : x = .int i := by
  cases h with
  | v r => cases r; rfl
theorem Opn.str' {i : Str} (h : Opn K F H x (.str i)) : x = .str i := by
  cases h with
  | v r => cases r; rfl
theorem Opn.bl' {i : Bool} (h : Opn K F H x (.bl i)) : x = .bl i := by
  cases h with
  | v r => cases r; rfl
theorem Opn.non' (h : Opn K F H x .non) : x = .non := by
  cases h with
  | v r => cases r; rfl
/-- nothing, or a tuple: no own thing -/
def NoOwn (H : Hp) (a : Addr) : Prop := H a = none ∨ ∃ vs, H a = some (.tup vs)
theorem NoOwn.lst {H : Hp} {a : Addr} {vs : List V} (n : NoOwn H a) (e : H a = some (.lst vs)) : False := by
  rcases n with n | ⟨_, n⟩ <;> rw [e] at n <;> cases n
/-- what is new is fresh -/
structure Grow (F H F' H' : Hp) : Prop where
  f : Sub F F'
  h : Sub H H'
  s : Sub F' H'
  fr : ∀ a o, F' a = some o → F a = some o ∨ NoOwn H a
theorem Grow.refl (s : Sub F H) : Grow F H F H := ⟨Sub.refl _, Sub.refl _, s, fun _ _ e => .inl e⟩
theorem sub_upd {p : Addr} {o : HO} (h : H p = none) : Sub H (upd H p o) := fun b u e => by
  rw [upd_ne (ne_of_none e h)]
  exact e
theorem sub_none {p : Addr} (s : Sub F H) (h : H p = none) : F p = none := by
  cases e : F p with
  | none => rfl
  | some o => rw [s _ _ e] at h; cases h
theorem Grow.new {p : Addr} {o : HO} (s : Sub F H) (h : H p = none) : Grow F H (upd F p o) (upd H p o) := by
  refine ⟨sub_upd (sub_none s h), sub_upd h, fun b u e => ?_, fun b u e => ?_⟩
  · by_cases hb : b = p
    · subst hb
      rw [upd_same] at e ⊢
      exact e
    · rw [upd_ne hb] at e ⊢
      exact s _ _ e
  · by_cases hb : b = p
    · subst hb
      exact .inr (.inl h)
    · rw [upd_ne hb] at e
      exact .inl e
/-- .. and all tuples there are -/
def tupF (F H : Hp) : Hp := fun b => match F b with
  | some u => some u
  | none => match H b with
    | some (.tup vs) => some (.tup vs)
    | _ => none
theorem tupF_at {a : Addr} {vs : List V} (s : Sub F H) (e : H a = some (.tup vs)) : tupF F H a = some (.tup vs) := by
  unfold tupF
  cases q : F a with
  | some u =>
    have := s _ _ q
    rw [e] at this
    exact this.symm ▸ rfl
  | none => rw [e]
theorem Grow.tups (s : Sub F H) : Grow F H (tupF F H) H := by
  have key : ∀ a o, tupF F H a = some o → F a = some o ∨ ∃ vs, o = .tup vs ∧ H a = some (.tup vs) := fun a o e => by
    unfold tupF at e
    cases q : F a with
    | some u => rw [q] at e; exact .inl e
    | none =>
      rw [q] at e
      simp only at e
      split at e
      · rename_i vs hv
        cases e
        exact .inr ⟨vs, rfl, hv⟩
      · cases e
  refine ⟨fun a o e => ?_, Sub.refl _, fun a o e => ?_, fun a o e => ?_⟩
  · unfold tupF
    rw [e]
  · rcases key a o e with q | ⟨vs, rfl, q⟩
    · exact s _ _ q
    · exact q
  · rcases key a o e with q | ⟨vs, rfl, q⟩
    · exact .inl q
    · exact .inr (.inr ⟨vs, q⟩)
theorem Grow.trans {F'' : Hp} (g : Grow F H F' H') (k : Grow F' H' F'' H'') : Grow F H F'' H'' := by
  refine ⟨g.f.trans k.f, g.h.trans k.h, k.s, fun a o e => ?_⟩
  rcases k.fr a o e with q | q
  · exact g.fr a o q
  · right
    cases e2 : H a with
    | none => exact .inl e2
    | some u =>
      have e3 := g.h _ _ e2
      rcases q with q | ⟨vs, q⟩
      · rw [e3] at q; cases q
      · rw [e3] at q; cases q; exact .inr ⟨vs, e2⟩
end

/-! ### comparisons -/
def copM : Cop → CmpOp
  | .eq => .Eq | .ne => .NotEq | .lt => .Lt | .le => .LtE | .gt => .Gt | .ge => .GtE | .isin => .In | .nin => .NotIn | .is => .Is | .isn => .IsNot
def rCmp (K : PySem.W.Frag) (o : Cop) : R2 := fun x y H Q => ∃ F a b r, Sub F H ∧ Opn K F H x a ∧ Opn K F H y b ∧ cmpF o a b = .ok r ∧ Q (.bl r) H
theorem ok_inj {α : Type} {a b : α} (h : (Except.ok a : M α) = .ok b) : a = b := by injection h
theorem eqD_ok {a b : D} {r : Bool} (h : eqD a b = .ok r) : eqF dep a b = some r := by
  unfold eqD at h
  split at h
  · rename_i x e
    rw [e, ok_inj h]
  · cases h
theorem ltD_ok {a b : D} {r : Bool} (h : ltD a b = .ok r) : ltF dep a b = some r := by
  unfold ltD at h
  split at h
  · rename_i x e
    rw [e, ok_inj h]
  · cases h
theorem bind_ok {α β : Type} {m : M α} {f : α → M β} {b : β} (h : (m >>= f) = .ok b) : ∃ a, m = .ok a ∧ f a = .ok b := by
  cases m with
  | error e => cases h
  | ok a => exact ⟨a, rfl, h⟩
theorem inL_ok {x : D} : ∀ {xs : List D} {r : Bool}, inL x xs = .ok r → ∃ rs : List Bool, (∀ (j : Nat) (y : D), xs[j]? = some y → ∃ b, rs[j]? = some b ∧ eqF dep y x = some b) ∧ rs.length = xs.length ∧ r = rs.any id
  | [], r, h => ⟨[], by simp, rfl, (ok_inj h).symm⟩
  | y :: ys, r, h => by
    obtain ⟨e, h1, h2⟩ := bind_ok h
    obtain ⟨q, h3, h4⟩ := bind_ok h2
    obtain ⟨rs, a, b, c⟩ := inL_ok h3
    refine ⟨e :: rs, fun j z hz => ?_, by simp [b], ?_⟩
    · cases j with
      | zero => simp at hz; subst hz; exact ⟨e, by simp, eqD_ok h1⟩
      | succ j =>
        obtain ⟨b', h5, h6⟩ := a j z (by simpa using hz)
        exact ⟨b', by simpa using h5, h6⟩
    · rw [← ok_inj h4, c]; rfl
section
variable {X : Cx} {pins : List (Addr × Obj)} {σ : St} {H : Hp} {s : Shared} {Q : VK}
open SeqAt (EqAt)
/-- the answers by the items' values -/
theorem in_any {A : Around} {vs : List V} {ds : List D} {its : List Value} {x : D} {xv : V} {u : Value} {r : Bool} (I : Inv X pins σ H s) (hu : A.units + dep < cLine) (g : Reps X.K H vs ds) (rv : Vals vs its) (rx : Rep X.K H xv x) (ru : RelV xv u) (h : inL x ds = .ok r) :
    ∃ e : Value → Bool, (∀ y, y ∈ its.toArray → EqAt A s y u (e y)) ∧ its.toArray.any e = r := by
  classical
  obtain ⟨rs, h1, h2, h3⟩ := inL_ok h
  have at_ : ∀ (j : Nat) (y : Value), its[j]? = some y → ∃ b, rs[j]? = some b ∧ EqAt A s y u b := fun j y hy => by
    obtain ⟨hj, e⟩ := List.getElem?_eq_some_iff.mp hy
    obtain ⟨z, a1, b1⟩ := Vals.getS rv hj
    obtain ⟨d, c1, r1⟩ := g.getV a1
    obtain ⟨b, k1, k2⟩ := h1 j d c1
    refine ⟨b, k1, ?_⟩
    rw [← e]
    exact eq_at I dep _ _ _ _ _ _ _ A k2 hu r1 rx b1 ru
  refine ⟨fun y => decide (∃ j : Nat, its[j]? = some y ∧ rs[j]? = some true), fun y hy => ?_, ?_⟩
  · by_cases hex : ∃ j : Nat, its[j]? = some y ∧ rs[j]? = some true
    · show EqAt A s y u (decide (∃ j : Nat, its[j]? = some y ∧ rs[j]? = some true))
      rw [decide_eq_true hex]
      obtain ⟨j, k1, k2⟩ := hex
      obtain ⟨b, k3, k4⟩ := at_ j y k1
      rw [k2] at k3
      cases k3
      exact k4
    · show EqAt A s y u (decide (∃ j : Nat, its[j]? = some y ∧ rs[j]? = some true))
      rw [decide_eq_false hex]
      obtain ⟨j, hj⟩ := List.getElem?_of_mem (List.mem_toArray.mp hy)
      obtain ⟨b, k3, k4⟩ := at_ j y hj
      cases b with
      | false => exact k4
      | true => exact absurd ⟨j, hj, k3⟩ hex
  · rw [h3, List.any_toArray, Bool.eq_iff_iff, List.any_eq_true, List.any_eq_true]
    constructor
    · rintro ⟨y, _, hd⟩
      obtain ⟨j, k1, k2⟩ := of_decide_eq_true hd
      exact ⟨true, List.mem_of_getElem? k2, rfl⟩
    · rintro ⟨b, hb, hb2⟩
      obtain ⟨j, hj⟩ := List.getElem?_of_mem hb
      have hb3 : b = true := hb2
      subst hb3
      have hj1 : j < its.length := by
        have := (List.getElem?_eq_some_iff.mp hj).1
        rw [h2, ← g.length, rv.length] at this
        exact this
      exact ⟨its[j], List.getElem_mem hj1, decide_eq_true ⟨j, List.getElem?_eq_getElem hj1, hj⟩⟩
theorem keyD_inj {a b : Key} : keyD a = keyD b ↔ a = b := by
  cases a <;> cases b <;> simp [keyD]
theorem eqF_key {n : Nat} {a b : Key} {r : Bool} (h : eqF n (keyD a) (keyD b) = some r) : r = decide (a = b) := by
  cases n with
  | zero => simp [eqF] at h
  | succ n =>
    cases a <;> cases b <;> simp [eqF, keyD] at h ⊢ <;> first | exact h.symm | exact h
theorem eqs_keys {n : Nat} : ∀ {a b : List Key} {r : Bool}, eqs (eqF n) (a.map keyD) (b.map keyD) = some r → r = decide (a = b)
  | [], [], r, h => by simp [eqs] at h ⊢; exact h
  | [], _ :: _, r, h => by simp [eqs] at h ⊢; exact h
  | _ :: _, [], r, h => by simp [eqs] at h ⊢; exact h
  | a :: as, b :: bs, r, h => by
    simp only [List.map_cons, eqs] at h
    split at h
    · rename_i x y e1 e2
      rw [← Option.some.inj h, eqF_key e1, eqs_keys e2, Bool.eq_iff_iff]
      simp
    · cases h
theorem eqF_tkey {n : Nat} {a b : List Key} {r : Bool} (h : eqF n (.tup (a.map keyD)) (.tup (b.map keyD)) = some r) : r = decide (a = b) := by
  cases n with
  | zero => simp [eqF] at h
  | succ n => simp only [eqF] at h; exact eqs_keys h
/-- a key of ints and texts -/
theorem Rep.keyOf {K : PySem.W.Frag} {v : V} {k : Key} (h : Rep K H v (keyD k)) : v = kV k := by
  cases k <;> (cases h; rfl)
theorem Reps.keysOf {K : PySem.W.Frag} : ∀ {vs : List V} {ks : List Key}, Reps K H vs (ks.map keyD) → vs = ks.map kV
  | _, [], .nil => rfl
  | _, k :: ks, .cons h r => by rw [List.map_cons, Rep.keyOf h, Reps.keysOf r]
/-- which key a value is -/
def keyM : D → Option Key
  | .int i => some (.inl i)
  | .str x => some (.inr x)
  | _ => none
theorem keyM_some {d : D} {k : Key} (h : keyM d = some k) : d = keyD k := by
  cases d <;> simp [keyM] at h <;> (subst h; rfl)

/-! ### dicts -/
theorem keys_nil {α β : Type} {f : α → β} {l : List α} (h : l.map f = []) : l = [] := by
  cases l with
  | nil => rfl
  | cons a b => cases h
theorem pairs_nil {P : Program} {w : World} {K : Type} [DecidableEq K] {knd : PySem.KeyKind P w K} {es : List DictEntry} (h : Pairs knd es []) : es = [] := by
  cases es with
  | nil => rfl
  | cons a b => cases h
theorem retag {a : Addr} {t' : Nat} (I : Inv X pins σ H s) (h : H a = some (.dK [])) : Inv X pins σ (upd H a (.dT [])) { s with toks := t' } := by
  obtain ⟨z, hd, vs, rv, ob, es, ep, he, hx, hdt, hk, hs, hn⟩ := I.hok a _ h
  cases rv
  exact I.write (h' := s.heap) (t' := t') (x := a) (e := a) (o := .dT []) (by rw [h]; trivial) (.inl rfl) (fun b u _ q => q) ⟨ob, he⟩ ⟨Nat.zero_le _, hd, [], .nil, ob, es, ep, he, hx, hdt, pairs_nil hs, List.nodup_nil⟩
/-- the other empty dict -/
theorem retagK {a : Addr} {t' : Nat} (I : Inv X pins σ H s) (h : H a = some (.dT [])) : Inv X pins σ (upd H a (.dK [])) { s with toks := t' } := by
  obtain ⟨z, hd, xs, rv, ob, es, ep, he, hx, hdt, hs, hn⟩ := I.hok a _ h
  cases rv
  have he' : es = #[] := by
    cases es with
    | mk l => simp at hs; subst hs; rfl
  subst he'
  exact I.write (h' := s.heap) (t' := t') (x := a) (e := a) (o := .dK []) (by rw [h]; trivial) (.inl rfl) (fun b u _ q => q) ⟨ob, he⟩ ⟨Nat.zero_le _, hd, [], .nil, ob, #[], ep, he, hx, hdt, fun e he => by simp at he, .nil, List.nodup_nil⟩
theorem upd_self {H : Hp} {a : Addr} {o : HO} (h : H a = some o) : upd H a o = H := by
  funext b
  by_cases hb : b = a
  · subst hb; rw [upd_same, h]
  · rw [upd_ne hb]
theorem dgetL_k {F : Hp} {K : PySem.W.Frag} {k : Key} : ∀ {kvs : List (Key × V)} {ds : List D} {o : Option D}, dgetL (kvs.map fun p => keyD p.1) ds (keyD k) = .ok o → Reps K F (kvs.map (·.2)) ds →
    (o = none ∧ valV kvs k = none) ∨ ∃ d v, o = some d ∧ valV kvs k = some v ∧ Rep K F v d
  | [], ds, o, h, g => by
    cases g
    exact .inl ⟨(ok_inj h).symm, rfl⟩
  | (k', v') :: kvs, ds, o, h, g => by
    cases g with
    | cons g1 g2 =>
      obtain ⟨e, h1, h2⟩ := bind_ok h
      obtain ⟨r, h3, h4⟩ := bind_ok h2
      have he := eqF_key (eqD_ok h1)
      have hr := ok_inj h4
      by_cases hk : k' = k
      · rw [decide_eq_true hk] at he
        subst he
        exact .inr ⟨_, v', hr.symm, valV_pos hk, g1⟩
      · rw [decide_eq_false hk] at he
        subst he
        have hr' : r = o := hr
        subst hr'
        rw [valV_neg hk]
        exact dgetL_k h3 g2
theorem dgetL_t {F : Hp} {K : PySem.W.Frag} {k : List Key} : ∀ {kvs : List (List Key × V)} {ds : List D} {o : Option D}, dgetL (kvs.map fun p => .tup (p.1.map keyD)) ds (.tup (k.map keyD)) = .ok o → Reps K F (kvs.map (·.2)) ds →
    (o = none ∧ valV kvs k = none) ∨ ∃ d v, o = some d ∧ valV kvs k = some v ∧ Rep K F v d
  | [], ds, o, h, g => by
    cases g
    exact .inl ⟨(ok_inj h).symm, rfl⟩
  | (k', v') :: kvs, ds, o, h, g => by
    cases g with
    | cons g1 g2 =>
      obtain ⟨e, h1, h2⟩ := bind_ok h
      obtain ⟨r, h3, h4⟩ := bind_ok h2
      have he := eqF_tkey (eqD_ok h1)
      have hr := ok_inj h4
      by_cases hk : k' = k
      · rw [decide_eq_true hk] at he
        subst he
        exact .inr ⟨_, v', hr.symm, valV_pos hk, g1⟩
      · rw [decide_eq_false hk] at he
        subst he
        have hr' : r = o := hr
        subst hr'
        rw [valV_neg hk]
        exact dgetL_t h3 g2
theorem inL_k {k : Key} : ∀ {kvs : List (Key × V)} {r : Bool}, inL (keyD k) (kvs.map fun p => keyD p.1) = .ok r → r = (valV kvs k).isSome
  | [], r, h => (ok_inj h).symm
  | (k', v') :: kvs, r, h => by
    obtain ⟨e, h1, h2⟩ := bind_ok h
    obtain ⟨q, h3, h4⟩ := bind_ok h2
    have he := eqF_key (eqD_ok h1)
    have ih := inL_k h3
    rw [← ok_inj h4]
    by_cases hk : k' = k
    · rw [valV_pos hk, he, decide_eq_true hk]; rfl
    · rw [valV_neg hk, he, decide_eq_false hk, ← ih]; rfl
theorem inL_t {k : List Key} : ∀ {kvs : List (List Key × V)} {r : Bool}, inL (.tup (k.map keyD)) (kvs.map fun p => .tup (p.1.map keyD)) = .ok r → r = (valV kvs k).isSome
  | [], r, h => (ok_inj h).symm
  | (k', v') :: kvs, r, h => by
    obtain ⟨e, h1, h2⟩ := bind_ok h
    obtain ⟨q, h3, h4⟩ := bind_ok h2
    have he := eqF_tkey (eqD_ok h1)
    have ih := inL_t h3
    rw [← ok_inj h4]
    by_cases hk : k' = k
    · rw [valV_pos hk, he, decide_eq_true hk]; rfl
    · rw [valV_neg hk, he, decide_eq_false hk, ← ih]; rfl
theorem flatK_some {d : D} (h : flatK d = true) : ∃ k, d = keyD k := by
  cases d <;> simp [flatK] at h
  · exact ⟨.inl _, rfl⟩
  · exact ⟨.inr _, rfl⟩
theorem flatKs_some : ∀ {ds : List D}, ds.all flatK = true → ∃ ks : List Key, ds = ks.map keyD
  | [], _ => ⟨[], rfl⟩
  | d :: ds, h => by
    rw [List.all_cons, Bool.and_eq_true] at h
    obtain ⟨k, rfl⟩ := flatK_some h.1
    obtain ⟨ks, rfl⟩ := flatKs_some h.2
    exact ⟨k :: ks, rfl⟩
theorem kindK_false {d : D} (h : kindK d = some false) : ∃ k, d = keyD k := by
  cases d <;> simp [kindK] at h
  · exact ⟨.inl _, rfl⟩
  · exact ⟨.inr _, rfl⟩
theorem kindK_true {d : D} (h : kindK d = some true) : ∃ ks : List Key, d = .tup (ks.map keyD) := by
  cases d <;> simp [kindK] at h
  obtain ⟨ks, rfl⟩ := flatKs_some (List.all_eq_true.mpr h)
  exact ⟨ks, rfl⟩
theorem kindK_key (k : Key) : kindK (keyD k) = some false := by cases k <;> rfl
theorem flat_all (ks : List Key) : (ks.map keyD).all flatK = true := by
  rw [List.all_eq_true]
  intro d hd
  obtain ⟨k, _, rfl⟩ := List.mem_map.mp hd
  cases k <;> rfl
theorem kindK_tkey (ks : List Key) : kindK (.tup (ks.map keyD)) = some true := by
  show (if (ks.map keyD).all flatK = true then some true else none) = some true
  rw [if_pos (flat_all ks)]
/-- a key that fits a dict of flat keys -/
theorem fits_k {x : D} {kvs : List (Key × V)} (h : keyFits x (kvs.map fun p => keyD p.1) = true) : (∃ k, x = keyD k) ∨ (kvs = [] ∧ ∃ ks : List Key, x = .tup (ks.map keyD)) := by
  unfold keyFits at h
  split at h
  · cases h
  · rename_i b hb
    split at h
    · rename_i hn
      cases b with
      | false => exact .inl (kindK_false hb)
      | true => exact .inr ⟨keys_nil hn, kindK_true hb⟩
    · rename_i k ks hn
      cases kvs with
      | nil => cases hn
      | cons p r =>
        rw [List.map_cons] at hn
        injection hn with h1 h2
        subst h1
        rw [kindK_key] at h
        have : b = false := by
          have := of_decide_eq_true h
          injection this with e
          exact e.symm
        subst this
        exact .inl (kindK_false hb)
theorem fits_t {x : D} {kvs : List (List Key × V)} (h : keyFits x (kvs.map fun p => .tup (p.1.map keyD)) = true) : (∃ ks : List Key, x = .tup (ks.map keyD)) ∨ (kvs = [] ∧ ∃ k, x = keyD k) := by
  unfold keyFits at h
  split at h
  · cases h
  · rename_i b hb
    split at h
    · rename_i hn
      cases b with
      | true => exact .inl (kindK_true hb)
      | false => exact .inr ⟨keys_nil hn, kindK_false hb⟩
    · rename_i k ks hn
      cases kvs with
      | nil => cases hn
      | cons p r =>
        rw [List.map_cons] at hn
        injection hn with h1 h2
        subst h1
        rw [kindK_tkey] at h
        have : b = true := by
          have := of_decide_eq_true h
          injection this with e
          exact e.symm
        subst this
        exact .inl (kindK_true hb)
/-- a key that is a tuple stands in the heap -/
theorem Rep.tkey {K : PySem.W.Frag} {v : V} {ks : List Key} (h : Rep K H v (.tup (ks.map keyD))) : ∃ b, v = .ref b ∧ H b = some (.tup (ks.map kV)) := by
  cases h with
  | tup e r => exact ⟨_, rfl, by rw [e, Reps.keysOf r]⟩
/-- what a dict gives for a key: DGet, at this heap or at the same with the empty dict told anew -/
theorem dict_at {F : Hp} {xv : V} {ks ds : List D} {x : D} {y : V} (I : Inv X pins σ H s) (sF : Sub F H) (g : Opn X.K F H xv (.dct ks ds)) (hx : Rep X.K H y x) (hf : keyFits x ks = true) :
    ∃ a H' r, xv = .ref a ∧ Inv X pins σ H' s ∧ DGet H' a y r ∧ (∀ (s' : Shared), Inv X pins σ H' s' → Inv X pins σ H s') ∧ (∀ b, inL x ks = .ok b → b = r.isSome) ∧
      (∀ o, dgetL ks ds x = .ok o → (o = none ∧ r = none) ∨ ∃ d v, o = some d ∧ r = some v ∧ Rep X.K F v d) := by
  have ofK : ∀ {a : Addr} {kvs : List (Key × V)} {ds : List D}, H a = some (.dK kvs) → Reps X.K F (kvs.map (·.2)) ds → keyFits x (kvs.map fun p => keyD p.1) = true →
      ∃ a' H' r, V.ref a = .ref a' ∧ Inv X pins σ H' s ∧ DGet H' a' y r ∧ (∀ (s' : Shared), Inv X pins σ H' s' → Inv X pins σ H s') ∧ (∀ b, inL x (kvs.map fun p => keyD p.1) = .ok b → b = r.isSome) ∧
      (∀ o, dgetL (kvs.map fun p => keyD p.1) ds x = .ok o → (o = none ∧ r = none) ∨ ∃ d v, o = some d ∧ r = some v ∧ Rep X.K F v d) := by
    intro a kvs ds e r hf
    rcases fits_k hf with ⟨k, rfl⟩ | ⟨rfl, ks, rfl⟩
    · have hy := Rep.keyOf hx
      subst hy
      exact ⟨a, H, valV kvs k, rfl, I, DGet.k e, fun _ h => h, fun b hb => inL_k hb, fun o ho => dgetL_k ho r⟩
    · obtain ⟨b, rfl, hb⟩ := Rep.tkey hx
      have hba : b ≠ a := fun z => by subst z; rw [hb] at e; cases e
      refine ⟨a, upd H a (.dT []), none, rfl, retag (t' := s.toks) I e, DGet.t (kvs := []) upd_same (by rw [upd_ne hba]; exact hb), fun s' J => ?_, fun b hb => (ok_inj hb).symm, fun o ho => ?_⟩
      · have := retagK (t' := s'.toks) J upd_same
        rw [upd_upd, upd_self e] at this
        exact this
      · cases r
        exact .inl ⟨(ok_inj ho).symm, rfl⟩
  have ofT : ∀ {a : Addr} {kvs : List (List Key × V)} {ds : List D}, H a = some (.dT kvs) → Reps X.K F (kvs.map (·.2)) ds → keyFits x (kvs.map fun p => .tup (p.1.map keyD)) = true →
      ∃ a' H' r, V.ref a = .ref a' ∧ Inv X pins σ H' s ∧ DGet H' a' y r ∧ (∀ (s' : Shared), Inv X pins σ H' s' → Inv X pins σ H s') ∧ (∀ b, inL x (kvs.map fun p => .tup (p.1.map keyD)) = .ok b → b = r.isSome) ∧
      (∀ o, dgetL (kvs.map fun p => .tup (p.1.map keyD)) ds x = .ok o → (o = none ∧ r = none) ∨ ∃ d v, o = some d ∧ r = some v ∧ Rep X.K F v d) := by
    intro a kvs ds e r hf
    rcases fits_t hf with ⟨ks, rfl⟩ | ⟨rfl, k, rfl⟩
    · obtain ⟨b, rfl, hb⟩ := Rep.tkey hx
      exact ⟨a, H, valV kvs ks, rfl, I, DGet.t e hb, fun _ h => h, fun b hb => inL_t hb, fun o ho => dgetL_t ho r⟩
    · have hy := Rep.keyOf hx
      subst hy
      refine ⟨a, upd H a (.dK []), none, rfl, retagK (t' := s.toks) I e, DGet.k (kvs := []) upd_same, fun s' J => ?_, fun b hb => (ok_inj hb).symm, fun o ho => ?_⟩
      · have := retag (t' := s'.toks) J upd_same
        rw [upd_upd, upd_self e] at this
        exact this
      · cases r
        exact .inl ⟨(ok_inj ho).symm, rfl⟩
  cases g with
  | v g =>
    cases g with
    | dK e r => exact ofK (sF _ _ e) r hf
    | dT e r => exact ofT (sF _ _ e) r hf
  | dK e r => exact ofK e r hf
  | dT e r => exact ofT e r hf

/-! ### the comparisons' rule -/
theorem units_dep {k : Nat} (hr : Room k X.A) : X.A.units + dep < cLine := by
  have := hr.un
  unfold dep
  omega
theorem op_cmp {k : Nat} (hr : Room k X.A) (o : Cop) : OpR X (compareOp (copM o)) (rCmp X.K o) := by
  intro pins s σ H x y v u Q I rx ry h
  obtain ⟨F, a, b, r, sF, ga, gb, hf, q⟩ := h
  have hu := units_dep hr
  have pa := ga.rep sF
  have pb := gb.rep sF
  have fin : ∀ {s' : Shared}, Inv X pins σ H s' → EP X pins σ Q (.bool r) s' := fun J => ⟨.bl r, H, J, rfl, q⟩
  have isin : ∀ {c : Bool}, inF a b = .ok c → (∀ {s' : Shared}, Inv X pins σ H s' → EP X pins σ Q (.bool c) s') → wpAny (model X.prog X.w) X.A (compareOp .In v u) (EP X pins σ Q) X.xe s := by
    intro c hc fin
    have hu1 : X.A.in1.units + dep < cLine := by
      have := hr.un
      show X.A.units + 1 + dep < cLine
      unfold dep
      omega
    cases b <;> simp only [inF] at hc <;> try (cases hc; done)
    · obtain ⟨p, vs, its, rfl, rfl, e, g, rv, ht, _⟩ := Rep.tupAt I pb ry
      obtain ⟨ev, h1, h2⟩ := in_any (A := X.A.in1) I hu1 g rv pa rx hc
      exact SeqAt.in_tupleAt ev ht h1 (by rw [h2]; exact fin I)
    · obtain ⟨p, vs, its, rfl, rfl, e, g, rv, ht, _⟩ := Rep.lstAt I pb ry
      obtain ⟨ev, h1, h2⟩ := in_any (A := X.A.in1) I hu1 g rv pa rx hc
      exact SeqAt.in_listAt ev ht.isList h1 (by rw [h2]; exact fin I)
    · split at hc
      · rename_i hk
        obtain ⟨p, H', r', rfl, J, dg, back, h1, _⟩ := dict_at I sF gb pa hk
        cases ry
        have e := h1 _ hc
        subst e
        exact d_in (by have := hr.un; omega) J dg rx fun s' J' => fin (back s' J')
      · cases hc
  have notin : ∀ {c : Bool}, inF a b = .ok c → (∀ {s' : Shared}, Inv X pins σ H s' → EP X pins σ Q (.bool (!c)) s') → wpAny (model X.prog X.w) X.A (compareOp .NotIn v u) (EP X pins σ Q) X.xe s := by
    intro c hc fin
    have hu1 : X.A.in1.units + dep < cLine := by
      have := hr.un
      show X.A.units + 1 + dep < cLine
      unfold dep
      omega
    cases b <;> simp only [inF] at hc <;> try (cases hc; done)
    · obtain ⟨p, vs, its, rfl, rfl, e, g, rv, ht, _⟩ := Rep.tupAt I pb ry
      obtain ⟨ev, h1, h2⟩ := in_any (A := X.A.in1) I hu1 g rv pa rx hc
      exact SeqAt.notIn_tupleAt ev ht h1 (by rw [h2]; exact fin I)
    · obtain ⟨p, vs, its, rfl, rfl, e, g, rv, ht, _⟩ := Rep.lstAt I pb ry
      obtain ⟨ev, h1, h2⟩ := in_any (A := X.A.in1) I hu1 g rv pa rx hc
      exact SeqAt.notIn_listAt ev ht.isList h1 (by rw [h2]; exact fin I)
    · split at hc
      · rename_i hk
        obtain ⟨p, H', r', rfl, J, dg, back, h1, _⟩ := dict_at I sF gb pa hk
        cases ry
        have e := h1 _ hc
        subst e
        exact d_notIn (by have := hr.un; omega) J dg rx fun s' J' => fin (back s' J')
      · cases hc
  have twoI : ∀ {i j : Int}, a = .int i → b = .int j → ∃ t t', v = .int i t ∧ u = .int j t' := by
    rintro i j rfl rfl
    have h1 := ga.int'
    have h2 := gb.int'
    subst h1 h2
    obtain ⟨t, rfl⟩ := rx
    obtain ⟨t', rfl⟩ := ry
    exact ⟨t, t', rfl, rfl⟩
  have isIs : ∀ {c : Bool}, isF a b = .ok c → (∀ {s' : Shared}, Inv X pins σ H s' → EP X pins σ Q (.bool c) s') → wpAny (model X.prog X.w) X.A (compareOp .Is v u) (EP X pins σ Q) X.xe s := by
    intro c hc fin
    have non : b = .non → a ≠ .non → c = false → wpAny (model X.prog X.w) X.A (compareOp .Is v u) (EP X pins σ Q) X.xe s := by
      rintro rfl hn rfl
      have hy := gb.non'
      subst hy
      cases ry
      refine is_none_gen ?_
      have e : (v == Value.none) = false := by
        cases pa <;> first
          | exact absurd rfl hn
          | (cases rx; rfl)
          | (obtain ⟨t, rfl⟩ := rx; rfl)
      rw [e]
      exact fin I
    have bol : ∀ {z : Bool}, b = .bl z → (∀ z, a ≠ .bl z) → (a = .non ∨ (∃ i, a = .int i) ∨ (∃ i, a = .str i) ∨ (∃ i, a = .tup i) ∨ ∃ i, a = .lst i) → c = false → wpAny (model X.prog X.w) X.A (compareOp .Is v u) (EP X pins σ Q) X.xe s := by
      rintro z rfl hn hk rfl
      have hy := gb.bl'
      subst hy
      cases ry
      rcases hk with rfl | ⟨i, rfl⟩ | ⟨i, rfl⟩ | ⟨i, rfl⟩ | ⟨i, rfl⟩
      · cases pa; cases rx; exact wpAny_is_other rfl (fun e => nomatch e) (fin I)
      · cases pa; obtain ⟨t, rfl⟩ := rx; exact wpAny_is_other rfl (fun e => nomatch e) (fin I)
      · cases pa; obtain ⟨t, rfl⟩ := rx; exact wpAny_is_other rfl (fun e => nomatch e) (fin I)
      · cases pa; cases rx; exact wpAny_is_other rfl (fun e => nomatch e) (fin I)
      · cases pa; cases rx; exact wpAny_is_other rfl (fun e => nomatch e) (fin I)
    cases a <;> cases b <;> simp only [isF] at hc <;> first
      | (cases hc; done)
      | exact non rfl (fun e => nomatch e) (ok_inj hc).symm
      | exact bol rfl (fun _ e => nomatch e) (.inl rfl) (ok_inj hc).symm
      | exact bol rfl (fun _ e => nomatch e) (.inr (.inl ⟨_, rfl⟩)) (ok_inj hc).symm
      | exact bol rfl (fun _ e => nomatch e) (.inr (.inr (.inl ⟨_, rfl⟩))) (ok_inj hc).symm
      | exact bol rfl (fun _ e => nomatch e) (.inr (.inr (.inr (.inl ⟨_, rfl⟩)))) (ok_inj hc).symm
      | exact bol rfl (fun _ e => nomatch e) (.inr (.inr (.inr (.inr ⟨_, rfl⟩)))) (ok_inj hc).symm
      | skip
    · have h1 := ga.non'
      have h2 := gb.non'
      subst h1 h2
      cases rx
      cases ry
      have := ok_inj hc
      subst this
      exact wpAny_is_self rfl (fin I)
    · rename_i z z'
      have h1 := ga.bl'
      have h2 := gb.bl'
      subst h1 h2
      cases rx
      cases ry
      have := ok_inj hc
      subst this
      by_cases e : z = z'
      · subst e
        have e1 : (z == z) = true := beq_self_eq_true z
        rw [e1] at fin
        exact wpAny_is_self rfl (fin I)
      · have e1 : (z == z') = false := beq_eq_false_iff_ne.mpr e
        rw [e1] at fin
        exact wpAny_is_other rfl (fun q => e (Value.bool.inj q)) (fin I)
  have isNt : ∀ {c : Bool}, isF a b = .ok c → (∀ {s' : Shared}, Inv X pins σ H s' → EP X pins σ Q (.bool (!c)) s') → wpAny (model X.prog X.w) X.A (compareOp .IsNot v u) (EP X pins σ Q) X.xe s := by
    intro c hc fin
    have non : b = .non → a ≠ .non → c = false → wpAny (model X.prog X.w) X.A (compareOp .IsNot v u) (EP X pins σ Q) X.xe s := by
      rintro rfl hn rfl
      have hy := gb.non'
      subst hy
      cases ry
      refine isnot_none_gen ?_
      have e : (v == Value.none) = false := by
        cases pa <;> first
          | exact absurd rfl hn
          | (cases rx; rfl)
          | (obtain ⟨t, rfl⟩ := rx; rfl)
      rw [e]
      exact fin I
    have bol : ∀ {z : Bool}, b = .bl z → (∀ z, a ≠ .bl z) → (a = .non ∨ (∃ i, a = .int i) ∨ (∃ i, a = .str i) ∨ (∃ i, a = .tup i) ∨ ∃ i, a = .lst i) → c = false → wpAny (model X.prog X.w) X.A (compareOp .IsNot v u) (EP X pins σ Q) X.xe s := by
      rintro z rfl hn hk rfl
      have hy := gb.bl'
      subst hy
      cases ry
      rcases hk with rfl | ⟨i, rfl⟩ | ⟨i, rfl⟩ | ⟨i, rfl⟩ | ⟨i, rfl⟩
      · cases pa; cases rx; exact wpAny_isNot_other rfl (fun e => nomatch e) (fin I)
      · cases pa; obtain ⟨t, rfl⟩ := rx; exact wpAny_isNot_other rfl (fun e => nomatch e) (fin I)
      · cases pa; obtain ⟨t, rfl⟩ := rx; exact wpAny_isNot_other rfl (fun e => nomatch e) (fin I)
      · cases pa; cases rx; exact wpAny_isNot_other rfl (fun e => nomatch e) (fin I)
      · cases pa; cases rx; exact wpAny_isNot_other rfl (fun e => nomatch e) (fin I)
    cases a <;> cases b <;> simp only [isF] at hc <;> first
      | (cases hc; done)
      | exact non rfl (fun e => nomatch e) (ok_inj hc).symm
      | exact bol rfl (fun _ e => nomatch e) (.inl rfl) (ok_inj hc).symm
      | exact bol rfl (fun _ e => nomatch e) (.inr (.inl ⟨_, rfl⟩)) (ok_inj hc).symm
      | exact bol rfl (fun _ e => nomatch e) (.inr (.inr (.inl ⟨_, rfl⟩))) (ok_inj hc).symm
      | exact bol rfl (fun _ e => nomatch e) (.inr (.inr (.inr (.inl ⟨_, rfl⟩)))) (ok_inj hc).symm
      | exact bol rfl (fun _ e => nomatch e) (.inr (.inr (.inr (.inr ⟨_, rfl⟩)))) (ok_inj hc).symm
      | skip
    · have h1 := ga.non'
      have h2 := gb.non'
      subst h1 h2
      cases rx
      cases ry
      have := ok_inj hc
      subst this
      exact wpAny_isNot_self rfl (fin I)
    · rename_i z z'
      have h1 := ga.bl'
      have h2 := gb.bl'
      subst h1 h2
      cases rx
      cases ry
      have := ok_inj hc
      subst this
      by_cases e : z = z'
      · subst e
        have e1 : (z == z) = true := beq_self_eq_true z
        rw [e1] at fin
        exact wpAny_isNot_self rfl (fin I)
      · have e1 : (z == z') = false := beq_eq_false_iff_ne.mpr e
        rw [e1] at fin
        exact wpAny_isNot_other rfl (fun q => e (Value.bool.inj q)) (fin I)
  cases o with
  | eq => exact rc_at I dep _ _ _ _ _ _ _ X.A (eqD_ok hf) hu pa pb rx ry _ _ _ _ (fin I)
  | ne =>
    obtain ⟨c, h1, h2⟩ := bind_ok hf
    have := ok_inj h2
    subst this
    exact ne_at I dep _ _ _ _ _ _ _ X.A (eqD_ok h1) hu pa pb rx ry _ _ _ _ (fin I)
  | lt => exact lt_at I dep _ _ _ _ _ _ _ X.A (ltD_ok hf) hu pa pb rx ry _ _ _ _ (fin I)
  | gt =>
    simp only [cmpF, gtD] at hf
    split at hf
    · obtain ⟨t, t', rfl, rfl⟩ := twoI rfl rfl
      have := ok_inj hf
      subst this
      exact gt_int (fin I)
    · cases hf
  | le =>
    simp only [cmpF] at hf
    split at hf
    · obtain ⟨t, t', rfl, rfl⟩ := twoI rfl rfl
      have := ok_inj hf
      subst this
      exact le_int (fin I)
    · cases hf
  | ge =>
    simp only [cmpF] at hf
    split at hf
    · obtain ⟨t, t', rfl, rfl⟩ := twoI rfl rfl
      have := ok_inj hf
      subst this
      exact ge_int (fin I)
    · cases hf
  | isin => exact isin hf fin
  | nin =>
    obtain ⟨c, h1, h2⟩ := bind_ok hf
    have := ok_inj h2
    subst this
    exact notin h1 fin
  | is => exact isIs hf fin
  | isn =>
    obtain ⟨c, h1, h2⟩ := bind_ok hf
    have := ok_inj h2
    subst this
    exact isNt h1 fin

/-! ### the operators' rule -/
def bopM : Bop → Operator
  | .add => .Add | .sub => .Sub | .mul => .Mult | .fdiv => .FloorDiv | .mod => .Mod | .pow => .Pow
/-- an operator: what is made, lies in the heap grown -/
def rBin (K : PySem.W.Frag) (f : D → D → M D) : R2 := fun x y H Q => ∃ F a b r, Sub F H ∧ Opn K F H x a ∧ Opn K F H y b ∧ f a b = .ok r ∧ ∀ v F' H', Grow F H F' H' → Rep K F' v r → Q v H'
theorem ite_ok {α : Type} {c : Prop} [Decidable c] {a b : α} (h : (if c then (.ok a : M α) else stk) = .ok b) : c ∧ a = b := by
  by_cases hc : c
  · rw [if_pos hc] at h
    exact ⟨hc, ok_inj h⟩
  · rw [if_neg hc] at h
    cases h
theorem sz_eq : sz = sizeLine := by
  rw [sizeLine_eq]
  rfl
theorem Reps.rep {F : Hp} {K : PySem.W.Frag} {vs : List V} {ds : List D} (g : Reps K F vs ds) : ∀ n : Nat, Reps K F (List.replicate n vs).flatten (List.replicate n ds).flatten
  | 0 => .nil
  | n + 1 => by
    rw [List.replicate_succ, List.replicate_succ, List.flatten_cons, List.flatten_cons]
    exact g.append (Reps.rep g n)
theorem small_ok {i : Int} (h : small i = true) : -(2 ^ 64) < i ∧ i < 2 ^ 64 := by
  unfold small at h
  rw [Bool.and_eq_true] at h
  exact ⟨of_decide_eq_true h.1, of_decide_eq_true h.2⟩
theorem tupOne (l : Addr) (items : Array Value) (n : Nat) (dd : Option Addr) (sl : Array (Option Value)) (u : Tok) :
    Meets (Builtin.«tuple.__mul__» ⟨[.ref l, .int 1 u], []⟩) (fun _ R s => s.heap.get? l = some { cls := .type "tuple", dict := dd, data := .seq items n, slots := sl } ∧ R (.ok (.ret (Value.ref l))) s) :=
  .of_wp fun prog w A R s h => by
    obtain ⟨hp, g, d, tk, os⟩ := s
    obtain ⟨hl, h⟩ := h
    have f1 := AutoSeq1.idx_int
    wp_walk using wpAny_loadPart' hl
    repeat (first | (refine wpAny_ite_false (by decide) ?_; wp_walk using wpAny_loadPart' hl) | (refine wpAny_ite_true (by simp) ?_; wp_walk using wpAny_loadPart' hl))
    exact ⟨_, rfl, h⟩
/-- a tuple once: itself -/
def rRep1 (K : PySem.W.Frag) : R2 := fun x y H Q => ∃ l xs, x = .ref l ∧ y = .int 1 ∧ SqT K H l xs ∧ Q (.ref l) H
theorem op_rep1 : OpR X (binaryOp .Mult) (rRep1 X.K) := by
  intro pins s σ H x y v u Q I rx ry h
  obtain ⟨l, xs, rfl, rfl, hT, q⟩ := h
  cases rx
  obtain ⟨t, rfl⟩ := ry
  obtain ⟨its, r, ⟨⟨cls, dd, data, sl⟩, ho, hc, n, hd⟩, hs⟩ := I.tuple hT
  simp only at hc hd
  subst hc hd
  refine wpAny_binaryOp_repeat_ref (T := "tuple") (U := "int") (by decide) ⟨_, ho, rfl⟩ (fun s' => typeIs_int s' 1 t) noFill_tuple_mul F.fills_int_mul F.slot_int_rmul repeat_tuple F.slot_int_index.lookup
    (call_meets F.slot_int_rmul (typeIs_int s 1 t) F.entry_int_rmul (F.args_int_rmul_2 _ _) (int_rmul_tuple 1 t l its.toArray n dd sl)
      ⟨ho, rfl, ⟨_, ho, rfl⟩, call_meets F.slot_tuple_mul ⟨_, ho, rfl⟩ F.entry_tuple_mul (F.args_tuple_mul_2 _ _) (tupOne l its.toArray n dd sl t) ⟨ho, ?_⟩⟩)
  exact ⟨.ref l, H, I, rfl, q⟩
theorem op_bin (o : Bop) : OpR X (binaryOp (bopM o)) (rBin X.K (binF o)) := by
  intro pins s σ H x y v u Q I rx ry h
  obtain ⟨F, a, b, r, sF, ga, gb, hf, q⟩ := h
  have int_ : ∀ {i : Int}, .int i = r → Q (.int i) H := by
    rintro i rfl
    exact q _ F H (Grow.refl sF) (.int i)
  cases o with
  | add =>
    cases a <;> cases b <;> simp only [binF] at hf <;> try (cases hf; done)
    · have h1 := ga.int'
      have h2 := gb.int'
      subst h1 h2
      exact op_add pins s σ H _ _ v u Q I rx ry ⟨_, _, rfl, rfl, int_ (ok_inj hf)⟩
    · have h1 := ga.str'
      have h2 := gb.str'
      subst h1 h2
      obtain ⟨hz, e⟩ := ite_ok hf
      subst e
      exact op_add_str pins s σ H _ _ v u Q I rx ry ⟨_, _, rfl, rfl, by rw [← sz_eq]; exact hz, q _ F H (Grow.refl sF) (.str _)⟩
    · obtain ⟨p, vs, rfl, e1, g1⟩ := ga.tup'
      obtain ⟨p', vs', rfl, e2, g2⟩ := gb.tup'
      obtain ⟨hz, e⟩ := ite_ok hf
      subst e
      refine op_catA pins s σ H _ _ v u Q I rx ry ⟨_, _, _, _, rfl, rfl, SqT.of (sF _ _ e1), SqT.of (sF _ _ e2), by rw [g1.length, g2.length, ← sz_eq]; exact hz, fun e => ?_, fun _ e => ?_, fun _ _ p hp => ?_⟩
      · subst e
        cases g1
        exact q _ F H (Grow.refl sF) (.tup e2 (by simpa using g2))
      · subst e
        cases g2
        exact q _ F H (Grow.refl sF) (.tup e1 (by simpa using g1))
      · exact q _ _ _ (Grow.new sF hp) (.tup upd_same ((g1.append g2).mono (Grow.new sF hp).f))
    · obtain ⟨p, vs, rfl, e1, g1⟩ := ga.lst' sF
      obtain ⟨p', vs', rfl, e2, g2⟩ := gb.lst' sF
      obtain ⟨hz, e⟩ := ite_ok hf
      subst e
      exact op_cat pins s σ H _ _ v u Q I rx ry ⟨_, _, _, _, rfl, rfl, e1, e2, by rw [g1.length, g2.length, ← sz_eq]; exact hz, fun p hp => q _ _ _ (Grow.new sF hp) (.lst upd_same ((g1.append g2).mono (Grow.new sF hp).f))⟩
  | sub =>
    cases a <;> cases b <;> simp only [binF] at hf <;> try (cases hf; done)
    have h1 := ga.int'
    have h2 := gb.int'
    subst h1 h2
    exact op_sub pins s σ H _ _ v u Q I rx ry ⟨_, _, rfl, rfl, int_ (ok_inj hf)⟩
  | mul =>
    cases a <;> cases b <;> simp only [binF] at hf <;> try (cases hf; done)
    · have h1 := ga.int'
      have h2 := gb.int'
      subst h1 h2
      obtain ⟨hz, e⟩ := ite_ok hf
      refine op_mul pins s σ H _ _ v u Q I rx ry ⟨_, _, rfl, rfl, ?_, int_ e⟩
      rcases (Bool.or_eq_true _ _).mp hz with hz | hz
      · exact .inl (small_ok hz)
      · exact .inr (small_ok hz)
    · obtain ⟨p, vs, rfl, e1, g1⟩ := ga.tup'
      have h2 := gb.int'
      subst h2
      split at hf
      · rename_i e0
        subst e0
        have := ok_inj hf
        subst this
        exact op_rep1 pins s σ H _ _ v u Q I rx ry ⟨_, _, rfl, rfl, SqT.of (sF _ _ e1), q _ F H (Grow.refl sF) (.tup e1 g1)⟩
      obtain ⟨⟨z1, z2, z3, z4⟩, e⟩ := ite_ok hf
      subst e
      refine op_repT pins s σ H _ _ v u Q I rx ry ⟨_, _, _, rfl, rfl, SqT.of (sF _ _ e1), fun e => ?_, z2, z3, by rw [g1.length]; exact z4, fun p hp => q _ _ _ (Grow.new sF hp) (.tup upd_same ((g1.rep _).mono (Grow.new sF hp).f))⟩
      subst e
      cases g1
      exact z1 rfl
    · obtain ⟨p, vs, rfl, e1, g1⟩ := ga.lst' sF
      have h2 := gb.int'
      subst h2
      obtain ⟨⟨z1, z2, z3⟩, e⟩ := ite_ok hf
      subst e
      exact op_rep pins s σ H _ _ v u Q I rx ry ⟨_, _, _, rfl, rfl, e1, z1, z2, by rw [g1.length, ← sz_eq]; exact z3, fun p hp => q _ _ _ (Grow.new sF hp) (.lst upd_same ((g1.rep _).mono (Grow.new sF hp).f))⟩
  | fdiv =>
    cases a <;> cases b <;> simp only [binF] at hf <;> try (cases hf; done)
    have h1 := ga.int'
    have h2 := gb.int'
    subst h1 h2
    obtain ⟨hz, e⟩ := ite_ok hf
    exact op_fdivW pins s σ H _ _ v u Q I rx ry ⟨_, _, rfl, rfl, wide_div (b := 64) hz.1 (by
      have h64 : (2 : Nat) ^ 64 = 18446744073709551616 := by decide
      have h1 := hz.1
      have h2 := hz.2
      omega) (by decide) (by decide), int_ e⟩
  | mod =>
    cases a <;> cases b <;> simp only [binF] at hf <;> try (cases hf; done)
    have h1 := ga.int'
    have h2 := gb.int'
    subst h1 h2
    obtain ⟨hz, e⟩ := ite_ok hf
    exact op_mod pins s σ H _ _ v u Q I rx ry ⟨_, _, rfl, rfl, hz, int_ e⟩
  | pow =>
    cases a <;> cases b <;> simp only [binF] at hf <;> try (cases hf; done)
    have h1 := ga.int'
    have h2 := gb.int'
    subst h1 h2
    obtain ⟨⟨z1, z2, z3, z4⟩, e⟩ := ite_ok hf
    refine op_pow pins s σ H _ _ v u Q I rx ry ⟨_, _, rfl, rfl, ⟨z3, by omega, by omega⟩, int_ e⟩

/-! ### items -/
theorem place_ix (n : Nat) (i : Int) : place n i = ixN n i := rfl
def rIxD (K : PySem.W.Frag) : R2 := rBin K ixF
theorem atI_rep {F : Hp} {K : PySem.W.Frag} {vs : List V} {ds : List D} {i : Int} {d : D} (g : Reps K F vs ds) (h : (match place ds.length i with | some j => (match ds[j]? with | some x => (.ok x : M D) | none => stk) | none => stk) = .ok d) :
    ∃ v, atI vs i = some v ∧ Rep K F v d := by
  rw [place_ix, ← g.length] at h
  split at h
  · rename_i j hj
    split at h
    · rename_i x hx
      have := ok_inj h
      subst this
      obtain ⟨v, h1, h2⟩ := g.get hx
      exact ⟨v, by unfold atI; rw [hj]; exact h1, h2⟩
    · cases h
  · cases h
theorem ix_D {k : Nat} (hr : Room k X.A) : IxR X (rBin X.K ixF) := by
  intro value slice pins s σ H x y v u Q I rx ry h hs
  obtain ⟨F, a, b, r, sF, ga, gb, hf, q⟩ := h
  cases a <;> simp only [ixF] at hf <;> try (cases hf; done)
  · cases b <;> simp only [ixF] at hf <;> try (cases hf; done)
    obtain ⟨p, vs, rfl, e1, g1⟩ := ga.tup'
    have h2 := gb.int'
    subst h2
    obtain ⟨w, h1, h2⟩ := atI_rep g1 hf
    exact ix_tup value slice pins s σ H _ _ v u Q I rx ry ⟨_, _, _, _, rfl, rfl, SqT.of (sF _ _ e1), h1, q _ F H (Grow.refl sF) h2⟩ hs
  · cases b <;> simp only [ixF] at hf <;> try (cases hf; done)
    obtain ⟨p, vs, rfl, e1, g1⟩ := ga.lst' sF
    have h2 := gb.int'
    subst h2
    obtain ⟨w, h1, h2⟩ := atI_rep g1 hf
    exact ix_list value slice pins s σ H _ _ v u Q I rx ry ⟨_, _, _, _, rfl, rfl, SqL.of e1, h1, q _ F H (Grow.refl sF) h2⟩ hs
  · obtain ⟨o, h1, h2⟩ := bind_ok hf
    unfold dget at h1
    split at h1
    · rename_i hk
      obtain ⟨p, H', r', rfl, J, dg, back, _, hg⟩ := dict_at I sF ga (gb.rep sF) hk
      cases rx
      rcases hg _ h1 with ⟨rfl, _⟩ | ⟨d, w, rfl, rfl, hw⟩
      · cases h2
      · have := ok_inj h2
        subst this
        exact tail_any (dict_typeIs J dg) PySem.F.slot_dict_getitem.lookup (d_getItem (by have := hr.un; omega) J dg ry fun w' s' J' rw' => ⟨w, H, back s' J', rw', q _ F H (Grow.refl sF) hw⟩) hs
    · cases h1
/-! ### slices -/
theorem cutAt_eq (n d : Nat) (o : Option Int) : cutAt n d o = HT.sIx n d o := by cases o <;> rfl
theorem cut_rep {F : Hp} {K : PySem.W.Frag} {vs : List V} {ds : List D} (g : Reps K F vs ds) (lo hi : Option Int) : Reps K F (cutV vs lo hi) (cutL ds lo hi) := by
  unfold cutV cutL
  rw [cutAt_eq, cutAt_eq, g.length]
  exact (g.drop _).take _
theorem sl_D : SlR X (fun x lo hi H Q => ∃ F a r, Sub F H ∧ Opn X.K F H x a ∧ slO lo hi a = .ok r ∧ ∀ v F' H', Grow F H F' H' → Rep X.K F' v r → Q v H') := by
  intro pins s σ H x v vl vu lo hi sl Q I rx hs pl pu h
  obtain ⟨F, a, r, sF, ga, hf, q⟩ := h
  cases a <;> simp only [slO] at hf <;> try (cases hf; done)
  · obtain ⟨p, vs, rfl, e1, g1⟩ := ga.tup'
    have := ok_inj hf
    subst this
    refine sl_tupA pins s σ H _ v vl vu lo hi sl Q I rx hs pl pu ⟨_, _, rfl, SqT.of (sF _ _ e1), fun hw => ?_, fun _ p hp => ?_⟩
    · refine q _ F H (Grow.refl sF) (.tup e1 ?_)
      have hc : cutV vs lo hi = vs := by
        unfold cutV
        rw [hw.1, hw.2]
        simp
      have := cut_rep g1 lo hi
      rw [hc] at this
      exact this
    · exact q _ _ _ (Grow.new sF hp) (.tup upd_same ((cut_rep g1 lo hi).mono (Grow.new sF hp).f))
  · obtain ⟨p, vs, rfl, e1, g1⟩ := ga.lst' sF
    have := ok_inj hf
    subst this
    exact sl_list pins s σ H _ v vl vu lo hi sl Q I rx hs pl pu ⟨_, _, rfl, SqL.of e1, fun p hp => q _ _ _ (Grow.new sF hp) (.lst upd_same ((cut_rep g1 lo hi).mono (Grow.new sF hp).f))⟩
end
end L2.DN

/-! DenD: the built-in functions, by values -/
namespace HT
open PySem PySem.Spec PyProof.Rows L2
section
variable {prog : Program} {w : World} {A : Around} {E : Value → Shared → Prop} {s : Shared}
theorem fold_min : ∀ (ns : List Int) (n : Int), ns.foldl min n ∈ n :: ns ∧ ∀ y ∈ n :: ns, ns.foldl min n ≤ y
  | [], n => ⟨by simp, by simp⟩
  | k :: r, n => by
    obtain ⟨h1, h2⟩ := fold_min r (min n k)
    rw [List.foldl_cons]
    have h0 := h2 _ List.mem_cons_self
    refine ⟨?_, fun y hy => ?_⟩
    · rcases List.mem_cons.mp h1 with q | q
      · rw [q]
        by_cases c : n ≤ k
        · rw [Int.min_eq_left c]; exact List.mem_cons_self
        · rw [Int.min_eq_right (by omega)]; exact List.mem_cons_of_mem _ List.mem_cons_self
      · exact List.mem_cons_of_mem _ (List.mem_cons_of_mem _ q)
    · rcases List.mem_cons.mp hy with rfl | hy
      · omega
      · rcases List.mem_cons.mp hy with rfl | hy
        · omega
        · exact h2 y (List.mem_cons_of_mem _ hy)
theorem fold_max : ∀ (ns : List Int) (n : Int), ns.foldl max n ∈ n :: ns ∧ ∀ y ∈ n :: ns, y ≤ ns.foldl max n
  | [], n => ⟨by simp, by simp⟩
  | k :: r, n => by
    obtain ⟨h1, h2⟩ := fold_max r (max n k)
    rw [List.foldl_cons]
    have h0 := h2 _ List.mem_cons_self
    refine ⟨?_, fun y hy => ?_⟩
    · rcases List.mem_cons.mp h1 with q | q
      · rw [q]
        by_cases c : n ≤ k
        · rw [Int.max_eq_right c]; exact List.mem_cons_of_mem _ List.mem_cons_self
        · rw [Int.max_eq_left (by omega)]; exact List.mem_cons_self
      · exact List.mem_cons_of_mem _ (List.mem_cons_of_mem _ q)
    · rcases List.mem_cons.mp hy with rfl | hy
      · omega
      · rcases List.mem_cons.mp hy with rfl | hy
        · omega
        · exact h2 y (List.mem_cons_of_mem _ hy)
theorem readsAll_ints {h : Heap} : ∀ {ns : List Int} {us : List Value}, Vals (ns.map V.int) us → ReadsAll h us (ns.map .int) []
  | [], _, .nil => .nil
  | n :: ns, _, .cons r t => by
    obtain ⟨k, rfl⟩ := r
    exact ReadsAll.cons (as := []) (bs := []) (.int _ _) (readsAll_ints t)
theorem alike_int (ns : List Int) : PySem.W.AlikeAll (ns.map PyData.int) := by
  refine ⟨fun x hx y hy => ?_, fun x hx => ?_⟩
  · obtain ⟨i, _, rfl⟩ := List.mem_map.mp hx
    obtain ⟨j, _, rfl⟩ := List.mem_map.mp hy
    simp [PySem.W.alike]
  · obtain ⟨i, _, rfl⟩ := List.mem_map.mp hx
    exact fun e => by cases e
theorem min_tup {l : Addr} {its : List Value} {n : Int} {ns : List Int} {Q : Value → Shared → Prop} (hh : A.handled = none) (ht : s.heap.IsTuple l its.toArray) (hi : Vals ((n :: ns).map V.int) its) (hu : A.units + 2 < cLine)
    (h : ∀ h' tk t', (∀ b o, s.heap.get? b = some o → h'.get? b = some o) → Q (.int (ns.foldl min n) t') { s with heap := h', toks := tk }) : wpAny (model prog w) A (call (.builtin "min") [.ref l]) Q E s := by
  have hd := PySem.W.depth_ints (n :: ns)
  refine PySem.W.min_tuple_data (x := .int n) (xs := ns.map .int) hh ht (show ReadsAll s.heap its.toArray.toList ((n :: ns).map .int) [] from readsAll_ints hi) (alike_int (n :: ns)) (by show A.units + 1 + PyData.depthAll ((n :: ns).map .int) < cLine; rw [hd]; omega) fun i v h' tk bs hv rd hk => ?_
  rw [PySem.W.minD_ints] at rd
  cases rd
  exact h h' tk _ hk
theorem max_tup {l : Addr} {its : List Value} {n : Int} {ns : List Int} {Q : Value → Shared → Prop} (hh : A.handled = none) (ht : s.heap.IsTuple l its.toArray) (hi : Vals ((n :: ns).map V.int) its) (hu : A.units + 2 < cLine)
    (h : ∀ h' tk t', (∀ b o, s.heap.get? b = some o → h'.get? b = some o) → Q (.int (ns.foldl max n) t') { s with heap := h', toks := tk }) : wpAny (model prog w) A (call (.builtin "max") [.ref l]) Q E s := by
  have hd := PySem.W.depth_ints (n :: ns)
  refine PySem.W.max_tuple_data (x := .int n) (xs := ns.map .int) hh ht (show ReadsAll s.heap its.toArray.toList ((n :: ns).map .int) [] from readsAll_ints hi) (alike_int (n :: ns)) (by show A.units + 1 + PyData.depthAll ((n :: ns).map .int) < cLine; rw [hd]; omega) fun i v h' tk bs hv rd hk => ?_
  rw [PySem.W.maxD_ints] at rd
  cases rd
  exact h h' tk _ hk
theorem sum_tup {l : Addr} {its : List Value} {ns : List Int} {Q : Value → Shared → Prop} (hh : A.handled = none) (ht : s.heap.IsTuple l its.toArray) (hi : IntsAre its ns)
    (h : ∀ h' tk t', (∀ b o, s.heap.get? b = some o → h'.get? b = some o) → Q (.int ns.sum t') { s with heap := h', toks := tk }) : wpAny (model prog w) A (call (.builtin "sum") [.ref l]) Q E s := by
  have hlt : l < s.heap.objs.size := let ⟨_, ho, _⟩ := ht; Heap.lt_size ho
  have hlen : its.length = ns.length := IntsAre.length hi
  refine call_sum_walkG (wpAny_pyIter_tuple ht ?_)
  refine ⟨_, _, _, _, _, _, fun i => ns.getD i 0, rfl, Walks.tuple (A := A.in1) hh _ l (Nat.ne_of_lt hlt) its.toArray, ⟨⟨_, Heap.get?_push_size _ rfl, rfl, rfl⟩, ht.push _⟩, fun b hb => ?_, fun i v hv => ?_, fun h' tk t' hk => ?_⟩
  · show b < (s.heap.push _).objs.size
    rw [Heap.size_push]
    rcases List.mem_cons.mp hb with e | hb
    · rw [e]
      exact Nat.lt_succ_self _
    · rw [List.mem_singleton.mp hb]
      exact Nat.lt_succ_of_lt hlt
  · have hv : its[i]? = some v := by
      have : its.toArray[i]? = some v := hv
      simpa using this
    have hlt : i < ns.length := by
      rw [← hlen]
      exact (List.getElem?_eq_some_iff.mp hv).1
    obtain ⟨t, e⟩ := PyProof.Rows.IntsAre.int_at hi i v hv
    exact ⟨t, e⟩
  · have := h h' tk t' fun b o e => hk b o (fun hb => ?_) (Heap.get?_push_of_some _ e)
    · rw [preSum_getD, List.size_toArray, hlen, List.take_length]
      exact this
    · exact absurd (Heap.lt_size e) (by rw [List.mem_singleton.mp hb]; exact Nat.lt_irrefl _)
end
end HT
namespace L2.DN
open PySem PySem.Spec PyProof.Rows L2

def rBi (K : PySem.W.Frag) (f : Bi) : List V → Hp → VK → Prop := fun xs H Q => ∃ F ds r, Sub F H ∧ Opns K F H xs ds ∧ biF f ds = .ok r ∧ ∀ v F' H', Grow F H F' H' → Rep K F' v r → Q v H'
section
variable {X : Cx}
theorem Opns.one {K : PySem.W.Frag} {F H : Hp} {xs : List V} {d : D} (g : Opns K F H xs [d]) : ∃ x, xs = [x] ∧ Opn K F H x d := by
  cases g with
  | cons h r => cases r; exact ⟨_, rfl, h⟩
theorem Opns.two {K : PySem.W.Frag} {F H : Hp} {xs : List V} {d e : D} (g : Opns K F H xs [d, e]) : ∃ x y, xs = [x, y] ∧ Opn K F H x d ∧ Opn K F H y e := by
  cases g with
  | cons h r =>
    obtain ⟨y, rfl, h2⟩ := Opns.one r
    exact ⟨_, _, rfl, h, h2⟩
theorem bi_one {f : Bi} {ds : List D} {r : D} (h : biF f ds = .ok r) (hf : f = .tuple ∨ f = .list ∨ f = .all ∨ f = .any ∨ f = .sum ∨ f = .sorted ∨ f = .abs ∨ f = .int ∨ f = .set ∨ f = .isInt ∨ f = .isBool ∨ f = .isTuple ∨ f = .isStr ∨ f = .isList ∨ f = .dict ∨ f = .len) : ∃ d, ds = [d] := by
  match ds with
  | [d] => exact ⟨d, rfl⟩
  | [] => rcases hf with rfl | rfl | rfl | rfl | rfl | rfl | rfl | rfl | rfl | rfl | rfl | rfl | rfl | rfl | rfl | rfl <;> simp [biF, stk] at h
  | _ :: _ :: _ => rcases hf with rfl | rfl | rfl | rfl | rfl | rfl | rfl | rfl | rfl | rfl | rfl | rfl | rfl | rfl | rfl | rfl <;> simp [biF, stk] at h
theorem Reps.ints {K : PySem.W.Frag} {F : Hp} : ∀ {vs : List V} {ns : List Int}, Reps K F vs (ns.map D.int) → vs = ns.map V.int
  | _, [], .nil => rfl
  | _, n :: ns, .cons h r => by
    cases h
    rw [Reps.ints r]
    rfl
theorem call_len_dT1 : CallR X (.builtin "len") (fun xs H Q => ∃ (a : Addr) (kvs : List (List Key × V)), xs = [.ref a] ∧ H a = some (.dT kvs) ∧ Q (.int kvs.length) H) := by
  intro pins s σ H xs us Q I rs h
  obtain ⟨a, kvs, rfl, e, q⟩ := h
  exact call_len_dT pins s σ H _ us Q I rs ⟨a, kvs, rfl, e, q⟩
theorem cr_len : CallR X (.builtin "len") (rBi X.K .len) := by
  intro pins s σ H xs us Q I rs h
  obtain ⟨F, ds, r, sF, g, hf, q⟩ := h
  obtain ⟨d, rfl⟩ := bi_one hf (by simp)
  obtain ⟨x, rfl, gx⟩ := g.one
  have fin : ∀ {i : Int}, .int i = r → Q (.int i) H := by
    rintro i rfl
    exact q _ F H (Grow.refl sF) (.int i)
  cases d <;> simp only [biF] at hf <;> try (cases hf; done)
  · obtain ⟨p, vs, rfl, e, g⟩ := gx.tup'
    exact call_len_seq pins s σ H _ us Q I rs ⟨_, _, rfl, .inr (SqT.of (sF _ _ e)), by rw [g.length]; exact fin (ok_inj hf)⟩
  · obtain ⟨p, vs, rfl, e, g⟩ := gx.lst' sF
    exact call_len_seq pins s σ H _ us Q I rs ⟨_, _, rfl, .inl (SqL.of e), by rw [g.length]; exact fin (ok_inj hf)⟩
  · have dk : ∀ {a : Addr} {kvs : List (Key × V)}, x = .ref a → H a = some (.dK kvs) → (.int (kvs.map fun p => keyD p.1).length : D) = r → wpAny (model X.prog X.w) X.A (call (.builtin "len") us) (EP X pins σ Q) X.xe s := by
      rintro a kvs rfl e hr
      cases rs with
      | cons r1 r2 =>
        cases r2
        cases r1
        refine d_len I (.inl e) fun t s' J => ⟨.int kvs.length, H, J, ⟨t, rfl⟩, ?_⟩
        rw [List.length_map] at hr
        exact fin hr
    have dt : ∀ {a : Addr} {kvs : List (List Key × V)}, x = .ref a → H a = some (.dT kvs) → (.int (kvs.map fun p => D.tup (p.1.map keyD)).length : D) = r → wpAny (model X.prog X.w) X.A (call (.builtin "len") us) (EP X pins σ Q) X.xe s := by
      rintro a kvs rfl e hr
      refine call_len_dT1 pins s σ H _ us Q I rs ⟨_, _, rfl, e, ?_⟩
      rw [List.length_map] at hr
      exact fin hr
    have hr := ok_inj hf
    cases gx with
    | v gx =>
      cases gx with
      | dK e r => exact dk rfl (sF _ _ e) hr
      | dT e r => exact dt rfl (sF _ _ e) hr
    | dK e r => exact dk rfl e hr
    | dT e r => exact dt rfl e hr
theorem rgV_upTo (lo hi : Int) : ∀ {K : PySem.W.Frag} {F : Hp}, Reps K F (rgV lo hi) (upTo lo (hi - lo).toNat) := by
  intro K F
  unfold rgV
  generalize (hi - lo).toNat = n
  induction n generalizing lo with
  | zero => exact .nil
  | succ n ih =>
    rw [List.range_succ_eq_map, List.map_cons, List.map_map]
    have e : ((fun i => V.int (lo + (i : Nat))) ∘ Nat.succ) = fun i : Nat => V.int ((lo + 1) + (i : Nat)) := by
      funext i
      show V.int (lo + ((i + 1 : Nat) : Int)) = _
      congr 1
      omega
    rw [e]
    refine .cons ?_ (ih (lo + 1))
    have : lo + ((0 : Nat) : Int) = lo := by omega
    rw [this]
    exact .int lo
theorem scr_reps {K : PySem.W.Frag} {F : Hp} : ∀ ns : List Int, Reps K F (ns.map V.int) (ns.map D.int)
  | [] => .nil
  | n :: ns => .cons (.int n) (scr_reps ns)
theorem keys_reps {K : PySem.W.Frag} {F : Hp} : ∀ ks : List Key, Reps K F (ks.map kV) (ks.map keyD)
  | [] => .nil
  | .inl n :: ns => .cons (.int n) (keys_reps ns)
  | .inr n :: ns => .cons (.str n) (keys_reps ns)
theorem cr_tuple (hc : X.calm = true) : CallR X (.type "tuple") (rBi X.K .tuple) := by
  intro pins s σ H xs us Q I rs h
  obtain ⟨F, ds, r, sF, g, hf, q⟩ := h
  obtain ⟨d, rfl⟩ := bi_one hf (by simp)
  obtain ⟨x, rfl, gx⟩ := g.one
  obtain ⟨ys, h1, h2⟩ := bind_ok (show (iterD d >>= fun ys => .ok (.tup ys)) = .ok r from hf)
  have := ok_inj h2
  subst this
  cases d <;> simp only [iterD] at h1 <;> try (cases h1; done)
  · obtain ⟨p, vs, rfl, e, g⟩ := gx.tup'
    have := ok_inj h1
    subst this
    exact call_tuple_of pins s σ H _ us Q I rs ⟨_, _, rfl, .inr ⟨SqT.of (sF _ _ e), q _ F H (Grow.refl sF) (.tup e g)⟩⟩
  · obtain ⟨p, vs, rfl, e, g⟩ := gx.lst' sF
    have := ok_inj h1
    subst this
    exact call_tuple_of pins s σ H _ us Q I rs ⟨_, _, rfl, .inl ⟨SqL.of e, fun l hl => q _ _ _ (Grow.new sF hl) (.tup upd_same (g.mono (Grow.new sF hl).f))⟩⟩
  · cases gx with
    | v gx =>
      cases gx with
      | scr e =>
        have := ok_inj h1
        subst this
        exact call_tuple_of pins s σ H _ us Q I rs ⟨_, _, rfl, .inl ⟨sF.sqL e, fun l hl => q _ _ _ (Grow.new sF hl) (.tup upd_same (scr_reps _))⟩⟩
theorem cr_list (hc : X.calm = true) : CallR X (.type "list") (rBi X.K .list) := by
  intro pins s σ H xs us Q I rs h
  obtain ⟨F, ds, r, sF, g, hf, q⟩ := h
  obtain ⟨d, rfl⟩ := bi_one hf (by simp)
  obtain ⟨x, rfl, gx⟩ := g.one
  obtain ⟨ys, h1, h2⟩ := bind_ok (show (iterD d >>= fun ys => .ok (.lst ys)) = .ok r from hf)
  have := ok_inj h2
  subst this
  cases d <;> simp only [iterD] at h1 <;> try (cases h1; done)
  · obtain ⟨p, vs, rfl, e, g⟩ := gx.tup'
    have := ok_inj h1
    subst this
    exact call_list_of pins s σ H _ us Q I rs ⟨_, _, rfl, .inr (SqT.of (sF _ _ e)), fun l hl => q _ _ _ (Grow.new sF hl) (.lst upd_same (g.mono (Grow.new sF hl).f))⟩
  · obtain ⟨p, vs, rfl, e, g⟩ := gx.lst' sF
    have := ok_inj h1
    subst this
    exact call_list_of pins s σ H _ us Q I rs ⟨_, _, rfl, .inl (SqL.of e), fun l hl => q _ _ _ (Grow.new sF hl) (.lst upd_same (g.mono (Grow.new sF hl).f))⟩
  · cases gx with
    | v gx =>
      cases gx with
      | scr e =>
        have := ok_inj h1
        subst this
        exact call_list_of pins s σ H _ us Q I rs ⟨_, _, rfl, .inl (sF.sqL e), fun l hl => q _ _ _ (Grow.new sF hl) (.lst upd_same (scr_reps _))⟩
theorem allB_ok {K : PySem.W.Frag} {F : Hp} : ∀ {vs : List V} {xs : List D} {r : Bool}, Reps K F vs xs → allB xs = .ok r → ∃ bs : List Bool, vs = bs.map V.bl ∧ r = bs.all id
  | _, _, r, .nil, h => ⟨[], rfl, (ok_inj h).symm⟩
  | _, _, r, .cons g1 g2, h => by
    cases g1 with
    | bl b =>
      obtain ⟨q, h1, h2⟩ := bind_ok h
      obtain ⟨bs, e1, e2⟩ := allB_ok g2 h1
      subst e1 e2
      exact ⟨b :: bs, rfl, (ok_inj h2).symm⟩
    | _ => cases h
theorem anyB_ok {K : PySem.W.Frag} {F : Hp} : ∀ {vs : List V} {xs : List D} {r : Bool}, Reps K F vs xs → anyB xs = .ok r → ∃ bs : List Bool, vs = bs.map V.bl ∧ r = bs.any id
  | _, _, r, .nil, h => ⟨[], rfl, (ok_inj h).symm⟩
  | _, _, r, .cons g1 g2, h => by
    cases g1 with
    | bl b =>
      obtain ⟨q, h1, h2⟩ := bind_ok h
      obtain ⟨bs, e1, e2⟩ := anyB_ok g2 h1
      subst e1 e2
      exact ⟨b :: bs, rfl, (ok_inj h2).symm⟩
    | _ => cases h
theorem sumI_ok {K : PySem.W.Frag} {F : Hp} : ∀ {vs : List V} {xs : List D} {r : Int}, Reps K F vs xs → sumI xs = .ok r → ∃ ns : List Int, vs = ns.map V.int ∧ r = ns.sum
  | _, _, r, .nil, h => ⟨[], rfl, (ok_inj h).symm⟩
  | _, _, r, .cons g1 g2, h => by
    cases g1 with
    | int b =>
      obtain ⟨q, h1, h2⟩ := bind_ok h
      obtain ⟨bs, e1, e2⟩ := sumI_ok g2 h1
      subst e1 e2
      exact ⟨b :: bs, rfl, by rw [List.sum_cons]; exact (ok_inj h2).symm⟩
    | _ => cases h
theorem cr_all' (hc : X.calm = true) : CallR X (.builtin "all") (rBi X.K .all) := by
  intro pins s σ H xs us Q I rs h
  obtain ⟨F, ds, r, sF, g, hf, q⟩ := h
  obtain ⟨d, rfl⟩ := bi_one hf (by simp)
  obtain ⟨x, rfl, gx⟩ := g.one
  cases d <;> simp only [biF] at hf <;> try (cases hf; done)
  obtain ⟨p, vs, rfl, e, g⟩ := gx.lst' sF
  obtain ⟨b, h1, h2⟩ := bind_ok hf
  have := ok_inj h2
  subst this
  obtain ⟨bs, rfl, rfl⟩ := allB_ok g h1
  exact cr_all hc pins s σ H _ us Q I rs ⟨_, _, rfl, SqL.of e, q _ F H (Grow.refl sF) (.bl _)⟩
theorem cr_any' (hc : X.calm = true) : CallR X (.builtin "any") (rBi X.K .any) := by
  intro pins s σ H xs us Q I rs h
  obtain ⟨F, ds, r, sF, g, hf, q⟩ := h
  obtain ⟨d, rfl⟩ := bi_one hf (by simp)
  obtain ⟨x, rfl, gx⟩ := g.one
  cases d <;> simp only [biF] at hf <;> try (cases hf; done)
  obtain ⟨p, vs, rfl, e, g⟩ := gx.lst' sF
  obtain ⟨b, h1, h2⟩ := bind_ok hf
  have := ok_inj h2
  subst this
  obtain ⟨bs, rfl, rfl⟩ := anyB_ok g h1
  exact cr_any hc pins s σ H _ us Q I rs ⟨_, _, rfl, SqL.of e, q _ F H (Grow.refl sF) (.bl _)⟩
theorem cr_sumT (hc : X.calm = true) : CallR X (.builtin "sum") (fun vs H Q => ∃ (a : Addr) (ns : List Int), vs = [V.ref a] ∧ SqT X.K H a (ns.map V.int) ∧ Q (.int ns.sum) H) := by
  intro pins s σ H vs us Q I r h
  obtain ⟨a, ns, rfl, hs, q⟩ := h
  obtain ⟨its, rv, hl, _⟩ := I.tuple hs
  rw [Vals.ref1 r]
  exact HT.sum_tup (I.ok.hd hc) hl rv.ints fun h' tk t' hk => ⟨.int _, H, I.kept hk, ⟨_, rfl⟩, q⟩
theorem cr_sum' (hc : X.calm = true) : CallR X (.builtin "sum") (rBi X.K .sum) := by
  intro pins s σ H xs us Q I rs h
  obtain ⟨F, ds, r, sF, g, hf, q⟩ := h
  obtain ⟨d, rfl⟩ := bi_one hf (by simp)
  obtain ⟨x, rfl, gx⟩ := g.one
  cases d <;> simp only [biF] at hf <;> try (cases hf; done)
  · obtain ⟨p, vs, rfl, e, g⟩ := gx.tup'
    obtain ⟨b, h1, h2⟩ := bind_ok hf
    have := ok_inj h2
    subst this
    obtain ⟨bs, rfl, rfl⟩ := sumI_ok g h1
    exact cr_sumT hc pins s σ H _ us Q I rs ⟨_, _, rfl, SqT.of (sF _ _ e), q _ F H (Grow.refl sF) (.int _)⟩
  · obtain ⟨p, vs, rfl, e, g⟩ := gx.lst' sF
    obtain ⟨b, h1, h2⟩ := bind_ok hf
    have := ok_inj h2
    subst this
    obtain ⟨bs, rfl, rfl⟩ := sumI_ok g h1
    exact cr_sum hc pins s σ H _ us Q I rs ⟨_, _, rfl, SqL.of e, q _ F H (Grow.refl sF) (.int _)⟩
theorem cr_abs : CallR X (.builtin "abs") (rBi X.K .abs) := by
  intro pins s σ H xs us Q I rs h
  obtain ⟨F, ds, r, sF, g, hf, q⟩ := h
  obtain ⟨d, rfl⟩ := bi_one hf (by simp)
  obtain ⟨x, rfl, gx⟩ := g.one
  cases d <;> simp only [biF] at hf <;> try (cases hf; done)
  have := gx.int'
  subst this
  have := ok_inj hf
  subst this
  exact call_abs pins s σ H _ us Q I rs ⟨_, rfl, q _ F H (Grow.refl sF) (.int _)⟩
theorem cr_int : CallR X (.type "int") (rBi X.K .int) := by
  intro pins s σ H xs us Q I rs h
  obtain ⟨F, ds, r, sF, g, hf, q⟩ := h
  obtain ⟨d, rfl⟩ := bi_one hf (by simp)
  obtain ⟨x, rfl, gx⟩ := g.one
  cases d <;> simp only [biF] at hf <;> try (cases hf; done)
  · have := gx.bl'
    subst this
    have := ok_inj hf
    subst this
    exact call_int1 pins s σ H _ us Q I rs (.inr ⟨_, rfl, q _ F H (Grow.refl sF) (.int _)⟩)
  · have := gx.int'
    subst this
    have := ok_inj hf
    subst this
    exact call_int1 pins s σ H _ us Q I rs (.inl ⟨_, rfl, q _ F H (Grow.refl sF) (.int _)⟩)
/-! isinstance -/
theorem ty_of {F H : Hp} {x : V} {d : D} (sF : Sub F H) (g : Opn X.K F H x d) : (∃ b, d = .bl b ∧ TyX X.K H x (.type "bool")) ∨ (∃ i, d = .int i ∧ TyX X.K H x (.type "int")) ∨ (d = .non ∧ TyX X.K H x (.type "NoneType")) ∨ (∃ y, d = .str y ∧ TyX X.K H x (.type "str")) ∨ (∃ y, d = .tup y ∧ TyX X.K H x (.type "tuple")) ∨ (∃ y, d = .lst y ∧ TyX X.K H x (.type "list")) ∨ (∃ a b, d = .dct a b) ∨ (∃ a, d = .st a) ∨ (∃ a b, d = .rng a b) ∨ ∃ a, d = .scr a := by
  cases d with
  | bl b => have := g.bl'; subst this; exact .inl ⟨b, rfl, .base (.bl b)⟩
  | int i => have := g.int'; subst this; exact .inr (.inl ⟨i, rfl, .base (.int i)⟩)
  | non => have := g.non'; subst this; exact .inr (.inr (.inl ⟨rfl, .base .non⟩))
  | str y => have := g.str'; subst this; exact .inr (.inr (.inr (.inl ⟨y, rfl, .base (.str y)⟩)))
  | tup y => obtain ⟨p, vs, rfl, e, r⟩ := g.tup'; exact .inr (.inr (.inr (.inr (.inl ⟨y, rfl, .base (.tup (sF _ _ e))⟩))))
  | lst y => obtain ⟨p, vs, rfl, e, r⟩ := g.lst' sF; exact .inr (.inr (.inr (.inr (.inr (.inl ⟨y, rfl, .base (.lst e)⟩)))))
  | dct a b => exact .inr (.inr (.inr (.inr (.inr (.inr (.inl ⟨a, b, rfl⟩))))))
  | st a => exact .inr (.inr (.inr (.inr (.inr (.inr (.inr (.inl ⟨a, rfl⟩)))))))
  | rng a b => exact .inr (.inr (.inr (.inr (.inr (.inr (.inr (.inr (.inl ⟨a, b, rfl⟩))))))))
  | scr a => exact .inr (.inr (.inr (.inr (.inr (.inr (.inr (.inr (.inr ⟨a, rfl⟩))))))))
def isTy : Bi → String
  | .isInt => "int" | .isBool => "bool" | .isTuple => "tuple" | .isStr => "str" | .isList => "list" | _ => ""
def isBi : Bi → Bool
  | .isInt => true | .isBool => true | .isTuple => true | .isStr => true | .isList => true | _ => false
/-- isinstance(x, T): x behind, the class ahead -/
def rIsD (K : PySem.W.Frag) (f : Bi) : List V → Hp → VK → Prop := fun xs H Q => ∃ F x d r, xs = [x, .ty (isTy f)] ∧ Sub F H ∧ Opn K F H x d ∧ biF f [d] = .ok r ∧ ∀ v F' H', Grow F H F' H' → Rep K F' v r → Q v H'
theorem cr_is {f : Bi} (hf : isBi f = true) : CallR X (.builtin "isinstance") (rIsD X.K f) := by
  intro pins s σ H xs us Q I rs h
  obtain ⟨F, x, d, r, rfl, sF, g, hb, q⟩ := h
  have go : ∀ {t : String} {b : Bool}, TyX X.K H x (.type t) → kitB t (isTy f) = some b → D.bl b = r → wpAny (model X.prog X.w) X.A (call (.builtin "isinstance") us) (EP X pins σ Q) X.xe s := fun {t b} ty k e => by
    subst e
    exact call_isi pins s σ H _ us Q I rs ⟨x, _, _, _, b, rfl, .ty _, ty, kit_ty k, q _ F H (Grow.refl sF) (.bl b)⟩
  rcases ty_of sF g with ⟨y, rfl, t⟩ | ⟨y, rfl, t⟩ | ⟨rfl, t⟩ | ⟨y, rfl, t⟩ | ⟨y, rfl, t⟩ | ⟨y, rfl, t⟩ | ⟨a, b, rfl⟩ | ⟨a, rfl⟩ | ⟨a, b, rfl⟩ | ⟨a, rfl⟩
  all_goals cases f <;> simp only [isBi] at hf <;> try (cases hf; done)
  all_goals first
    | (cases hb; done)
    | exact go (b := true) t (by decide +kernel) (ok_inj hb)
    | exact go (b := false) t (by decide +kernel) (ok_inj hb)
/-! min, max -/
theorem minL_int : ∀ (ns : List Int) (x : Int) (r : D), minL (.int x) (ns.map D.int) = .ok r → ∃ m, r = .int m ∧ m ∈ x :: ns ∧ ∀ y ∈ x :: ns, m ≤ y
  | [], x, r, h => ⟨x, (ok_inj h).symm, List.mem_cons_self, by simp⟩
  | n :: ns, x, r, h => by
    obtain ⟨b, h1, h2⟩ := bind_ok (show (ltD (.int n) (.int x) >>= fun l => minL (if l = true then .int n else .int x) (ns.map D.int)) = .ok r from h)
    have hb : b = decide (n < x) := (ok_inj (show (.ok (decide (n < x)) : M Bool) = .ok b from h1)).symm
    subst hb
    by_cases hx : n < x
    · rw [if_pos (by simpa using hx)] at h2
      obtain ⟨m, rfl, hm, hl⟩ := minL_int ns n r h2
      refine ⟨m, rfl, List.mem_cons_of_mem _ hm, fun y hy => ?_⟩
      rcases List.mem_cons.mp hy with rfl | hy
      · exact Int.le_trans (hl n List.mem_cons_self) (Int.le_of_lt hx)
      · exact hl y hy
    · rw [if_neg (by simpa using hx)] at h2
      obtain ⟨m, rfl, hm, hl⟩ := minL_int ns x r h2
      refine ⟨m, rfl, ?_, fun y hy => ?_⟩
      · rcases List.mem_cons.mp hm with rfl | hm
        · exact List.mem_cons_self
        · exact List.mem_cons_of_mem _ (List.mem_cons_of_mem _ hm)
      · rcases List.mem_cons.mp hy with rfl | hy
        · exact hl _ List.mem_cons_self
        · rcases List.mem_cons.mp hy with rfl | hy
          · exact Int.le_trans (hl x List.mem_cons_self) (Int.not_lt.mp hx)
          · exact hl y (List.mem_cons_of_mem _ hy)
theorem maxL_int : ∀ (ns : List Int) (x : Int) (r : D), maxL (.int x) (ns.map D.int) = .ok r → ∃ m, r = .int m ∧ m ∈ x :: ns ∧ ∀ y ∈ x :: ns, y ≤ m
  | [], x, r, h => ⟨x, (ok_inj h).symm, List.mem_cons_self, by simp⟩
  | n :: ns, x, r, h => by
    obtain ⟨b, h1, h2⟩ := bind_ok (show (gtD (.int n) (.int x) >>= fun l => maxL (if l = true then .int n else .int x) (ns.map D.int)) = .ok r from h)
    have hb : b = decide (x < n) := (ok_inj (show (.ok (decide (x < n)) : M Bool) = .ok b from h1)).symm
    subst hb
    by_cases hx : x < n
    · rw [if_pos (by simpa using hx)] at h2
      obtain ⟨m, rfl, hm, hl⟩ := maxL_int ns n r h2
      refine ⟨m, rfl, List.mem_cons_of_mem _ hm, fun y hy => ?_⟩
      rcases List.mem_cons.mp hy with rfl | hy
      · exact Int.le_trans (Int.le_of_lt hx) (hl n List.mem_cons_self)
      · exact hl y hy
    · rw [if_neg (by simpa using hx)] at h2
      obtain ⟨m, rfl, hm, hl⟩ := maxL_int ns x r h2
      refine ⟨m, rfl, ?_, fun y hy => ?_⟩
      · rcases List.mem_cons.mp hm with rfl | hm
        · exact List.mem_cons_self
        · exact List.mem_cons_of_mem _ (List.mem_cons_of_mem _ hm)
      · rcases List.mem_cons.mp hy with rfl | hy
        · exact hl _ List.mem_cons_self
        · rcases List.mem_cons.mp hy with rfl | hy
          · exact Int.le_trans (Int.not_lt.mp hx) (hl x List.mem_cons_self)
          · exact hl y (List.mem_cons_of_mem _ hy)
theorem allInt_ok : ∀ {ds : List D} {ns : List Int}, allInt ds = some ns → ds = ns.map D.int
  | [], ns, h => by cases h; rfl
  | .int i :: r, ns, h => by
    unfold allInt at h
    cases q : allInt r with
    | none => rw [q] at h; cases h
    | some ms => rw [q] at h; cases h; rw [allInt_ok q]; rfl
theorem cr_min' (hc : X.calm = true) (hu : X.A.units + 2 < cLine) : CallR X (.builtin "min") (rBi X.K .min) := by
  intro pins s σ H xs us Q I rs h
  obtain ⟨F, ds, r, sF, g, hf, q⟩ := h
  unfold biF at hf
  split at hf <;> try (cases hf; done)
  all_goals first
    | (rename_i e; cases e; done)
    | skip
  · rename_i x r0 e
    cases ha : allInt (x :: r0) with
    | none => rw [ha] at hf; cases hf
    | some ns =>
      rw [ha] at hf
      have hd := allInt_ok ha
      cases ns with
      | nil => cases hd
      | cons n ns =>
        injection hd with e1 e2
        subst e1 e2
        obtain ⟨y, rfl, gx⟩ := g.one
        obtain ⟨p, vs, rfl, e, gr⟩ := gx.lst' sF
        obtain ⟨m, rfl, hm, hl⟩ := minL_int ns n r hf
        have hv : vs = (n :: ns).map V.int := Reps.ints (show Reps X.K F vs ((n :: ns).map D.int) from gr)
        subst hv
        refine cr_min hc pins s σ H _ us Q I rs ⟨p, n :: ns, rfl, SqL.of e, by simp, fun m' h1 h2 => ?_⟩
        have : m' = m := Int.le_antisymm (h2 m hm) (hl m' h1)
        subst this
        exact q _ F H (Grow.refl sF) (.int _)
  · rename_i x r0 e
    cases ha : allInt (x :: r0) with
    | none => rw [ha] at hf; cases hf
    | some ns =>
      rw [ha] at hf
      have hd := allInt_ok ha
      cases ns with
      | nil => cases hd
      | cons n ns =>
        injection hd with e1 e2
        subst e1 e2
        obtain ⟨y, rfl, gx⟩ := g.one
        obtain ⟨p, vs, rfl, e, gr⟩ := gx.tup'
        obtain ⟨m, rfl, hm, hl⟩ := minL_int ns n r hf
        have hv : vs = (n :: ns).map V.int := Reps.ints (show Reps X.K F vs ((n :: ns).map D.int) from gr)
        subst hv
        obtain ⟨u, rfl, ru⟩ := vals1 rs
        cases ru
        obtain ⟨its, rv, pt, hz⟩ := I.tuple (SqT.of (sF _ _ e))
        refine HT.min_tup (I.ok.hd hc) (show s.heap.IsTuple p its.toArray from pt) rv hu fun h' tk t' hk => ?_
        have : m = ns.foldl min n := Int.le_antisymm (hl _ (HT.fold_min ns n).1) ((HT.fold_min ns n).2 _ hm)
        exact ⟨V.int m, H, I.kept (t' := tk) hk, ⟨t', by rw [this]⟩, q _ F H (Grow.refl sF) (.int _)⟩
  · rename_i x y e
    obtain ⟨a, b, rfl, g1, g2⟩ := g.two
    have := g1.int'
    subst this
    have := g2.int'
    subst this
    have := ok_inj hf
    subst this
    exact call_min2 hc pins s σ H _ us Q I rs ⟨_, _, rfl, q _ F H (Grow.refl sF) (.int _)⟩
theorem cr_max' (hc : X.calm = true) (hu : X.A.units + 2 < cLine) : CallR X (.builtin "max") (rBi X.K .max) := by
  intro pins s σ H xs us Q I rs h
  obtain ⟨F, ds, r, sF, g, hf, q⟩ := h
  unfold biF at hf
  split at hf <;> try (cases hf; done)
  all_goals first
    | (rename_i e; cases e; done)
    | skip
  · rename_i x r0 e
    cases ha : allInt (x :: r0) with
    | none => rw [ha] at hf; cases hf
    | some ns =>
      rw [ha] at hf
      have hd := allInt_ok ha
      cases ns with
      | nil => cases hd
      | cons n ns =>
        injection hd with e1 e2
        subst e1 e2
        obtain ⟨y, rfl, gx⟩ := g.one
        obtain ⟨p, vs, rfl, e, gr⟩ := gx.lst' sF
        obtain ⟨m, rfl, hm, hl⟩ := maxL_int ns n r hf
        have hv : vs = (n :: ns).map V.int := Reps.ints (show Reps X.K F vs ((n :: ns).map D.int) from gr)
        subst hv
        refine cr_max hc pins s σ H _ us Q I rs ⟨p, n :: ns, rfl, SqL.of e, by simp, fun m' h1 h2 => ?_⟩
        have : m' = m := Int.le_antisymm (hl m' h1) (h2 m hm)
        subst this
        exact q _ F H (Grow.refl sF) (.int _)
  · rename_i x r0 e
    cases ha : allInt (x :: r0) with
    | none => rw [ha] at hf; cases hf
    | some ns =>
      rw [ha] at hf
      have hd := allInt_ok ha
      cases ns with
      | nil => cases hd
      | cons n ns =>
        injection hd with e1 e2
        subst e1 e2
        obtain ⟨y, rfl, gx⟩ := g.one
        obtain ⟨p, vs, rfl, e, gr⟩ := gx.tup'
        obtain ⟨m, rfl, hm, hl⟩ := maxL_int ns n r hf
        have hv : vs = (n :: ns).map V.int := Reps.ints (show Reps X.K F vs ((n :: ns).map D.int) from gr)
        subst hv
        obtain ⟨u, rfl, ru⟩ := vals1 rs
        cases ru
        obtain ⟨its, rv, pt, hz⟩ := I.tuple (SqT.of (sF _ _ e))
        refine HT.max_tup (I.ok.hd hc) (show s.heap.IsTuple p its.toArray from pt) rv hu fun h' tk t' hk => ?_
        have : m = ns.foldl max n := Int.le_antisymm ((HT.fold_max ns n).2 _ hm) (hl _ (HT.fold_max ns n).1)
        exact ⟨V.int m, H, I.kept (t' := tk) hk, ⟨t', by rw [this]⟩, q _ F H (Grow.refl sF) (.int _)⟩
  · rename_i x y e
    obtain ⟨a, b, rfl, g1, g2⟩ := g.two
    have := g1.int'
    subst this
    have := g2.int'
    subst this
    have := ok_inj hf
    subst this
    exact call_max2 hc pins s σ H _ us Q I rs ⟨_, _, rfl, q _ F H (Grow.refl sF) (.int _)⟩
theorem cr_gcd' : CallR X (.builtin "math.gcd") (rBi X.K .gcd) := by
  intro pins s σ H xs us Q I rs h
  obtain ⟨F, ds, r, sF, g, hf, q⟩ := h
  unfold biF at hf
  split at hf <;> try (cases hf; done)
  all_goals first
    | (rename_i e; cases e; done)
    | skip
  obtain ⟨a, b, rfl, g1, g2⟩ := g.two
  have := g1.int'
  subst this
  have := g2.int'
  subst this
  have := ok_inj hf
  subst this
  exact cr_gcd pins s σ H _ us Q I rs ⟨_, _, rfl, q _ F H (Grow.refl sF) (.int _)⟩
end
end L2.DN

/-! DenE: the frame's slots and the abstract heap; readings of expressions -/
namespace L2.DN
open PySem PySem.Spec PyProof.Rows L2

/-! ### outcomes -/
def OutM {α : Type} (r : M α) (k : α → Prop) (ex : Er → Prop) : Prop := match r with
  | .ok a => k a
  | .error e => ex e
section
variable {α β : Type} {m : M α} {f : α → M β} {k : β → Prop} {ex ex' : Er → Prop}
theorem OutM.bind (h : OutM (m >>= f) k ex) : OutM m (fun a => OutM (f a) k ex) ex := by
  cases m with
  | ok a => exact h
  | error e => exact h
theorem OutM.mono {k k' : α → Prop} (h : OutM m k ex) (hk : ∀ a, k a → k' a) (he : ∀ e, ex e → ex' e) : OutM m k' ex' := by
  cases m with
  | ok a => exact hk a h
  | error e => exact he e h
theorem noX_ok {a : α} (h : noX m = .ok a) : m = .ok a := by
  cases m with
  | ok b => exact h
  | error e => cases h
theorem OutM.pure (h : OutM (noX m >>= f) k ex) (hs : ¬ ex .stuck) : ∃ a, m = .ok a ∧ OutM (f a) k ex := by
  cases m with
  | ok a => exact ⟨a, rfl, h⟩
  | error e => exact absurd h hs
end
theorem OutM.noX {α : Type} {m : M α} {k : α → Prop} {ex : Er → Prop} (h : OutM (noX m) k ex) (hs : ¬ ex .stuck) : ∃ a, m = .ok a ∧ k a := by
  cases m with
  | ok a => exact ⟨a, rfl, h⟩
  | error e => exact absurd h hs

/-! ### slots -/
inductive Own (K : PySem.W.Frag) (F H : Hp) (a : Addr) : D → Prop
  | lst {vs : List V} {ds : List D} : H a = some (.lst vs) → Reps K F vs ds → Own K F H a (.lst ds)
  | dK {kvs : List (Key × V)} {ds : List D} : H a = some (.dK kvs) → Reps K F (kvs.map (·.2)) ds → Own K F H a (.dct (kvs.map fun p => keyD p.1) ds)
  | dT {kvs : List (List Key × V)} {ds : List D} : H a = some (.dT kvs) → Reps K F (kvs.map (·.2)) ds → Own K F H a (.dct (kvs.map fun p => .tup (p.1.map keyD)) ds)
def SlotOk (K : PySem.W.Frag) (F H : Hp) : Slot → Option (Option V) → Prop
  | .nil, _ => True
  | .v d, x => ∃ u, x = some (some u) ∧ Rep K F u d
  | .o d, x => ∃ a, x = some (some (.ref a)) ∧ F a = none ∧ Own K F H a d
def Owns (env : Env) (σ : L2.St) (a : Addr) : Prop := ∃ i d, env.getD i .nil = .o d ∧ σ[i]? = some (some (.ref a))
structure Rel (K : PySem.W.Frag) (F : Hp) (env : Env) (σ : L2.St) (H : Hp) : Prop where
  sub : Sub F H
  len : env.length = σ.length
  slot : ∀ i, SlotOk K F H (env.getD i .nil) σ[i]?
  one : ∀ i j d e a, env.getD i .nil = .o d → env.getD j .nil = .o e → σ[i]? = some (some (.ref a)) → σ[j]? = some (some (.ref a)) → i = j
structure Step (O : Addr → Prop) (F H F' H' : Hp) : Prop where
  keep : ∀ a o, H a = some o → ¬ O a → H' a = some o
  mono : Sub F F'
  fr : ∀ a o, F' a = some o → F a = some o ∨ NoOwn H a ∨ O a
  dom : ∀ a, H' a = none → H a = none
section
variable {K : PySem.W.Frag} {F F' F'' H H' H'' : Hp} {env env' env'' : Env} {σ : L2.St} {O O' : Addr → Prop} {a : Addr} {d : D}
theorem Step.refl : Step O F H F H := ⟨fun _ _ e _ => e, Sub.refl _, fun _ _ e => .inl e, fun _ e => e⟩
theorem Step.trans (x : Step O F H F' H') (y : Step O' F' H' F'' H'') (h : ∀ a, O' a → O a ∨ H a = none) : Step O F H F'' H'' := by
  refine ⟨fun a o e n => y.keep a o (x.keep a o e n) fun z => ?_, x.mono.trans y.mono, fun a o e => ?_, fun a e => x.dom a (y.dom a e)⟩
  · rcases h a z with q | q
    · exact n q
    · rw [e] at q; cases q
  · rcases y.fr a o e with q | q | q
    · exact x.fr a o q
    · by_cases ho : O a
      · exact .inr (.inr ho)
      · right; left
        cases e2 : H a with
        | none => exact .inl e2
        | some u =>
          have e3 := x.keep a u e2 ho
          rcases q with q | ⟨vs, q⟩
          · rw [e3] at q; cases q
          · rw [e3] at q; cases q; exact .inr ⟨vs, e2⟩
    · rcases h a q with q | q
      · exact .inr (.inr q)
      · exact .inr (.inl (.inl q))
theorem Step.weak (x : Step O F H F' H') (h : ∀ a, O a → O' a) : Step O' F H F' H' := ⟨fun a o e n => x.keep a o e fun z => n (h a z), x.mono, fun a o e => (x.fr a o e).imp_right (.imp_right (h a)), x.dom⟩
theorem none_sub {H H' : Hp} {a : Addr} (s : Sub H H') (e : H' a = none) : H a = none := by
  cases q : H a with
  | none => rfl
  | some o => rw [s _ _ q] at e; cases e
theorem Grow.step (g : Grow F H F' H') : Step O F H F' H' := ⟨fun a o e _ => g.h a o e, g.f, fun a o e => (g.fr a o e).imp_right .inl, fun a e => none_sub g.h e⟩
theorem Own.some (h : Own K F H a d) : ∃ o, H a = some o := by
  cases h with
  | lst e _ => exact ⟨_, e⟩
  | dK e _ => exact ⟨_, e⟩
  | dT e _ => exact ⟨_, e⟩
theorem Own.noOwn (h : Own K F H a d) (n : NoOwn H a) : False := by
  cases h with
  | lst e _ => rcases n with n | ⟨_, n⟩ <;> rw [e] at n <;> cases n
  | dK e _ => rcases n with n | ⟨_, n⟩ <;> rw [e] at n <;> cases n
  | dT e _ => rcases n with n | ⟨_, n⟩ <;> rw [e] at n <;> cases n
theorem Own.at (h : Own K F H a d) (s : Sub F F') (e : H' a = H a) : Own K F' H' a d := by
  cases h with
  | lst e1 r => exact .lst (e.trans e1) (r.mono s)
  | dK e1 r => exact .dK (e.trans e1) (r.mono s)
  | dT e1 r => exact .dT (e.trans e1) (r.mono s)
theorem Own.opn (h : Own K F H a d) : Opn K F H (.ref a) d := by
  cases h with
  | lst e1 r => exact .lst e1 r
  | dK e1 r => exact .dK e1 r
  | dT e1 r => exact .dT e1 r
theorem Rel.own (R : Rel K F env σ H) {i : Nat} (h : env.getD i .nil = .o d) : ∃ a, σ[i]? = some (some (.ref a)) ∧ F a = none ∧ Own K F H a d := by
  have := R.slot i
  rw [h] at this
  exact this
theorem Rel.val (R : Rel K F env σ H) {i : Nat} (h : env.getD i .nil = .v d) : ∃ u, σ[i]? = some (some u) ∧ Rep K F u d := by
  have := R.slot i
  rw [h] at this
  exact this
/-- what a frame's code did so far -/
structure Went (K : PySem.W.Frag) (σ : L2.St) (env : Env) (F H : Hp) (env' : Env) (F' H' : Hp) : Prop where
  rel : Rel K F' env' σ H'
  step : Step (Owns env σ) F H F' H'
  own : ∀ a, Owns env' σ a → Owns env σ a
theorem Went.refl (R : Rel K F env σ H) : Went K σ env F H env F H := ⟨R, Step.refl, fun _ h => h⟩
theorem Went.trans (x : Went K σ env F H env' F' H') (y : Went K σ env' F' H' env'' F'' H'') : Went K σ env F H env'' F'' H'' :=
  ⟨y.rel, x.step.trans y.step fun a h => .inl (x.own a h), fun a h => x.own a (y.own a h)⟩
/-- new frozen things -/
theorem Rel.grow (R : Rel K F env σ H) (g : Grow F H F' H') : Rel K F' env σ H' := by
  refine ⟨g.s, R.len, fun i => ?_, R.one⟩
  have h := R.slot i
  generalize env.getD i .nil = s at h
  cases s with
  | nil => trivial
  | v d => exact ⟨h.choose, h.choose_spec.1, h.choose_spec.2.mono g.f⟩
  | o d =>
    obtain ⟨a, e, n, ow⟩ := h
    obtain ⟨o, ho⟩ := ow.some
    refine ⟨a, e, ?_, ow.at g.f ((g.h a o ho).trans ho.symm)⟩
    cases q : F' a with
    | none => rfl
    | some u =>
      rcases g.fr a u q with z | z
      · rw [n] at z; cases z
      · exact (ow.noOwn z).elim
theorem Went.grow (R : Rel K F env σ H) (g : Grow F H F' H') : Went K σ env F H env F' H' := ⟨R.grow g, g.step, fun _ h => h⟩
theorem getD_set (env : Env) (i j : Nat) (s : Slot) : (env.set i s).getD j .nil = if i = j ∧ i < env.length then s else env.getD j .nil := by
  simp only [List.getD_eq_getElem?_getD, List.getElem?_set]
  by_cases h : i = j
  · subst h
    by_cases h2 : i < env.length
    · simp [h2]
    · simp [h2]
  · simp [h]
theorem getD_lt {i : Nat} {s : Slot} (h : env.getD i .nil = s) (hs : s ≠ .nil) : i < env.length := by
  by_cases hi : i < env.length
  · exact hi
  · exfalso
    apply hs
    rw [← h]
    simp [List.getD_eq_getElem?_getD, Nat.le_of_not_lt hi]
/-- an own list or dict is read as a value: it is frozen from now on -/
theorem Rel.freeze (R : Rel K F env σ H) {i : Nat} {a : Addr} {o : HO} (h : env.getD i .nil = .o d) (e : σ[i]? = some (some (.ref a))) (n : F a = none) (ow : Own K F H a d) (ho : H a = some o) :
    Went K σ env F H (env.set i (.v d)) (upd F a o) H ∧ Rep K (upd F a o) (.ref a) d := by
  have hi : i < env.length := getD_lt h (fun z => nomatch z)
  have sF : Sub F (upd F a o) := sub_upd n
  have hr : Rep K (upd F a o) (.ref a) d := by
    cases ow with
    | lst e1 r =>
      rw [e1] at ho; cases ho
      exact .lst upd_same (r.mono sF)
    | dK e1 r =>
      rw [e1] at ho; cases ho
      exact .dK upd_same (r.mono sF)
    | dT e1 r =>
      rw [e1] at ho; cases ho
      exact .dT upd_same (r.mono sF)
  refine ⟨⟨⟨fun b u q => ?_, by rw [List.length_set]; exact R.len, fun j => ?_, fun j k d1 d2 b h1 h2 e1 e2 => ?_⟩, ⟨fun _ _ q _ => q, sF, fun b u q => ?_, fun _ e => e⟩, fun b ⟨j, d1, h1, e1⟩ => ?_⟩, hr⟩
  · by_cases hb : b = a
    · subst hb; rw [upd_same] at q; cases q; exact ho
    · rw [upd_ne hb] at q; exact R.sub _ _ q
  · rw [getD_set]
    by_cases hj : i = j
    · subst hj
      rw [if_pos ⟨rfl, hi⟩]
      exact ⟨_, e, hr⟩
    · rw [if_neg (fun z => hj z.1)]
      have hs := R.slot j
      generalize hsj : env.getD j .nil = s at hs
      cases s with
      | nil => trivial
      | v d => exact ⟨hs.choose, hs.choose_spec.1, hs.choose_spec.2.mono sF⟩
      | o d' =>
        obtain ⟨b, e1, n1, ow1⟩ := hs
        have hba : b ≠ a := by
          rintro rfl
          exact hj (R.one _ _ _ _ _ h hsj e e1)
        exact ⟨b, e1, by rw [upd_ne hba]; exact n1, ow1.at sF rfl⟩
  · rw [getD_set] at h1 h2
    split at h1
    · cases h1
    · split at h2
      · cases h2
      · exact R.one _ _ _ _ _ h1 h2 e1 e2
  · by_cases hb : b = a
    · subst hb; exact .inr (.inr ⟨i, d, h, e⟩)
    · rw [upd_ne hb] at q; exact .inl q
  · rw [getD_set] at h1
    split at h1
    · cases h1
    · exact ⟨j, d1, h1, e1⟩
end
theorem owns_some {K : PySem.W.Frag} {F H : Hp} {env : Env} {σ : L2.St} {a : Addr} (R : Rel K F env σ H) (o : Owns env σ a) : ∃ o, H a = some o := by
  obtain ⟨j, d, h1, h2⟩ := o
  obtain ⟨b, e, n, ow⟩ := R.own h1
  rw [h2] at e
  cases e
  exact ow.some
/-- a new list is frozen -/
theorem Went.fix {K : PySem.W.Frag} {σ : L2.St} {env env' : Env} {F1 H1 F H : Hp} {L : Addr} {o : HO} (R : Rel K F1 env σ H1) (w : Went K σ env F1 H1 env' F H) (h1 : H1 L = none) (hF : F L = none) (hL : H L = some o) : Went K σ env F1 H1 env' (upd F L o) H := by
  refine ⟨⟨fun a u q => ?_, w.rel.len, fun j => ?_, w.rel.one⟩, ⟨w.step.keep, w.step.mono.trans (sub_upd hF), fun a u q => ?_, w.step.dom⟩, w.own⟩
  · by_cases ha : a = L
    · subst ha; rw [upd_same] at q; cases q; exact hL
    · rw [upd_ne ha] at q; exact w.rel.sub a u q
  · have hs := w.rel.slot j
    generalize hj : env'.getD j .nil = s at hs
    cases s with
    | nil => trivial
    | v d => exact ⟨hs.choose, hs.choose_spec.1, hs.choose_spec.2.mono (sub_upd hF)⟩
    | o d =>
      obtain ⟨a, e, n, ow⟩ := hs
      obtain ⟨u, hu⟩ := owns_some R (w.own a ⟨j, d, hj, e⟩)
      have ha : a ≠ L := fun z => by rw [z, h1] at hu; cases hu
      exact ⟨a, e, by rw [upd_ne ha]; exact n, ow.at (sub_upd hF) rfl⟩
  · by_cases ha : a = L
    · subst ha; exact .inr (.inl (.inl h1))
    · rw [upd_ne ha] at q; exact w.step.fr a u q
theorem Went.push {K : PySem.W.Frag} {F H : Hp} {env : Env} {σ : L2.St} {p : Addr} {o : HO} (R : Rel K F env σ H) (hp : H p = none) : Went K σ env F H env F (upd H p o) := by
  have ne : ∀ {a u}, H a = some u → a ≠ p := fun e z => by rw [z, hp] at e; cases e
  refine ⟨⟨fun a u e => by rw [upd_ne (ne (R.sub _ _ e))]; exact R.sub _ _ e, R.len, fun j => ?_, R.one⟩, ⟨fun a u e _ => by rw [upd_ne (ne e)]; exact e, Sub.refl _, fun _ _ e => .inl e, fun a e => none_sub (sub_upd hp) e⟩, fun _ h => h⟩
  have hs := R.slot j
  generalize hj : env.getD j .nil = s at hs
  cases s with
  | nil => trivial
  | v d => exact hs
  | o d =>
    obtain ⟨a, e, n, ow⟩ := hs
    obtain ⟨u, hu⟩ := ow.some
    exact ⟨a, e, n, ow.at (Sub.refl _) (upd_ne (ne hu))⟩
/-- an own thing is written -/
theorem Went.write {K : PySem.W.Frag} {F H : Hp} {env : Env} {σ : L2.St} {i : Nat} {a : Addr} {d d' : D} {o : HO} (R : Rel K F env σ H) (h : env.getD i .nil = .o d) (e : σ[i]? = some (some (.ref a))) (n : F a = none) (ow : Own K F (upd H a o) a d') : Went K σ env F H (env.set i (.o d')) F (upd H a o) := by
  have hi : i < env.length := getD_lt h (fun z => nomatch z)
  have own : ∀ b, Owns (env.set i (.o d')) σ b → Owns env σ b := fun b ⟨j, d1, h1, e1⟩ => by
    rw [getD_set] at h1
    by_cases hj : i = j
    · subst hj; exact ⟨i, d, h, e1⟩
    · rw [if_neg (fun z => hj z.1)] at h1; exact ⟨j, d1, h1, e1⟩
  refine ⟨⟨fun b u q => ?_, by rw [List.length_set]; exact R.len, fun j => ?_, fun j k d1 d2 b h1 h2 e1 e2 => ?_⟩, ⟨fun b u q no => ?_, Sub.refl _, fun _ _ q => .inl q, fun b q => ?_⟩, own⟩
  · have : b ≠ a := fun z => by rw [z, n] at q; cases q
    rw [upd_ne this]; exact R.sub _ _ q
  · rw [getD_set]
    by_cases hj : i = j
    · subst hj
      rw [if_pos ⟨rfl, hi⟩]
      exact ⟨a, e, n, ow⟩
    · rw [if_neg (fun z => hj z.1)]
      have hs := R.slot j
      generalize hsj : env.getD j .nil = s at hs
      cases s with
      | nil => trivial
      | v d => exact hs
      | o d1 =>
        obtain ⟨b, e1, n1, ow1⟩ := hs
        have hba : b ≠ a := by
          rintro rfl
          exact hj (R.one _ _ _ _ _ h hsj e e1)
        exact ⟨b, e1, n1, ow1.at (Sub.refl _) (upd_ne hba)⟩
  · rw [getD_set] at h1 h2
    by_cases hj : i = j
    · by_cases hk : i = k
      · exact hj.symm.trans hk
      · rw [if_neg (fun z => hk z.1)] at h2
        subst hj
        exact R.one _ _ _ _ _ h h2 e1 e2
    · rw [if_neg (fun z => hj z.1)] at h1
      by_cases hk : i = k
      · subst hk
        exact R.one _ _ _ _ _ h1 h e1 e2
      · rw [if_neg (fun z => hk z.1)] at h2
        exact R.one _ _ _ _ _ h1 h2 e1 e2
  · have : b ≠ a := fun z => no (z ▸ ⟨i, d, h, e⟩)
    rw [upd_ne this]; exact q
  · by_cases hb : b = a
    · subst hb; rw [upd_same] at q; cases q
    · rw [upd_ne hb] at q; exact q
/-- operands -/
inductive OpdOk (K : PySem.W.Frag) (F : Hp) (σ : L2.St) : Arg → V → Prop
  | v {v : V} {d : D} : Rep K F v d → OpdOk K F σ (.v d) v
  | s {v : V} {i : Nat} : σ[i]? = some (some v) → OpdOk K F σ (.s i) v
inductive OpdsOk (K : PySem.W.Frag) (F : Hp) (σ : L2.St) : List Arg → List V → Prop
  | nil : OpdsOk K F σ [] []
  | cons {a : Arg} {as : List Arg} {v : V} {vs : List V} : OpdOk K F σ a v → OpdsOk K F σ as vs → OpdsOk K F σ (a :: as) (v :: vs)
section
variable {K : PySem.W.Frag} {F F' H : Hp} {env : Env} {σ : L2.St}
theorem OpdOk.mono {a : Arg} {v : V} (s : Sub F F') (h : OpdOk K F σ a v) : OpdOk K F' σ a v := by
  cases h with
  | v r => exact .v (r.mono s)
  | s e => exact .s e
theorem OpdsOk.mono (s : Sub F F') : ∀ {as : List Arg} {vs : List V}, OpdsOk K F σ as vs → OpdsOk K F' σ as vs
  | _, _, .nil => .nil
  | _, _, .cons h r => .cons (h.mono s) (r.mono s)
theorem OpdOk.opn {a : Arg} {v : V} {d : D} (R : Rel K F env σ H) (h : OpdOk K F σ a v) (e : val env a = .ok d) : Opn K F H v d := by
  cases h with
  | v r => have := ok_inj e; subst this; exact .v r
  | @s v i hs =>
    have e : peek env i = .ok d := e
    unfold peek at e
    split at e
    · rename_i d' hd
      have := ok_inj e
      subst this
      obtain ⟨u, e1, r⟩ := R.val hd
      rw [hs] at e1
      cases e1
      exact .v r
    · rename_i d' hd
      have := ok_inj e
      subst this
      obtain ⟨a, e1, n, ow⟩ := R.own hd
      rw [hs] at e1
      cases e1
      exact ow.opn
    · cases e
theorem OpdsOk.opns (R : Rel K F env σ H) : ∀ {as : List Arg} {vs : List V} {ds : List D}, OpdsOk K F σ as vs → vals env as = .ok ds → Opns K F H vs ds
  | _, _, _, .nil, e => by have := ok_inj e; subst this; exact .nil
  | _, _, _, .cons h r, e => by
    obtain ⟨d, h1, h2⟩ := bind_ok e
    obtain ⟨ds, h3, h4⟩ := bind_ok h2
    have := ok_inj h4
    subst this
    exact .cons (h.opn R h1) (OpdsOk.opns R r h3)
theorem Opns.vs (s : Sub F H) : ∀ {vs : List V} {ds : List D}, Opns K F H vs ds → Reps K H vs ds
  | _, _, .nil => .nil
  | _, _, .cons h r => .cons (h.rep s) (Opns.vs s r)
end

/-! ### the wish for exceptions -/
structure Exs where
  /-- the class's address -/
  cls : Nat → Addr
  wish : XK
def EXW (K : PySem.W.Frag) (W : Exs) (σ : L2.St) (env : Env) (F H : Hp) : Er → Prop
  | .stuck => False
  | .exc c as => ∀ F' H', Step (Owns env σ) F H F' H' → Sub F' H' → as = [] → W.wish (.ref (W.cls c)) none H'
theorem EXW.on {K : PySem.W.Frag} {W : Exs} {σ : L2.St} {env env' : Env} {F H F' H' : Hp} (w : Went K σ env F H env' F' H') : ∀ e, EXW K W σ env F H e → EXW K W σ env' F' H' e
  | .stuck, h => h
  | .exc c as, h => fun F2 H2 st sb ea => h F2 H2 (w.step.trans st fun a o => .inl (w.own a o)) sb ea

/-! ### readings -/
section
variable (K : PySem.W.Frag) (C : Cfg) (W : Exs)
def rdE (e : E) : TE := fun σ H Q => ∃ F env, Rel K F env σ H ∧ OutM (den C e env) (fun p => ∀ v F' H', Went K σ env F H p.2 F' H' → Rep K F' v p.1 → Q v H') (EXW K W σ env F H)
def rdO (e : E) : TE := fun σ H Q => ∃ F env, Rel K F env σ H ∧ OutM (deno C e env) (fun p => ∀ v F' H', Went K σ env F H p.2 F' H' → OpdOk K F' σ p.1 v → Q v H') (EXW K W σ env F H)
def rdA (es : Es) : TA := fun σ H Q => ∃ F env, Rel K F env σ H ∧ OutM (dens C es env) (fun p => ∀ vs F' H', Went K σ env F H p.2 F' H' → OpdsOk K F' σ p.1 vs → Q vs H') (EXW K W σ env F H)
def tru (e : E) (env : Env) : M (Bool × Env) := do
  let (x, env) ← deno C e env
  .ok (← op1 truthy env x, env)
def rdT (e : E) : TT := fun σ H Q => ∃ F env, Rel K F env σ H ∧ OutM (tru C e env) (fun p => ∀ F' H', Went K σ env F H p.2 F' H' → Q p.1 H') (EXW K W σ env F H)
def rdIf (es : Es) : TT := fun σ H Q => ∃ F env, Rel K F env σ H ∧ OutM (denIfs C es env) (fun p => ∀ F' H', Went K σ env F H p.2 F' H' → Q p.1 H') (EXW K W σ env F H)
end
theorem _root_.L2.PE.imp {X : Cx} {e : Expr} {t t' : TE} (h : PE X e t) (f : ∀ σ H Q, t' σ H Q → t σ H Q) : PE X e t' := ⟨fun pins s σ H Q I q => h.run pins s σ H Q I (f σ H Q q)⟩
theorem _root_.L2.PT.imp {X : Cx} {e : Expr} {t t' : TT} (h : PT X e t) (f : ∀ σ H Q, t' σ H Q → t σ H Q) : PT X e t' := ⟨fun pins s σ H Q I q => h.run pins s σ H Q I (f σ H Q q)⟩
theorem _root_.L2.PW.imp {X : Cx} {e : Expr} {t t' : TT} (h : PW X e t) (f : ∀ σ H Q, t' σ H Q → t σ H Q) : PW X e t' := ⟨fun w pins s σ H Q I q => h.run w pins s σ H Q I (f σ H Q q)⟩
theorem _root_.L2.PA.imp {X : Cx} {es : List Expr} {t t' : TA} (h : PA X es t) (f : ∀ σ H Q, t' σ H Q → t σ H Q) : PA X es t' := ⟨fun p pins s σ H Q I q => h.run p pins s σ H Q I (f σ H Q q)⟩
section
variable {X : Cx} {C : Cfg} {W : Exs} {a b c : E} {pa pb pc : Expr} {pos : Pos}
theorem exw_stuck {K : PySem.W.Frag} {σ : L2.St} {env : Env} {F H : Hp} : ¬ EXW K W σ env F H .stuck := fun h => h
theorem rd_eo {e : E} {pe : Expr} (h : PE X pe (rdE X.K C W e)) (hb : ∀ i, e ≠ .b i) : PE X pe (rdO X.K C W e) := by
  refine h.imp fun σ H Q ⟨F, env, R, o⟩ => ⟨F, env, R, ?_⟩
  have e1 : deno C e env = (do
    let (d, env) ← den C e env
    .ok (.v d, env)) := by
    cases e <;> first | exact (hb _ rfl).elim | (simp only [deno, opn]; done) | rfl
  rw [e1] at o
  refine o.bind.mono (fun p h v F' H' w r => h v F' H' w (.v r)) fun _ h => h
/-- a constant -/
theorem snd_c {d : D} {v : V} (h : PE X pa (tC v)) (r : ∀ F, Rep X.K F v d) : PE X pa (rdE X.K C W (.c d)) := by
  refine h.imp fun σ H Q ⟨F, env, R, o⟩ => ?_
  simp only [den, ← deno_eq] at o
  have o : ∀ v F' H', Went X.K σ env F H env F' H' → Rep X.K F' v d → Q v H' := o
  exact o v F H (Went.refl R) (r F)
theorem snd_v {i : Nat} (h : PE X pa (tVar i)) : PE X pa (rdE X.K C W (.v i)) := by
  refine h.imp fun σ H Q ⟨F, env, R, o⟩ => ?_
  simp only [den, ← deno_eq] at o
  obtain ⟨p, h1, h2⟩ := o.noX exw_stuck
  unfold rd at h1
  split at h1
  · rename_i d hd
    have := ok_inj h1
    subst this
    obtain ⟨u, e, r⟩ := R.val hd
    exact ⟨u, e, h2 u F H (Went.refl R) r⟩
  · rename_i d hd
    have := ok_inj h1
    subst this
    obtain ⟨a, e, n, ow⟩ := R.own hd
    obtain ⟨ob, ho⟩ := ow.some
    obtain ⟨w, r⟩ := R.freeze hd e n ow ho
    exact ⟨_, e, h2 _ _ _ w r⟩
  · cases h1
theorem peek_some {K : PySem.W.Frag} {F H : Hp} {env : Env} {σ : L2.St} {i : Nat} {d : D} (R : Rel K F env σ H) (h : peek env i = .ok d) : ∃ v, σ[i]? = some (some v) := by
  unfold peek at h
  split at h
  · rename_i d' hd
    obtain ⟨u, e, _⟩ := R.val hd
    exact ⟨u, e⟩
  · rename_i d' hd
    obtain ⟨a, e, _⟩ := R.own hd
    exact ⟨_, e⟩
  · cases h
theorem snd_b {i : Nat} (h : PE X pa (tVar i)) : PE X pa (rdO X.K C W (.b i)) := by
  refine h.imp fun σ H Q ⟨F, env, R, o⟩ => ?_
  simp only [deno, opn] at o
  obtain ⟨p, h1, h2⟩ := o.noX exw_stuck
  obtain ⟨d, h3, h4⟩ := bind_ok h1
  have := ok_inj h4
  subst this
  obtain ⟨v, e⟩ := peek_some R h3
  exact ⟨v, e, h2 v F H (Went.refl R) (.s e)⟩
/-! operators -/
theorem snd_bin {o : Bop} (ha : PE X pa (rdO X.K C W a)) (hb : PE X pb (rdO X.K C W b)) : PE X (.BinOp pa (bopM o) pb pos) (rdE X.K C W (.bin o a b)) := by
  refine (pe_op (op_bin o) ha hb).imp fun σ H Q ⟨F, env, R, h⟩ => ?_
  simp only [den, ← deno_eq] at h
  refine ⟨F, env, R, h.bind.mono (fun ⟨x, env1⟩ h v F1 H1 w1 o1 => ⟨F1, env1, w1.rel, h.bind.mono (fun ⟨y, env2⟩ h u F2 H2 w2 o2 => ?_) (EXW.on w1)⟩) fun _ h => h⟩
  obtain ⟨r, h1, h2⟩ := h.pure exw_stuck
  obtain ⟨dx, h3, h4⟩ := bind_ok h1
  obtain ⟨dy, h5, h6⟩ := bind_ok h4
  exact ⟨F2, dx, dy, r, w2.rel.sub, (o1.mono w2.step.mono).opn w2.rel h3, o2.opn w2.rel h5, h6, fun v F' H' g rv => h2 v F' H' ((w1.trans w2).trans (Went.grow w2.rel g)) rv⟩
theorem snd_cmp {k : Nat} (hr : Room k X.A) {o : Cop} (ha : PE X pa (rdO X.K C W a)) (hb : PE X pb (rdO X.K C W b)) (hm : behindInMarks (copM o) pb = false) : PE X (.Compare pa [copM o] [pb] pos) (rdE X.K C W (.cmp o a b)) := by
  refine (pe_cmpR (op_cmp hr o) ha hb hm).imp fun σ H Q ⟨F, env, R, h⟩ => ?_
  simp only [den, ← deno_eq] at h
  refine ⟨F, env, R, h.bind.mono (fun ⟨x, env1⟩ h v F1 H1 w1 o1 => ⟨F1, env1, w1.rel, h.bind.mono (fun ⟨y, env2⟩ h u F2 H2 w2 o2 => ?_) (EXW.on w1)⟩) fun _ h => h⟩
  obtain ⟨r, h1, h2⟩ := h.pure exw_stuck
  obtain ⟨dx, h3, h4⟩ := bind_ok h1
  obtain ⟨dy, h5, h6⟩ := bind_ok h4
  exact ⟨F2, dx, dy, r, w2.rel.sub, (o1.mono w2.step.mono).opn w2.rel h3, o2.opn w2.rel h5, h6, h2 _ F2 H2 (w1.trans w2) (.bl r)⟩
/-- two operands, then a pure operation on them -/
theorem snd_cmp2 {k : Nat} (hr : Room k X.A) {o o' : Cop} (ha : PE X pa (rdO X.K C W a)) (hb : PE X pb (rdO X.K C W b)) (hc : PE X pc (rdO X.K C W c)) (hm : lastMarks [copM o, copM o'] [pb, pc] = false)
    (hpe : PE X (.Compare pa [copM o, copM o'] [pb, pc] pos) (fun σ H Q => rdO X.K C W a σ H fun x H1 => rdO X.K C W b σ H1 fun y H2 => ∃ r, rCmp X.K o x y H2 (fun v H3 => v = .bl r ∧ H3 = H2) ∧ (if r = true then rdO X.K C W c σ H2 fun z H3 => rCmp X.K o' y z H3 Q else Q (.bl false) H2))) :
    PE X (.Compare pa [copM o, copM o'] [pb, pc] pos) (rdE X.K C W (.cmp2 o a b o' c)) := by
  refine hpe.imp fun σ H Q ⟨F, env, R, h⟩ => ?_
  simp only [den, ← deno_eq] at h
  refine ⟨F, env, R, h.bind.mono (fun ⟨x, env1⟩ h v F1 H1 w1 o1 => ⟨F1, env1, w1.rel, h.bind.mono (fun ⟨y, env2⟩ h u F2 H2 w2 o2 => ?_) (EXW.on w1)⟩) fun _ h => h⟩
  obtain ⟨r, h1, h2⟩ := h.pure exw_stuck
  obtain ⟨dx, h3, h4⟩ := bind_ok h1
  obtain ⟨dy, h5, h6⟩ := bind_ok h4
  refine ⟨r, ⟨F2, dx, dy, r, w2.rel.sub, (o1.mono w2.step.mono).opn w2.rel h3, o2.opn w2.rel h5, h6, rfl, rfl⟩, ?_⟩
  cases r with
  | false => exact h2 _ F2 H2 (w1.trans w2) (.bl false)
  | true =>
    refine ⟨F2, env2, w2.rel, OutM.mono (OutM.bind h2) (fun ⟨z, env3⟩ h w F3 H3 w3 o3 => ?_) (EXW.on (w1.trans w2))⟩
    obtain ⟨r', h1, h2⟩ := h.pure exw_stuck
    obtain ⟨dy', h5', h4⟩ := bind_ok h1
    obtain ⟨dz, h7, h8⟩ := bind_ok h4
    exact ⟨F3, dy', dz, r', w3.rel.sub, (o2.mono w3.step.mono).opn w3.rel h5', o3.opn w3.rel h7, h8, h2 _ F3 H3 ((w1.trans w2).trans w3) (.bl r')⟩
theorem un_neg' : UnR X (unaryOp .USub) (fun x H Q => ∃ F d r, Sub F H ∧ Opn X.K F H x d ∧ negF d = .ok r ∧ ∀ v, Rep X.K F v r → Q v H) := by
  intro pins s σ H x v Q I rx h
  obtain ⟨F, d, r, sF, g, hf, q⟩ := h
  cases d <;> simp only [negF] at hf <;> try (cases hf; done)
  have := g.int'
  subst this
  have := ok_inj hf
  subst this
  exact un_neg pins s σ H _ v Q I rx ⟨_, rfl, q _ (.int _)⟩
theorem snd_neg (ha : PE X pa (rdO X.K C W a)) : PE X (.UnaryOp .USub pa pos) (rdE X.K C W (.neg a)) := by
  refine (pe_un un_neg' ha).imp fun σ H Q ⟨F, env, R, h⟩ => ?_
  simp only [den, ← deno_eq] at h
  refine ⟨F, env, R, h.bind.mono (fun ⟨x, env1⟩ h v F1 H1 w1 o1 => ?_) fun _ h => h⟩
  obtain ⟨r, h1, h2⟩ := h.pure exw_stuck
  obtain ⟨dx, h3, h4⟩ := bind_ok h1
  exact ⟨F1, dx, r, w1.rel.sub, o1.opn w1.rel h3, h4, fun v rv => h2 v F1 H1 w1 rv⟩
/-- truth -/
theorem tru_of {K : PySem.W.Frag} {F H : Hp} {x : V} {d : D} {r : Bool} (s : Sub F H) (g : Opn K F H x d) (h : truthy d = .ok r) : TruV K x H r := by
  cases d <;> simp only [truthy] at h <;> try (cases h; done)
  · have := g.non'; subst this; exact (ok_inj h).symm
  · have := g.bl'; subst this; exact (ok_inj h).symm
  · rename_i i
    have := g.int'; subst this
    have := ok_inj h
    subst this
    show decide (i ≠ 0) = (i != 0)
    rw [Bool.eq_iff_iff]
    simp
  · rename_i i
    have := g.str'; subst this
    obtain ⟨hz, e⟩ := ite_ok h
    subst e
    refine ⟨by rw [← sz_eq]; exact hz, ?_⟩
    rw [Bool.eq_iff_iff]
    simp
  · obtain ⟨p, vs, rfl, e, g⟩ := g.tup'
    have := ok_inj h
    subst this
    refine .inr (.inl ⟨vs, SqT.of (s _ _ e), ?_⟩)
    cases g <;> rfl
  · obtain ⟨p, vs, rfl, e, g⟩ := g.lst' s
    have := ok_inj h
    subst this
    refine .inl ⟨vs, SqL.of e, ?_⟩
    cases g <;> rfl
theorem snd_nt (ha : PE X pa (rdO X.K C W a)) : PE X (.UnaryOp .Not pa pos) (rdE X.K C W (.nt a)) := by
  refine (pe_notT ha).imp fun σ H Q ⟨F, env, R, h⟩ => ?_
  simp only [den, ← deno_eq] at h
  refine ⟨F, env, R, h.bind.mono (fun ⟨x, env1⟩ h v F1 H1 w1 o1 => ?_) fun _ h => h⟩
  obtain ⟨r, h1, h2⟩ := h.pure exw_stuck
  obtain ⟨dx, h3, h4⟩ := bind_ok h1
  exact ⟨r, tru_of w1.rel.sub (o1.opn w1.rel h3) h4, h2 _ F1 H1 w1 (.bl _)⟩
theorem snd_and {rest : List Expr} (ha : PE X pa (rdE X.K C W a)) (hb : PE X (.BoolOp .And (pb :: rest) pos) (rdE X.K C W b)) : PE X (.BoolOp .And (pa :: pb :: rest) pos) (rdE X.K C W (.and a b)) := by
  refine (pe_andT ha hb).imp fun σ H Q ⟨F, env, R, h⟩ => ?_
  simp only [den, ← deno_eq] at h
  refine ⟨F, env, R, h.bind.mono (fun ⟨d, env1⟩ h v F1 H1 w1 o1 => ?_) fun _ h => h⟩
  obtain ⟨r, h1, h2⟩ := h.pure exw_stuck
  refine ⟨r, tru_of w1.rel.sub (.v o1) h1, ?_⟩
  cases r with
  | true => exact ⟨F1, env1, w1.rel, OutM.mono h2 (fun p h v F' H' w r => h v F' H' (w1.trans w) r) (EXW.on w1)⟩
  | false => exact h2 v F1 H1 w1 o1
theorem snd_or {rest : List Expr} (ha : PE X pa (rdE X.K C W a)) (hb : PE X (.BoolOp .Or (pb :: rest) pos) (rdE X.K C W b)) : PE X (.BoolOp .Or (pa :: pb :: rest) pos) (rdE X.K C W (.or a b)) := by
  refine (pe_orT ha hb).imp fun σ H Q ⟨F, env, R, h⟩ => ?_
  simp only [den, ← deno_eq] at h
  refine ⟨F, env, R, h.bind.mono (fun ⟨d, env1⟩ h v F1 H1 w1 o1 => ?_) fun _ h => h⟩
  obtain ⟨r, h1, h2⟩ := h.pure exw_stuck
  refine ⟨r, tru_of w1.rel.sub (.v o1) h1, ?_⟩
  cases r with
  | false => exact ⟨F1, env1, w1.rel, OutM.mono h2 (fun p h v F' H' w r => h v F' H' (w1.trans w) r) (EXW.on w1)⟩
  | true => exact h2 v F1 H1 w1 o1
theorem snd_ife (ht : PT X pa (rdT X.K C W a)) (hb : PE X pb (rdE X.K C W b)) (hc : PE X pc (rdE X.K C W c)) : PE X (.IfExp pa pb pc pos) (rdE X.K C W (.ife a b c)) := by
  refine (pe_ifExp ht hb hc).imp fun σ H Q ⟨F, env, R, h⟩ => ⟨F, env, R, ?_⟩
  simp only [den, ← deno_eq] at h
  unfold tru
  have h := h.bind
  refine (show OutM (deno C a env >>= fun p => (do
    let r ← op1 truthy p.2 p.1
    .ok (r, p.2))) _ _ from ?_)
  cases q : deno C a env with
  | error e => rw [q] at h; exact h
  | ok p =>
    rw [q] at h
    obtain ⟨r, h1, h2⟩ := OutM.pure (m := (do truthy (← val p.2 p.1))) (show OutM (op1 truthy p.2 p.1 >>= _) _ _ from h) exw_stuck
    have h1' : op1 truthy p.2 p.1 = .ok r := by unfold op1; rw [h1]; rfl
    show OutM (op1 truthy p.2 p.1 >>= fun r => .ok (r, p.2)) _ _
    rw [h1']
    intro F' H' w
    cases r with
    | true => exact ⟨F', p.2, w.rel, OutM.mono h2 (fun p h v F2 H2 w2 r => h v F2 H2 (w.trans w2) r) (EXW.on w)⟩
    | false => exact ⟨F', p.2, w.rel, OutM.mono h2 (fun p h v F2 H2 w2 r => h v F2 H2 (w.trans w2) r) (EXW.on w)⟩
theorem snd_ix {k : Nat} (hr : Room k X.A) (ha : PE X pa (rdO X.K C W a)) (hb : PE X pb (rdO X.K C W b)) (hs : PlainIx pb) : PE X (.Subscript pa pb pos) (rdE X.K C W (.ix a b)) := by
  refine (pe_ix (ix_D hr) ha hb hs).imp fun σ H Q ⟨F, env, R, h⟩ => ?_
  simp only [den, ← deno_eq] at h
  refine ⟨F, env, R, h.bind.mono (fun ⟨x, env1⟩ h v F1 H1 w1 o1 => ⟨F1, env1, w1.rel, h.bind.mono (fun ⟨y, env2⟩ h u F2 H2 w2 o2 => ?_) (EXW.on w1)⟩) fun _ h => h⟩
  obtain ⟨r, h1, h2⟩ := h.pure exw_stuck
  obtain ⟨dx, h3, h4⟩ := bind_ok h1
  obtain ⟨dy, h5, h6⟩ := bind_ok h4
  exact ⟨F2, dx, dy, r, w2.rel.sub, (o1.mono w2.step.mono).opn w2.rel h3, o2.opn w2.rel h5, h6, fun v F' H' g rv => h2 v F' H' ((w1.trans w2).trans (Went.grow w2.rel g)) rv⟩
/-! argument lists, displays -/
theorem snd_nil : PA X [] (rdA X.K C W .nil) := by
  refine pa_nil.imp fun σ H Q ⟨F, env, R, h⟩ => ?_
  simp only [dens, ← deno_eq] at h
  have h : ∀ vs F' H', Went X.K σ env F H env F' H' → OpdsOk X.K F' σ [] vs → Q vs H' := h
  exact h [] F H (Went.refl R) .nil
def notStar : Expr → Bool
  | .Starred .. => false
  | _ => true
theorem star_cons {e : Expr} {es : List Expr} {env : PySem.Env} (h : notStar e = true) : starEach (e :: es) env = (false, eval e env) :: starEach es env := by
  cases e <;> first | rfl | cases h
theorem star_any {env : PySem.Env} {p : Pos} : ∀ {es : List Expr}, es.all notStar = true → (backTo p (starEach es env)).any (·.1) = false
  | [], _ => rfl
  | e :: es, h => by
    rw [List.all_cons, Bool.and_eq_true] at h
    rw [star_cons h.1]
    show (false || (backTo p (starEach es env)).any (·.1)) = false
    rw [star_any h.2]
    rfl
theorem snd_cons {es : Es} {pes : List Expr} (ha : PE X pa (rdO X.K C W a)) (hr : PA X pes (rdA X.K C W es)) (hs : notStar pa = true) : PA X (pa :: pes) (rdA X.K C W (.cons a es)) := by
  refine (pa_cons ha hr (star_cons hs)).imp fun σ H Q ⟨F, env, R, h⟩ => ?_
  simp only [dens, ← deno_eq] at h
  refine ⟨F, env, R, h.bind.mono (fun ⟨x, env1⟩ h v F1 H1 w1 o1 => ⟨F1, env1, w1.rel, h.bind.mono (fun ⟨xs, env2⟩ h vs F2 H2 w2 o2 => ?_) (EXW.on w1)⟩) fun _ h => h⟩
  exact h (v :: vs) F2 H2 (w1.trans w2) (.cons (o1.mono w2.step.mono) o2)
/-- a list that is read inside another thing would be an alias: displays take values alone -/
theorem vals_v {K : PySem.W.Frag} {F : Hp} {σ : L2.St} {env : Env} : ∀ {as : List Arg} {vs : List V} {ds : List D}, OpdsOk K F σ as vs → (∀ a ∈ as, ∃ d, a = .v d) → vals env as = .ok ds → Reps K F vs ds
  | _, _, _, .nil, _, e => by have := ok_inj e; subst this; exact .nil
  | _, _, _, .cons h r, hv, e => by
    obtain ⟨d, h1, h2⟩ := bind_ok e
    obtain ⟨ds, h3, h4⟩ := bind_ok h2
    have := ok_inj h4
    subst this
    obtain ⟨d', rfl⟩ := hv _ List.mem_cons_self
    cases h with
    | v rv =>
      have := ok_inj h1
      subst this
      exact .cons rv (vals_v r (fun a m => hv a (List.mem_cons_of_mem _ m)) h3)

def isB : E → Bool
  | .b _ => true
  | _ => false
def noB : Es → Bool
  | .nil => true
  | .cons e r => !isB e && noB r
theorem deno_v {e : E} (h : isB e = false) {env env' : Env} {x : Arg} (q : deno C e env = .ok (x, env')) : ∃ d, x = .v d := by
  have e1 : deno C e env = (do
    let (d, env) ← den C e env
    .ok (.v d, env)) := by
    cases e <;> first | (simp only [deno, opn]; done) | (cases h; done)
  rw [e1] at q
  obtain ⟨p, h1, h2⟩ := bind_ok q
  have := ok_inj h2
  injection this with h3 _
  exact ⟨_, h3.symm⟩
theorem dens_v : ∀ {es : Es} (h : noB es = true) {env env' : Env} {xs : List Arg}, dens C es env = .ok (xs, env') → ∀ a ∈ xs, ∃ d, a = .v d
  | .nil, _, env, env', xs, q => by
    simp only [dens, ← deno_eq] at q
    have := ok_inj q
    injection this with h3 _
    subst h3
    intro a ha
    cases ha
  | .cons e r, h, env, env', xs, q => by
    simp only [dens, ← deno_eq] at q
    obtain ⟨⟨x, env1⟩, h1, h2⟩ := bind_ok q
    obtain ⟨⟨ys, env2⟩, h3, h4⟩ := bind_ok h2
    have := ok_inj h4
    injection this with h5 _
    subst h5
    unfold noB at h
    rw [Bool.and_eq_true] at h
    intro a ha
    rcases List.mem_cons.mp ha with rfl | ha
    · exact deno_v (by simpa using h.1) h1
    · exact dens_v h.2 h3 a ha
/-- with the equation of what was reckoned -/
theorem OutM.eqn {α : Type} {m : M α} {k : α → Prop} {ex : Er → Prop} (h : OutM m k ex) : OutM m (fun a => m = .ok a ∧ k a) ex := by
  cases m with
  | ok a => exact ⟨rfl, h⟩
  | error e => exact h
theorem rdA_eqn {es : Es} {σ : L2.St} {H : Hp} {Q : List V → Hp → Prop} {F : Hp} {env : Env} (R : Rel X.K F env σ H) (h : OutM (dens C es env) (fun p => dens C es env = .ok p → ∀ vs F' H', Went X.K σ env F H p.2 F' H' → OpdsOk X.K F' σ p.1 vs → Q vs H') (EXW X.K W σ env F H)) : rdA X.K C W es σ H Q :=
  ⟨F, env, R, h.eqn.mono (fun p ⟨e, k⟩ => k e) fun _ h => h⟩
def lenE : Es → Nat
  | .nil => 0
  | .cons _ r => lenE r + 1
theorem dens_len : ∀ {es : Es} {env env' : Env} {xs : List Arg}, dens C es env = .ok (xs, env') → xs.length = lenE es
  | .nil, env, env', xs, q => by
    simp only [dens, ← deno_eq] at q
    have := ok_inj q
    injection this with h3 _
    subst h3
    rfl
  | .cons e r, env, env', xs, q => by
    simp only [dens, ← deno_eq] at q
    obtain ⟨⟨x, env1⟩, h1, h2⟩ := bind_ok q
    obtain ⟨⟨ys, env2⟩, h3, h4⟩ := bind_ok h2
    have := ok_inj h4
    injection this with h5 _
    subst h5
    show ys.length + 1 = lenE r + 1
    rw [dens_len h3]
theorem OpdsOk.length {K : PySem.W.Frag} {F : Hp} {σ : L2.St} {as : List Arg} {vs : List V} (h : OpdsOk K F σ as vs) : as.length = vs.length := by
  induction h with
  | nil => rfl
  | cons _ _ ih => simp [ih]
theorem small_line {n : Nat} (h : n ≤ 1000) : n ≤ sizeLine := by rw [sizeLine_eq]; omega
theorem snd_tup {es : Es} {pes : List Expr} {j : Nat} (h : PA X pes (rdA X.K C W es)) (hn : noB es = true) (hz : lenE es ≤ 1000) : PE X (.Tuple pes j pos) (rdE X.K C W (.tup es)) := by
  refine (pe_tup h).imp fun σ H Q ⟨F, env, R, o⟩ => ?_
  simp only [den, ← deno_eq] at o
  refine rdA_eqn R (o.bind.mono (fun ⟨as, env1⟩ o eq vs F1 H1 w1 ok => ?_) fun _ h => h)
  obtain ⟨ds, h1, h2⟩ := o.pure exw_stuck
  obtain ⟨ds', h3, h4⟩ := bind_ok h1
  have := ok_inj h4
  subst this
  refine ⟨by rw [← ok.length, dens_len eq]; exact small_line hz, fun p hp => ?_⟩
  have g := Grow.new (o := .tup vs) w1.rel.sub hp
  exact h2 _ _ _ (w1.trans (Went.grow w1.rel g)) (.tup upd_same ((vals_v ok (dens_v hn eq) h3).mono g.f))
theorem snd_lst {es : Es} {pes : List Expr} (h : PA X pes (rdA X.K C W es)) (hn : noB es = true) (hz : lenE es ≤ 1000) : PE X (.List pes pos) (rdE X.K C W (.lst es)) := by
  refine (pe_lst h).imp fun σ H Q ⟨F, env, R, o⟩ => ?_
  simp only [den, ← deno_eq] at o
  refine rdA_eqn R (o.bind.mono (fun ⟨as, env1⟩ o eq vs F1 H1 w1 ok => ?_) fun _ h => h)
  obtain ⟨ds, h1, h2⟩ := o.pure exw_stuck
  obtain ⟨ds', h3, h4⟩ := bind_ok h1
  have := ok_inj h4
  subst this
  refine ⟨by rw [← ok.length, dens_len eq]; exact small_line hz, fun p hp => ?_⟩
  have g := Grow.new (o := .lst vs) w1.rel.sub hp
  exact h2 _ _ _ (w1.trans (Went.grow w1.rel g)) (.lst upd_same ((vals_v ok (dens_v hn eq) h3).mono g.f))
theorem snd_emp : PE X (.Dict [] [] pos) (rdE X.K C W .emp) := by
  refine pe_dnewK.imp fun σ H Q ⟨F, env, R, o⟩ => ?_
  simp only [den, ← deno_eq] at o
  have o : ∀ v F' H', Went X.K σ env F H env F' H' → Rep X.K F' v (.dct [] []) → Q v H' := o
  intro p hp
  have g := Grow.new (o := .dK []) R.sub hp
  exact o _ _ _ (Went.grow R g) (.dK (kvs := []) upd_same .nil)
/-- a built-in function -/
theorem snd_bi {f : Bi} {es : Es} {pes : List Expr} {pe : Expr} (he : ∀ {t : TA}, PA X pes t → PE X pe (tCB (rBi X.K f) t)) (h : PA X pes (rdA X.K C W es)) : PE X pe (rdE X.K C W (.bi f es)) := by
  refine (he h).imp fun σ H Q ⟨F, env, R, o⟩ => ?_
  simp only [den, ← deno_eq] at o
  refine ⟨F, env, R, o.bind.mono (fun ⟨as, env1⟩ o vs F1 H1 w1 ok => ?_) fun _ h => h⟩
  obtain ⟨r, h1, h2⟩ := o.pure exw_stuck
  obtain ⟨ds, h3, h4⟩ := bind_ok h1
  exact ⟨F1, ds, r, w1.rel.sub, ok.opns w1.rel h3, h4, fun v F' H' g rv => h2 v F' H' (w1.trans (Went.grow w1.rel g)) rv⟩
/-- slices -/
def rdP (K : PySem.W.Frag) (C : Cfg) (W : Exs) (e : E) : TO := fun σ H Q => ∃ F env, Rel K F env σ H ∧ OutM (do
    let (l, env) ← den C e env
    let l ← noX (ioF (isNonC e) l)
    .ok (l, env)) (fun (p : Option Int × Env) => ∀ F' H', Went K σ env F H p.2 F' H' → Q p.1 H') (EXW K W σ env F H)
theorem snd_noPart : PO X none (rdP X.K C W (.c .non)) := by
  refine ⟨fun pins s σ H Q I ⟨F, env, R, o⟩ => po_none.run pins s σ H Q I ?_⟩
  simp only [den, ← deno_eq] at o
  have o : ∀ F' H', Went X.K σ env F H env F' H' → Q none H' := o
  exact o F H (Went.refl R)
theorem snd_part (h : PE X pa (rdE X.K C W a)) (hn : isNonC a = false) : PO X (some pa) (rdP X.K C W a) := by
  refine ⟨fun pins s σ H Q I ⟨F, env, R, o⟩ => (po_some h).run pins s σ H Q I ⟨F, env, R, o.bind.mono (fun p o v F' H' w r => ?_) fun _ h => h⟩⟩
  obtain ⟨l, h1, h2⟩ := OutM.pure o exw_stuck
  have h2 : ∀ F' H', Went X.K σ env F H p.2 F' H' → Q l H' := h2
  obtain ⟨d, env'⟩ := p
  rw [hn] at h1
  unfold ioF at h1
  rw [if_neg Bool.false_ne_true] at h1
  cases d <;> try (cases h1; done)
  have := ok_inj h1
  subst this
  cases r
  exact ⟨_, rfl, h2 F' H' w⟩
theorem snd_sl {plo phi : Option Expr} {lo hi : E} {p2 : Pos} (ha : PE X pa (rdO X.K C W a)) (hl : PO X plo (rdP X.K C W lo)) (hh : PO X phi (rdP X.K C W hi)) :
    PE X (.Subscript pa (.Slice plo phi none p2) pos) (rdE X.K C W (.sl a lo hi)) := by
  refine (pe_slice sl_D ha hl hh).imp fun σ H Q ⟨F, env, R, o⟩ => ?_
  simp only [den, ← deno_eq] at o
  refine ⟨F, env, R, o.bind.mono (fun ⟨x, env1⟩ o v F1 H1 w1 o1 => ?_) fun _ h => h⟩
  have o : OutM ((do
    let (l, env) ← den C lo env1
    let l ← noX (ioF (isNonC lo) l)
    .ok (l, env)) >>= fun (p : Option Int × Env) => (do
      let (h, env) ← den C hi p.2
      let h ← noX (ioF (isNonC hi) h)
      .ok (h, env)) >>= fun (q : Option Int × Env) => op1 (slO p.1 q.1) q.2 x >>= fun d => .ok (d, q.2)) (fun p => ∀ v F' H', Went X.K σ env F H p.2 F' H' → Rep X.K F' v p.1 → Q v H') (EXW X.K W σ env F H) := by
    cases e1 : den C lo env1 with
    | error e => rw [e1] at o; exact o
    | ok p =>
      rw [e1] at o
      cases e2 : noX (ioF (isNonC lo) p.1) with
      | error e =>
        have o : OutM (noX (ioF (isNonC lo) p.1) >>= _) _ _ := o
        rw [e2] at o
        show OutM ((noX (ioF (isNonC lo) p.1) >>= fun l => .ok (l, p.2)) >>= _) _ _
        rw [e2]; exact o
      | ok l =>
        have o : OutM (noX (ioF (isNonC lo) p.1) >>= _) _ _ := o
        rw [e2] at o
        show OutM ((noX (ioF (isNonC lo) p.1) >>= fun l => .ok (l, p.2)) >>= _) _ _
        rw [e2]
        cases e3 : den C hi p.2 with
        | error e =>
          have o : OutM (den C hi p.2 >>= _) _ _ := o
          rw [e3] at o
          show OutM ((den C hi p.2 >>= _) >>= _) _ _
          rw [e3]; exact o
        | ok q =>
          have o : OutM (den C hi p.2 >>= _) _ _ := o
          rw [e3] at o
          show OutM ((den C hi p.2 >>= _) >>= _) _ _
          rw [e3]
          cases e4 : noX (ioF (isNonC hi) q.1) with
          | error e =>
            have o : OutM (noX (ioF (isNonC hi) q.1) >>= _) _ _ := o
            rw [e4] at o
            show OutM ((noX (ioF (isNonC hi) q.1) >>= fun l => .ok (l, q.2)) >>= _) _ _
            rw [e4]; exact o
          | ok h =>
            have o : OutM (noX (ioF (isNonC hi) q.1) >>= _) _ _ := o
            rw [e4] at o
            show OutM ((noX (ioF (isNonC hi) q.1) >>= fun l => .ok (l, q.2)) >>= _) _ _
            rw [e4]; exact o
  refine ⟨F1, env1, w1.rel, o.bind.mono (fun p o F2 H2 w2 => ⟨F2, p.2, w2.rel, OutM.mono (OutM.bind o) (fun q o F3 H3 w3 => ?_) (EXW.on (w1.trans w2))⟩) (EXW.on w1)⟩
  obtain ⟨r, h1, h2⟩ := OutM.pure (m := (do slO p.1 q.1 (← val q.2 x))) o exw_stuck
  obtain ⟨dx, h3, h4⟩ := bind_ok h1
  have h2 : ∀ v F' H', Went X.K σ env F H q.2 F' H' → Rep X.K F' v r → Q v H' := h2
  exact ⟨F3, dx, r, w3.rel.sub, ((o1.mono w2.step.mono).mono w3.step.mono).opn w3.rel h3, h4, fun v F' H' g rv => h2 v F' H' (((w1.trans w2).trans w3).trans (Went.grow w3.rel g)) rv⟩

/-! ### new things -/
/-- a list or dict that nobody else has: not there at H0 -/
def NewOk (K : PySem.W.Frag) (F H0 H : Hp) (v : V) (d : D) : Prop := ∃ a, v = .ref a ∧ F a = none ∧ H0 a = none ∧ Own K F H a d
def ResOk (b : Bool) (K : PySem.W.Frag) (F H0 H : Hp) (v : V) (d : D) : Prop := match b with
  | true => NewOk K F H0 H v d
  | false => Rep K F v d
theorem own_fix {K : PySem.W.Frag} {F H : Hp} {a : Addr} {d : D} (h : Own K F H a d) (n : F a = none) : ∃ o, H a = some o ∧ Rep K (upd F a o) (.ref a) d := by
  cases h with
  | lst e r => exact ⟨_, e, .lst upd_same (r.mono (sub_upd n))⟩
  | dK e r => exact ⟨_, e, .dK upd_same (r.mono (sub_upd n))⟩
  | dT e r => exact ⟨_, e, .dT upd_same (r.mono (sub_upd n))⟩
/-- it stays so while others are at work -/
theorem NewOk.went {K : PySem.W.Frag} {σ : L2.St} {env env' : Env} {F H F' H' H0 : Hp} {v : V} {d : D} (h : NewOk K F H0 H v d) (w : Went K σ env F H env' F' H') (ho : ∀ a, Owns env σ a → H0 a ≠ none) : NewOk K F' H0 H' v d := by
  obtain ⟨a, rfl, n, z, ow⟩ := h
  obtain ⟨o, e⟩ := ow.some
  have no : ¬ Owns env σ a := fun q => ho a q z
  refine ⟨a, rfl, ?_, z, ow.at w.step.mono ((w.step.keep a o e no).trans e.symm)⟩
  cases q : F' a with
  | none => rfl
  | some u =>
    rcases w.step.fr a u q with y | y | y
    · rw [n] at y; cases y
    · exact (ow.noOwn y).elim
    · exact absurd y no
theorem ResOk.back {K : PySem.W.Frag} {b : Bool} {F H H1 H' : Hp} {v : V} {d : D} (h : ResOk b K F H1 H' v d) (k : ∀ a, H1 a = none → H a = none) : ResOk b K F H H' v d := by
  cases b with
  | false => exact h
  | true =>
    obtain ⟨a, e, n, z, ow⟩ := h
    exact ⟨a, e, n, k a z, ow⟩
def rdR (K : PySem.W.Frag) (C : Cfg) (W : Exs) (b : Bool) (e : E) : TE := fun σ H Q => ∃ F env, Rel K F env σ H ∧ OutM (den C e env) (fun p => ∀ v F' H', Went K σ env F H p.2 F' H' → ResOk b K F' H H' v p.1 → Q v H') (EXW K W σ env F H)
/-- what is new may be read as a value: it is frozen -/
theorem snd_old {X : Cx} {C : Cfg} {W : Exs} {b : Bool} {e : E} {pe : Expr} (h : PE X pe (rdR X.K C W b e)) : PE X pe (rdE X.K C W e) := by
  cases b with
  | false => exact h
  | true =>
    refine h.imp fun σ H Q ⟨F, env, R, o⟩ => ⟨F, env, R, o.mono (fun p o v F' H' w r => ?_) fun _ h => h⟩
    obtain ⟨a, rfl, n, z, ow⟩ := r
    obtain ⟨u, hu, rp⟩ := own_fix ow n
    exact o _ _ _ (w.fix R z n hu) rp
/-! ### calls -/
def spF (K : PySem.W.Frag) (C : Cfg) (cls : Nat → Addr) (f : Nat) : Sp := fun vs H Q E => ∃ F ss, Rel K F ss (vs.map some) H ∧
  OutM (C.cl f ss) (fun p => ∀ v F' H', Went K (vs.map some) ss F H p.2 F' H' → ResOk (C.nw f) K F' H H' v p.1 → Q v H') (EXW K ⟨cls, E⟩ (vs.map some) ss F H)
theorem slotsOf_at {env : Env} : ∀ {br : List Bool} {as : List Arg} {ss : List Slot}, slotsOf env br as = .ok ss → ss.length = as.length ∧ ∀ (k : Nat) (a : Arg), as[k]? = some a → ∃ s b, ss[k]? = some s ∧ slotOf env b a = .ok s
  | br, [], ss, h => by
    have : ss = [] := by cases br <;> exact (ok_inj h).symm
    subst this
    exact ⟨rfl, by simp⟩
  | br, a :: r, ss, h => by
    have h : (do
      let s ← slotOf env (br.headD false) a
      let ss ← slotsOf env br.tail r
      .ok (s :: ss)) = .ok ss := by
      cases br <;> exact h
    obtain ⟨s, h1, h2⟩ := bind_ok h
    obtain ⟨ss', h3, h4⟩ := bind_ok h2
    have := ok_inj h4
    subst this
    obtain ⟨l, f⟩ := slotsOf_at h3
    refine ⟨by simp [l], fun k b hb => ?_⟩
    cases k with
    | zero => simp at hb; subst hb; exact ⟨s, _, rfl, h1⟩
    | succ k => exact f k b (by simpa using hb)
theorem OpdsOk.at {K : PySem.W.Frag} {F : Hp} {σ : L2.St} : ∀ {as : List Arg} {vs : List V}, OpdsOk K F σ as vs → ∀ (k : Nat) (v : V), vs[k]? = some v → ∃ a, as[k]? = some a ∧ OpdOk K F σ a v
  | _, _, .nil, k, v, h => by simp at h
  | _, _, .cons h r, 0, v, e => by simp at e; subst e; exact ⟨_, rfl, h⟩
  | _, _, .cons h r, k + 1, v, e => by
    obtain ⟨a, h1, h2⟩ := OpdsOk.at r k v (by simpa using e)
    exact ⟨a, by simpa using h1, h2⟩
theorem argIx_mem : ∀ {as : List Arg} {k i : Nat}, as[k]? = some (.s i) → i ∈ argIx as
  | [], _, _, h => by simp at h
  | a :: r, 0, i, h => by simp at h; subst h; exact List.mem_cons_self
  | .v d :: r, k + 1, i, h => argIx_mem (as := r) (k := k) (by simpa using h)
  | .s j :: r, k + 1, i, h => List.mem_cons_of_mem _ (argIx_mem (as := r) (k := k) (by simpa using h))
theorem argIx_inj : ∀ {as : List Arg} {k l i : Nat}, (argIx as).Nodup → as[k]? = some (.s i) → as[l]? = some (.s i) → k = l
  | [], _, _, _, _, h, _ => by simp at h
  | .v d :: r, 0, _, i, _, h, _ => by simp at h
  | .v d :: r, _ + 1, 0, i, _, _, h => by simp at h
  | .v d :: r, k + 1, l + 1, i, n, h1, h2 => by
    have n : (argIx r).Nodup := n
    exact congrArg Nat.succ (argIx_inj (as := r) n (by simpa using h1) (by simpa using h2))
  | .s j :: r, 0, 0, i, _, _, _ => rfl
  | .s j :: r, 0, l + 1, i, n, h1, h2 => by
    have n : (j :: argIx r).Nodup := n
    simp at h1; subst h1
    exact absurd (argIx_mem (as := r) (k := l) (by simpa using h2)) (List.nodup_cons.mp n).1
  | .s j :: r, k + 1, 0, i, n, h1, h2 => by
    have n : (j :: argIx r).Nodup := n
    simp at h2; subst h2
    exact absurd (argIx_mem (as := r) (k := k) (by simpa using h1)) (List.nodup_cons.mp n).1
  | .s j :: r, k + 1, l + 1, i, n, h1, h2 => by
    have n : (j :: argIx r).Nodup := n
    exact congrArg Nat.succ (argIx_inj (as := r) (List.nodup_cons.mp n).2 (by simpa using h1) (by simpa using h2))
theorem back_len : ∀ {env : Env} {as : List Arg} {ss : List Slot}, (back env as ss).length = env.length
  | env, [], ss => by cases ss <;> rfl
  | env, .s i :: r, [] => rfl
  | env, .v d :: r, [] => rfl
  | env, .s i :: r, s :: ss => by
    show (back (env.set i s) r ss).length = _
    rw [back_len, List.length_set]
  | env, .v d :: r, s :: ss => by
    show (back env r ss).length = _
    rw [back_len]
theorem back_out : ∀ {env : Env} {as : List Arg} {ss : List Slot} {j : Nat}, j ∉ argIx as → (back env as ss).getD j .nil = env.getD j .nil
  | env, [], ss, j, _ => by cases ss <;> rfl
  | env, .s i :: r, [], j, _ => rfl
  | env, .v d :: r, [], j, _ => rfl
  | env, .s i :: r, s :: ss, j, h => by
    have h : j ∉ i :: argIx r := h
    show (back (env.set i s) r ss).getD j .nil = _
    rw [back_out (fun m => h (List.mem_cons_of_mem _ m)), getD_set, if_neg]
    rintro ⟨rfl, _⟩
    exact h List.mem_cons_self
  | env, .v d :: r, s :: ss, j, h => by
    show (back env r ss).getD j .nil = _
    exact back_out h
theorem back_in : ∀ {env : Env} {as : List Arg} {ss : List Slot} {k j : Nat}, (argIx as).Nodup → as[k]? = some (.s j) → ss.length = as.length → j < env.length → (back env as ss).getD j .nil = ss.getD k .nil
  | env, [], ss, k, j, _, h, _, _ => by simp at h
  | env, a :: r, [], k, j, _, _, h, _ => by simp at h
  | env, .s i :: r, s :: ss, 0, j, n, h, l, hj => by
    have n : (i :: argIx r).Nodup := n
    simp at h
    subst h
    show (back (env.set i s) r ss).getD i .nil = _
    rw [back_out (List.nodup_cons.mp n).1, getD_set, if_pos ⟨rfl, hj⟩]
    rfl
  | env, .v d :: r, s :: ss, 0, j, n, h, l, hj => by simp at h
  | env, .s i :: r, s :: ss, k + 1, j, n, h, l, hj => by
    have n : (i :: argIx r).Nodup := n
    show (back (env.set i s) r ss).getD j .nil = _
    rw [back_in (env := env.set i s) (as := r) (ss := ss) (k := k) (List.nodup_cons.mp n).2 (by simpa using h) (by simpa using l) (by rw [List.length_set]; exact hj)]
    simp
  | env, .v d :: r, s :: ss, k + 1, j, n, h, l, hj => by
    show (back env r ss).getD j .nil = _
    rw [back_in (env := env) (as := r) (ss := ss) (k := k) n (by simpa using h) (by simpa using l) hj]
    simp
section
variable {K : PySem.W.Frag} {F F' H H' : Hp} {env : Env} {σ : L2.St} {as : List Arg} {vs : List V} {ss outs : List Slot} {br : List Bool}
theorem getD_some {l : List Slot} {k : Nat} {s : Slot} (h : l[k]? = some s) : l.getD k .nil = s := by simp [List.getD_eq_getElem?_getD, h]
theorem getD_none {l : List Slot} {k : Nat} (h : l[k]? = none) : l.getD k .nil = .nil := by simp [List.getD_eq_getElem?_getD, h]
/-- an own slot that is passed -/
theorem slotOf_o {b : Bool} {a : Arg} {d : D} (h : slotOf env b a = .ok (.o d)) : ∃ i, a = .s i ∧ env.getD i .nil = .o d := by
  cases a with
  | v e => cases ok_inj h
  | s i =>
    unfold slotOf at h
    cases b with
    | false => cases h
    | true =>
      simp only [if_true] at h
      split at h
      · rename_i e he
        have := ok_inj h
        injection this with this
        subst this
        exact ⟨i, rfl, he⟩
      · cases h
theorem slots_rel (R : Rel K F env σ H) (g : OpdsOk K F σ as vs) (h : slotsOf env br as = .ok ss) (nd : (argIx as).Nodup) :
    Rel K F ss (vs.map some) H ∧ ss.length = as.length ∧ ∀ k d, ss.getD k .nil = .o d → ∃ i : Nat, as[k]? = some (Arg.s i) ∧ env.getD i .nil = .o d := by
  obtain ⟨hl, hat⟩ := slotsOf_at h
  have hl2 := g.length
  have own : ∀ k d, ss.getD k .nil = .o d → ∃ i : Nat, as[k]? = some (Arg.s i) ∧ env.getD i .nil = .o d := fun k d hk => by
    have hk1 : k < ss.length := getD_lt hk (fun z => nomatch z)
    obtain ⟨s, b, h1, h2⟩ := hat k as[k] (by simp [hl ▸ hk1])
    rw [getD_some h1] at hk
    subst hk
    obtain ⟨i, e1, e2⟩ := slotOf_o h2
    exact ⟨i, by rw [List.getElem?_eq_getElem (hl ▸ hk1), e1], e2⟩
  refine ⟨⟨R.sub, by rw [List.length_map, hl, hl2], fun k => ?_, fun i j d e a h1 h2 e1 e2 => ?_⟩, hl, own⟩
  · by_cases hk : k < vs.length
    · obtain ⟨a, ha, hv⟩ := g.at k vs[k] (List.getElem?_eq_getElem hk)
      obtain ⟨s, b, h1, h2⟩ := hat k a ha
      rw [getD_some h1, List.getElem?_map, List.getElem?_eq_getElem hk]
      cases s with
      | nil => trivial
      | v d =>
        cases a with
        | v e =>
          have := ok_inj h2
          injection this with this
          subst this
          cases hv with
          | v r => exact ⟨_, rfl, r⟩
        | s i =>
          cases b with
          | false => cases h2
          | true =>
            simp only [slotOf, if_true] at h2
            split at h2 <;> cases h2
      | o d =>
        obtain ⟨i, rfl, he⟩ := slotOf_o h2
        obtain ⟨a, e1, n, ow⟩ := R.own he
        cases hv with
        | s e =>
          rw [e1] at e
          injection e with e
          injection e with e
          exact ⟨a, by rw [← e]; rfl, n, ow⟩
    · rw [getD_none (List.getElem?_eq_none (by omega))]
      trivial
  · obtain ⟨p, a1, b1⟩ := own i d h1
    obtain ⟨q, a2, b2⟩ := own j e h2
    have t1 : ∀ k v, (vs.map some)[k]? = some (some v) → vs[k]? = some v := fun k v hk => by
      rw [List.getElem?_map] at hk
      cases hv : vs[k]? with
      | none => rw [hv] at hk; cases hk
      | some w => rw [hv] at hk; cases hk; rfl
    obtain ⟨a', c1, d1⟩ := g.at i _ (t1 _ _ e1)
    obtain ⟨a'', c2, d2⟩ := g.at j _ (t1 _ _ e2)
    rw [a1] at c1; cases c1
    rw [a2] at c2; cases c2
    cases d1 with
    | s d1 =>
      cases d2 with
      | s d2 =>
        have := R.one _ _ _ _ _ b1 b2 d1 d2
        subst this
        exact argIx_inj nd a1 a2
theorem owns_args (g : OpdsOk K F σ as vs) (own : ∀ k d, ss.getD k .nil = .o d → ∃ i : Nat, as[k]? = some (Arg.s i) ∧ env.getD i .nil = .o d) {a : Addr} (h : Owns ss (vs.map some) a) : ∃ (i k : Nat) (d : D), as[k]? = some (Arg.s i) ∧ env.getD i .nil = .o d ∧ σ[i]? = some (some (.ref a)) := by
  obtain ⟨k, d, h1, h2⟩ := h
  obtain ⟨i, e1, e2⟩ := own k d h1
  rw [List.getElem?_map] at h2
  cases hv : vs[k]? with
  | none => rw [hv] at h2; cases h2
  | some w =>
    rw [hv] at h2
    injection h2 with h2
    injection h2 with h2
    subst h2
    obtain ⟨a', c1, d1⟩ := g.at k _ hv
    rw [e1] at c1; cases c1
    cases d1 with
    | s d1 => exact ⟨i, k, d, e1, e2, d1⟩
/-- behind a call -/
theorem back_went (R : Rel K F env σ H) (g : OpdsOk K F σ as vs) (h : slotsOf env br as = .ok ss) (nd : (argIx as).Nodup) (w : Went K (vs.map some) ss F H outs F' H') : Went K σ env F H (back env as outs) F' H' := by
  obtain ⟨R1, hl, own⟩ := slots_rel R g h nd
  have ho : outs.length = as.length := by rw [w.rel.len, List.length_map, g.length]
  have oa : ∀ a, Owns ss (vs.map some) a → Owns env σ a := fun a q => by
    obtain ⟨i, k, d, e1, e2, e3⟩ := owns_args g own q
    exact ⟨i, d, e2, e3⟩
  -- a slot that was passed
  have passed : ∀ (k j : Nat), as[k]? = some (.s j) → j < env.length ∧ ∃ v, vs[k]? = some v ∧ σ[j]? = some (some v) := fun k j hk => by
    have hk2 : k < vs.length := by rw [← g.length]; exact (List.getElem?_eq_some_iff.mp hk).1
    obtain ⟨a, c1, d1⟩ := g.at k vs[k] (List.getElem?_eq_getElem hk2)
    rw [hk] at c1; cases c1
    cases d1 with
    | s d1 => exact ⟨by rw [R.len]; exact (List.getElem?_eq_some_iff.mp d1).1, _, List.getElem?_eq_getElem hk2, d1⟩
  have look : ∀ j, (∃ k : Nat, as[k]? = some (Arg.s j)) ∨ j ∉ argIx as := fun j => by
    by_cases hj : j ∈ argIx as
    · left
      have : ∀ {as : List Arg}, j ∈ argIx as → ∃ k : Nat, as[k]? = some (Arg.s j) := by
        intro as
        induction as with
        | nil => intro h; cases h
        | cons a r ih =>
          intro h
          cases a with
          | v d =>
            obtain ⟨k, hk⟩ := ih h
            exact ⟨k + 1, by simpa using hk⟩
          | s i =>
            rcases List.mem_cons.mp h with rfl | h
            · exact ⟨0, rfl⟩
            · obtain ⟨k, hk⟩ := ih h
              exact ⟨k + 1, by simpa using hk⟩
      exact this hj
    · exact .inr hj
  have other : ∀ {j d a}, j ∉ argIx as → env.getD j .nil = .o d → σ[j]? = some (some (.ref a)) → ¬ Owns ss (vs.map some) a := fun {j d a} hj hd ha hO => by
    obtain ⟨i, k, e, e1, e2, e3⟩ := owns_args g own hO
    have := R.one _ _ _ _ _ hd e2 ha e3
    subst this
    exact hj (argIx_mem e1)
  refine ⟨⟨w.rel.sub, by rw [back_len]; exact R.len, fun j => ?_, fun i j d e a h1 h2 e1 e2 => ?_⟩, w.step.weak oa, fun a ⟨j, d, h1, h2⟩ => ?_⟩
  · rcases look j with ⟨k, hk⟩ | hj
    · obtain ⟨lj, v, hv, hs⟩ := passed k j hk
      rw [back_in nd hk ho lj, hs]
      have := w.rel.slot k
      rw [List.getElem?_map, hv] at this
      exact this
    · rw [back_out hj]
      have := R.slot j
      generalize hsj : env.getD j .nil = s at this
      cases s with
      | nil => trivial
      | v d => exact ⟨this.choose, this.choose_spec.1, this.choose_spec.2.mono w.step.mono⟩
      | o d =>
        obtain ⟨a, e, n, ow⟩ := this
        obtain ⟨o, ho⟩ := ow.some
        have hn := other hj hsj e
        have hk := w.step.keep a o ho hn
        refine ⟨a, e, ?_, ow.at w.step.mono (hk.trans ho.symm)⟩
        cases q : F' a with
        | none => rfl
        | some u =>
          rcases w.step.fr a u q with z | z | z
          · rw [n] at z; cases z
          · exact (ow.noOwn z).elim
          · exact absurd z hn
  · -- two own slots
    have cls : ∀ {i d a}, (back env as outs).getD i .nil = .o d → σ[i]? = some (some (.ref a)) → (∃ k : Nat, as[k]? = some (Arg.s i) ∧ outs.getD k .nil = .o d ∧ vs[k]? = some (.ref a)) ∨ (i ∉ argIx as ∧ env.getD i .nil = .o d) := fun {i d a} h1 e1 => by
      rcases look i with ⟨k, hk⟩ | hj
      · left
        obtain ⟨lj, v, hv, hs⟩ := passed k i hk
        rw [back_in nd hk ho lj] at h1
        rw [hs] at e1
        injection e1 with e1
        injection e1 with e1
        subst e1
        exact ⟨k, hk, h1, hv⟩
      · rw [back_out hj] at h1
        exact .inr ⟨hj, h1⟩
    have mp : ∀ {k a}, vs[k]? = some (V.ref a) → (vs.map some)[k]? = some (some (V.ref a)) := fun hv => by rw [List.getElem?_map, hv]; rfl
    rcases cls h1 e1 with ⟨k, a1, b1, c1⟩ | ⟨a1, b1⟩
    · rcases cls h2 e2 with ⟨l, a2, b2, c2⟩ | ⟨a2, b2⟩
      · have := w.rel.one k l _ _ _ b1 b2 (mp c1) (mp c2)
        subst this
        rw [a1] at a2
        cases a2
        rfl
      · exact absurd (w.own a ⟨k, d, b1, mp c1⟩) (other a2 b2 e2)
    · rcases cls h2 e2 with ⟨l, a2, b2, c2⟩ | ⟨a2, b2⟩
      · exact absurd (w.own a ⟨l, e, b2, mp c2⟩) (other a1 b1 e1)
      · exact R.one _ _ _ _ _ b1 b2 e1 e2
  · rcases look j with ⟨k, hk⟩ | hj
    · obtain ⟨lj, v, hv, hs⟩ := passed k j hk
      rw [back_in nd hk ho lj] at h1
      rw [hs] at h2
      injection h2 with h2
      injection h2 with h2
      subst h2
      exact oa a (w.own a ⟨k, d, h1, by rw [List.getElem?_map, hv]; rfl⟩)
    · rw [back_out hj] at h1
      exact ⟨j, d, h1, h2⟩
end
/-- a def of the text, as it is called -/
structure FnAt (X : Cx) (C : Cfg) (cls : Nat → Addr) (n : Nat) (f : Nat) (x : Str) : Prop where
  ex : ∃ (a : Addr) (fd : FuncData) (ps : List Str), X.mg x = some (.ref a) ∧ PySem.W.keepIn X.K (.ref a) = true ∧ Binds X.K fd ps [] ∧ FnOk X.prog X.w X.K X.mg X.base (L2.CX X.prog X.w) n a fd ps (spF X.K C cls f)
theorem snd_call {f n : Nat} {x : Str} {p : Pos} {es : Es} {pes : List Expr} (hf : FnAt X C W.cls n f x) (hr : Room n X.A) (hg : Gl X x) (hx : Passes (L2.CX X.prog X.w) X W.wish) (hA : PA X (pa :: pes) (rdA X.K C W es)) (hs : (pa :: pes).all notStar = true)
    (hd : (x == ("__debug__" : Str)) = false) (nd : ∀ env as env', dens C es env = .ok (as, env') → (argIx as).Nodup) : PE X (.Call (.Name x p) (pa :: pes) [] pos) (rdR X.K C W (C.nw f) (.call f es)) := by
  obtain ⟨a, fd, ps, hm, hk, hb, F0⟩ := hf.ex
  have hs' := hs
  rw [List.all_cons, Bool.and_eq_true] at hs'
  refine (pe_call F0 hr hg hm hk hb .nil hx hA hd (star_cons hs'.1) (star_any hs'.2)).imp fun σ H Q ⟨F, env, R, o⟩ => ?_
  simp only [den, ← deno_eq] at o
  refine rdA_eqn R (o.bind.mono (fun ⟨as, env1⟩ o eq vs F1 H1 w1 ok => ?_) fun _ h => h)
  obtain ⟨ss, h1, h2⟩ := o.pure exw_stuck
  have nd := nd _ _ _ eq
  obtain ⟨R1, hl, own⟩ := slots_rel w1.rel ok h1 nd
  have oa : ∀ a, Owns ss (vs.map some) a → Owns env1 σ a := fun a q => by
    obtain ⟨i, k, d, e1, e2, e3⟩ := owns_args ok own q
    exact ⟨i, d, e2, e3⟩
  rw [List.append_nil]
  refine ⟨F1, ss, R1, OutM.mono (OutM.bind h2) (fun q o v F' H' w r => ?_) fun e he => ?_⟩
  · exact o v F' H' (w1.trans (back_went w1.rel ok h1 nd w)) (ResOk.back r w1.step.dom)
  · cases e with
    | stuck => exact he
    | exc c as => exact fun F' H' st sb ea => he F' H' (w1.step.trans (st.weak oa) fun a h => .inl (w1.own a h)) sb ea
theorem snd_call0 {f n : Nat} {x : Str} {p : Pos} (hf : FnAt X C W.cls n f x) (hr : Room n X.A) (hg : Gl X x) (hx : Passes (L2.CX X.prog X.w) X W.wish) (hd : (x == ("__debug__" : Str)) = false) : PE X (.Call (.Name x p) [] [] pos) (rdR X.K C W (C.nw f) (.call f .nil)) := by
  obtain ⟨a, fd, ps, hm, hk, hb, F0⟩ := hf.ex
  refine (pe_call0 F0 hr hg hm hk hb .nil hx hd).imp fun σ H Q ⟨F, env, R, o⟩ => ?_
  simp only [den, dens] at o
  have o : OutM (noX (slotsOf env (C.br f) []) >>= fun ss => C.cl f ss >>= fun p => .ok (p.1, back env [] p.2)) (fun (p : D × Env) => ∀ v F' H', Went X.K σ env F H p.2 F' H' → ResOk (C.nw f) X.K F' H H' v p.1 → Q v H') (EXW X.K W σ env F H) := o
  obtain ⟨ss, h1, h2⟩ := o.pure exw_stuck
  obtain ⟨R1, hl, own⟩ := slots_rel (vs := []) R .nil h1 List.nodup_nil
  have oa : ∀ a, Owns ss (([] : List V).map some) a → Owns env σ a := fun a q => by
    obtain ⟨i, k, d, e1, e2, e3⟩ := owns_args (OpdsOk.nil (K := X.K) (F := F)) own q
    exact ⟨i, d, e2, e3⟩
  refine ⟨F, ss, R1, OutM.mono (OutM.bind h2) (fun q o v F' H' w r => ?_) fun e he => ?_⟩
  · exact o v F' H' (back_went R .nil h1 List.nodup_nil w) r
  · cases e with
    | stuck => exact he
    | exc c as => exact fun F' H' st sb ea => he F' H' (st.weak oa) sb ea
/-! ### methods -/
theorem units1 {k : Nat} (hr : Room k X.A) : X.A.units + 1 < cLine := by have := hr.un; omega
def mtId : Mt → String
  | .dget => "dict.get" | .lcount => "list.count" | .tcount => "tuple.count" | .lindex => "list.index" | .tindex => "tuple.index"
def mtT : Mt → String
  | .dget => "dict" | .lcount => "list" | .tcount => "tuple" | .lindex => "list" | .tindex => "tuple"
def rMt (K : PySem.W.Frag) (m : Mt) : V → List V → Hp → VK → Prop := fun x xs H Q => ∃ F d ds r, Sub F H ∧ Opn K F H x d ∧ Reps K F xs ds ∧ mtF m (d :: ds) = .ok r ∧ ∀ v, Rep K F v r → Q v H
theorem getF_ok {k d x r : D} (h : getF k d x = .ok r) : ∃ ks vs o, x = .dct ks vs ∧ dget ks vs k = .ok o ∧ r = o.getD d := by
  cases x <;> simp only [getF] at h <;> try (cases h; done)
  obtain ⟨o, h1, h2⟩ := bind_ok h
  refine ⟨_, _, o, rfl, h1, ?_⟩
  cases o <;> exact (ok_inj h2).symm
theorem mt_dget {k : Nat} (hr : Room k X.A) : MtR X "dict.get" (rMt X.K .dget) := by
  intro pins s σ H x xs v us Q I rx rs h
  obtain ⟨F, d, ds, r, sF, g, gs, hf, q⟩ := h
  have two : ∀ {y : V} {iv : Value} {k dk : D} {dz : V} {zv : Value} (n : Bool), getF k dk d = .ok r → Opn X.K F H y k → RelV y iv → (n = true → Rep X.K F dz dk ∧ RelV dz zv) → (n = false → dk = .non) →
      wpAny (model X.prog X.w) X.A (call (.builtin "dict.get") (v :: if n then [iv, zv] else [iv])) (EP X pins σ Q) X.xe s := by
    intro y iv k dk dz zv n hg gy ry hz hn
    obtain ⟨ks, vs, o, rfl, hd, rfl⟩ := getF_ok hg
    unfold dget at hd
    split at hd
    · rename_i hk
      obtain ⟨a, H', r', rfl, J, dg, back, _, hgt⟩ := dict_at I sF g (gy.rep sF) hk
      cases rx
      have fin : ∀ (w' : Value) (s' : Shared), Inv X pins σ H' s' → RelV (r'.getD (if n then dz else .non)) w' → EP X pins σ Q w' s' := by
        intro w' s' J' rw'
        refine ⟨_, H, back s' J', rw', q _ ?_⟩
        rcases hgt _ hd with ⟨rfl, rfl⟩ | ⟨d, w, rfl, rfl, hw⟩
        · cases n with
          | true => exact (hz rfl).1
          | false =>
            have := hn rfl
            subst this
            exact .non
        · exact hw
      cases n with
      | true => exact d_get2 (units1 hr) J dg ry (hz rfl).2 fin
      | false => exact d_get1 (units1 hr) J dg ry fin
    · cases hd
  match ds, gs with
  | [], _ => cases d <;> cases hf
  | [k], .cons gy .nil =>
    cases rs with
    | cons r1 r2 =>
      cases r2
      exact two (dz := .non) (zv := .none) false hf (.v gy) r1 (fun e => nomatch e) fun _ => rfl
  | [k, dk], .cons gy (.cons gz .nil) =>
    cases rs with
    | cons r1 r2 =>
      cases r2 with
      | cons r2 r3 =>
        cases r3
        exact two true hf (.v gy) r1 (fun _ => ⟨gz, r2⟩) fun e => nomatch e
  | _ :: _ :: _ :: _, _ => cases d <;> cases hf
theorem mt_lcount' : MtR X "list.count" (rMt X.K .lcount) := by
  intro pins s σ H x xs v us Q I rx rs h
  obtain ⟨F, d, ds, r, sF, g, gs, hf, q⟩ := h
  match ds, gs with
  | [], _ => cases d <;> cases hf
  | a :: _ :: _, _ => cases d <;> cases a <;> cases hf
  | [k], .cons gk .nil =>
    cases d <;> cases k <;> simp only [mtF] at hf <;> try (cases hf; done)
    rename_i ds k
    obtain ⟨a, vs, rfl, e, gr⟩ := g.lst' sF
    cases gk
    split at hf <;> try (cases hf; done)
    rename_i ns hn
    have hd := allInt_ok hn
    subst hd
    have hv := Reps.ints gr
    subst hv
    have := ok_inj hf
    subst this
    exact mt_lcount pins s σ H _ _ v us Q I rx rs ⟨a, ns, k, rfl, rfl, SqL.of e, q _ (.int _)⟩
theorem star_all {env : PySem.Env} {p : Pos} : ∀ {es : List Expr}, es.all notStar = true → (backTo p (starEach es env)).all (fun x => !x.1) = true
  | [], _ => rfl
  | e :: es, h => by
    rw [List.all_cons, Bool.and_eq_true] at h
    rw [star_cons h.1]
    show (true && (backTo p (starEach es env)).all (fun x => !x.1)) = true
    rw [star_all h.2]
    rfl
def isName : Expr → Bool
  | .Name .. => true
  | _ => false
theorem base_name {o : Expr} {name : Str} {env : PySem.Env} (h : isName o = true) : attributeBase o name env (eval o env) = eval o env := by
  cases o <;> first | rfl | (cases h; done)
theorem mtTy_ok {m : Mt} {d : D} {u : Unit} {F H : Hp} {x : V} (s : Sub F H) (g : Opn X.K F H x d) (h : mtTy m d = .ok u) : tyV X.K (mtT m) x H := by
  cases m <;> cases d <;> simp only [mtTy] at h <;> try (cases h; done)
  · cases g with
    | v g =>
      cases g with
      | dK e r => exact .inr (.inr (.inl ⟨rfl, .inl ⟨_, s _ _ e⟩⟩))
      | dT e r => exact .inr (.inr (.inl ⟨rfl, .inr ⟨_, s _ _ e⟩⟩))
    | dK e r => exact .inr (.inr (.inl ⟨rfl, .inl ⟨_, e⟩⟩))
    | dT e r => exact .inr (.inr (.inl ⟨rfl, .inr ⟨_, e⟩⟩))
  · obtain ⟨a, vs, rfl, e, r⟩ := g.lst' s
    exact .inl ⟨rfl, _, SqL.of e⟩
  · obtain ⟨a, vs, rfl, e, r⟩ := g.lst' s
    exact .inl ⟨rfl, _, SqL.of e⟩
theorem snd_meth {m : Mt} {name : Str} {apos cpos : Pos} {es : Es} {pes : List Expr} (hp : PlainAttrs (mtT m)) (sl : PySem.Slot (mtT m) name (mtId m)) (ht : typeOf (.builtin (mtId m)) = pure (.type "method_descriptor")) (hm : MtR X (mtId m) (rMt X.K m))
    (ha : PE X pa (rdO X.K C W a)) (hA : PA X (pb :: pes) (rdA X.K C W es)) (hn : noB es = true) (hb : isName pa = true) (hs : (pb :: pes).all notStar = true) (hlen : pes.length < 20) (hline : (apos.endLine == cpos.line) = true) :
    PE X (.Call (.Attribute pa name apos) (pb :: pes) [] cpos) (rdE X.K C W (.meth m a es)) := by
  have hs' := hs
  rw [List.all_cons, Bool.and_eq_true] at hs'
  refine (pe_bm hp sl ht hm ha hA (base_name hb) ?_ hline (star_cons hs'.1) (star_any hs'.2)).imp fun σ H Q ⟨F, env, R, o⟩ => ?_
  · rw [star_all hs]
    show (true && true && decide ((pb :: pes).length + 0 + 0 < 30)) = true
    rw [decide_eq_true (by rw [List.length_cons]; omega)]
    rfl
  simp only [den, ← deno_eq] at o
  refine ⟨F, env, R, o.bind.mono (fun ⟨x, env1⟩ o v F1 H1 w1 o1 => ?_) fun _ h => h⟩
  obtain ⟨u, h1, h2⟩ := OutM.pure (m := (do mtTy m (← val env1 x))) o exw_stuck
  obtain ⟨dx, h3, h4⟩ := bind_ok h1
  refine ⟨mtTy_ok w1.rel.sub (o1.opn w1.rel h3) h4, rdA_eqn w1.rel (OutM.mono (OutM.bind h2) (fun ⟨as, env2⟩ o eq vs F2 H2 w2 ok => ?_) (EXW.on w1))⟩
  obtain ⟨r, h5, h6⟩ := OutM.pure (m := (do mtF m (← vals env2 (x :: as)))) o exw_stuck
  obtain ⟨ds, h7, h8⟩ := bind_ok h5
  obtain ⟨d0, h9, h10⟩ := bind_ok h7
  obtain ⟨ds', h11, h12⟩ := bind_ok h10
  have := ok_inj h12
  subst this
  exact ⟨F2, d0, ds', r, w2.rel.sub, (o1.mono w2.step.mono).opn w2.rel h9, vals_v ok (dens_v hn eq) h11, h8, fun v rv => h6 v F2 H2 (w1.trans w2) rv⟩
/-! ### tests -/
/-- what the test of an expression asks of its form -/
def plainT : Expr → Bool
  | .UnaryOp .Not .. => false
  | .BoolOp .. => false
  | .IfExp .. => false
  | .Compare .. => false
  | _ => true
theorem plainT_ok {e : Expr} {env : PySem.Env} (h : plainT e = true) : ∀ whole, isTrue e env whole = (do let v ← whole; standAt e.pos; holding [v] (PySem.truthy v)) := by
  cases e with
  | UnaryOp op a p => cases op <;> first | (intro _; rfl) | (cases h; done)
  | _ => first | (intro _; rfl) | (cases h; done)
theorem tru_bind {e : E} {env : Env} : tru C e env = (deno C e env >>= fun p => op1 truthy p.2 p.1 >>= fun b => .ok (b, p.2)) := rfl
theorem deno_nb {e : E} {env : Env} (h : isB e = false) : deno C e env = (den C e env >>= fun p => .ok (.v p.1, p.2)) := by
  cases e <;> first | rfl | (cases h; done)
theorem tru_den {e : E} {env : Env} (h : isB e = false) : tru C e env = (den C e env >>= fun p => noX (truthy p.1) >>= fun b => .ok (b, p.2)) := by
  rw [tru_bind, deno_nb h]
  cases den C e env <;> rfl
/-- by the value's truth -/
theorem sndT_plain (ha : PE X pa (rdO X.K C W a)) (hp : plainT pa = true) : PT X pa (rdT X.K C W a) := by
  refine (pt_truth ha (plainT_ok hp)).imp fun σ H Q ⟨F, env, R, o⟩ => ?_
  rw [tru_bind] at o
  refine ⟨F, env, R, o.bind.mono (fun p o v F1 H1 w1 o1 => ?_) fun _ h => h⟩
  obtain ⟨r, h1, h2⟩ := OutM.pure (m := (do truthy (← val p.2 p.1))) o exw_stuck
  obtain ⟨dx, h3, h4⟩ := bind_ok h1
  exact ⟨r, tru_of w1.rel.sub (o1.opn w1.rel h3) h4, h2 F1 H1 w1⟩
/-- a comparison: its value is a bool -/
theorem sndT_cmp {k : Nat} (hr : Room k X.A) {o : Cop} (ha : PE X pa (rdO X.K C W a)) (hb : PE X pb (rdO X.K C W b)) (hm : behindInMarks (copM o) pb = false) : PT X (.Compare pa [copM o] [pb] pos) (rdT X.K C W (.cmp o a b)) := by
  refine (pt_cmpR (op_cmp hr o) ha hb hm).imp fun σ H Q ⟨F, env, R, h⟩ => ?_
  have e1 : tru C (.cmp o a b) env = (deno C a env >>= fun p => deno C b p.2 >>= fun q => op2 (cmpF o) q.2 p.1 q.1 >>= fun r => .ok (r, q.2)) := by
    rw [tru_den rfl]
    simp only [den, ← deno_eq]
    cases h1 : deno C a env with
    | error e => rfl
    | ok p =>
      simp only [bind, Except.bind]
      cases h2 : deno C b p.2 with
      | error e => rfl
      | ok q =>
        simp only [bind, Except.bind]
        cases op2 (cmpF o) q.2 p.1 q.1 <;> rfl
  rw [e1] at h
  refine ⟨F, env, R, h.bind.mono (fun ⟨x, env1⟩ h v F1 H1 w1 o1 => ⟨F1, env1, w1.rel, OutM.mono (OutM.bind h) (fun ⟨y, env2⟩ h u F2 H2 w2 o2 => ?_) (EXW.on w1)⟩) fun _ h => h⟩
  obtain ⟨r, h1, h2⟩ := OutM.pure (m := (do cmpF o (← val env2 x) (← val env2 y))) h exw_stuck
  obtain ⟨dx, h3, h4⟩ := bind_ok h1
  obtain ⟨dy, h5, h6⟩ := bind_ok h4
  exact ⟨F2, dx, dy, r, w2.rel.sub, (o1.mono w2.step.mono).opn w2.rel h3, o2.opn w2.rel h5, h6, r, rfl, h2 F2 H2 (w1.trans w2)⟩
theorem sndT_nt (ha : PT X pa (rdT X.K C W a)) : PT X (.UnaryOp .Not pa pos) (rdT X.K C W (.nt a)) := by
  refine (pt_not ha).imp fun σ H Q ⟨F, env, R, h⟩ => ⟨F, env, R, ?_⟩
  rw [tru_den rfl] at h
  rw [tru_bind]
  simp only [den, ← deno_eq] at h
  cases e : deno C a env with
  | error er => rw [e] at h; exact h
  | ok p =>
    rw [e] at h
    have h : OutM ((op1 truthy p.2 p.1 >>= fun r => .ok (.bl (!r), p.2)) >>= fun (q : D × Env) => noX (truthy q.1) >>= fun b => (.ok (b, q.2) : M (Bool × Env))) _ _ := h
    show OutM (op1 truthy p.2 p.1 >>= fun b => .ok (b, p.2)) _ _
    cases e2 : op1 truthy p.2 p.1 with
    | error er => rw [e2] at h; exact h
    | ok r => rw [e2] at h; exact h
theorem sndT_and {rest : List Expr} (ha : PT X pa (rdT X.K C W a)) (hb : PW X (.BoolOp .And (pb :: rest) pos) (rdT X.K C W b)) (na : isB a = false) (nb : isB b = false) : PW X (.BoolOp .And (pa :: pb :: rest) pos) (rdT X.K C W (.and a b)) := by
  refine (pw_and ha hb).imp fun σ H Q ⟨F, env, R, h⟩ => ⟨F, env, R, ?_⟩
  rw [tru_den rfl] at h
  simp only [den, ← deno_eq] at h
  rw [tru_den na]
  cases e : den C a env with
  | error er => rw [e] at h; exact h
  | ok p =>
    rw [e] at h
    have h : OutM ((noX (truthy p.1) >>= fun r => if r = true then den C b p.2 else .ok (p.1, p.2)) >>= fun (p : D × Env) => noX (truthy p.1) >>= fun b => .ok (b, p.2)) _ _ := h
    show OutM (noX (truthy p.1) >>= fun b => .ok (b, p.2)) _ _
    cases e2 : noX (truthy p.1) with
    | error er => rw [e2] at h; exact h
    | ok r =>
      rw [e2] at h
      intro F1 H1 w1
      cases r with
      | true =>
        refine ⟨F1, p.2, w1.rel, ?_⟩
        rw [tru_den nb]
        exact OutM.mono h (fun q o F2 H2 w2 => o F2 H2 (w1.trans w2)) (EXW.on w1)
      | false =>
        have h : OutM (noX (truthy p.1) >>= fun b => .ok (b, p.2)) _ _ := h
        rw [e2] at h
        exact h F1 H1 w1
theorem sndT_or {rest : List Expr} (ha : PT X pa (rdT X.K C W a)) (hb : PW X (.BoolOp .Or (pb :: rest) pos) (rdT X.K C W b)) (na : isB a = false) (nb : isB b = false) : PW X (.BoolOp .Or (pa :: pb :: rest) pos) (rdT X.K C W (.or a b)) := by
  refine (pw_or ha hb).imp fun σ H Q ⟨F, env, R, h⟩ => ⟨F, env, R, ?_⟩
  rw [tru_den rfl] at h
  simp only [den, ← deno_eq] at h
  rw [tru_den na]
  cases e : den C a env with
  | error er => rw [e] at h; exact h
  | ok p =>
    rw [e] at h
    have h : OutM ((noX (truthy p.1) >>= fun r => if r = true then .ok (p.1, p.2) else den C b p.2) >>= fun (p : D × Env) => noX (truthy p.1) >>= fun b => .ok (b, p.2)) _ _ := h
    show OutM (noX (truthy p.1) >>= fun b => .ok (b, p.2)) _ _
    cases e2 : noX (truthy p.1) with
    | error er => rw [e2] at h; exact h
    | ok r =>
      rw [e2] at h
      intro F1 H1 w1
      cases r with
      | false =>
        refine ⟨F1, p.2, w1.rel, ?_⟩
        rw [tru_den nb]
        exact OutM.mono h (fun q o F2 H2 w2 => o F2 H2 (w1.trans w2)) (EXW.on w1)
      | true =>
        have h : OutM (noX (truthy p.1) >>= fun b => .ok (b, p.2)) _ _ := h
        rw [e2] at h
        exact h F1 H1 w1
end
end L2.DN

/-! DenF: targets, what is walked, comprehensions -/
namespace L2.DN
open PySem PySem.Spec PyProof.Rows L2

/-! ### targets -/
mutual
def tix : T → List Nat
  | .n i => [i]
  | .p ts => tixs ts
def tixs : Ts → List Nat
  | .nil => []
  | .cons t r => tix t ++ tixs r
end
section
variable {K : PySem.W.Frag} {F F' H H' : Hp} {env env' : Env} {σ σ' : L2.St}
/-- a slot is assigned a value -/
theorem Rel.set {i : Nat} {v : V} {d : D} (R : Rel K F env σ H) (r : Rep K F v d) (hi : i < env.length) : Rel K F (env.set i (.v d)) (σ.set i (some v)) H := by
  have hi2 : i < σ.length := by rw [← R.len]; exact hi
  refine ⟨R.sub, by rw [List.length_set, List.length_set]; exact R.len, fun j => ?_, fun j k d1 d2 a h1 h2 e1 e2 => ?_⟩
  · rw [getD_set]
    by_cases hj : i = j
    · subst hj
      rw [if_pos ⟨rfl, hi⟩, List.getElem?_set_self hi2]
      exact ⟨v, rfl, r⟩
    · rw [if_neg (fun z => hj z.1), List.getElem?_set_ne hj]
      exact R.slot j
  · rw [getD_set] at h1 h2
    split at h1
    · cases h1
    · rename_i n1
      split at h2
      · cases h2
      · rename_i n2
        have m1 : i ≠ j := fun z => n1 ⟨z, hi⟩
        have m2 : i ≠ k := fun z => n2 ⟨z, hi⟩
        rw [List.getElem?_set_ne m1] at e1
        rw [List.getElem?_set_ne m2] at e2
        exact R.one _ _ _ _ _ h1 h2 e1 e2
theorem Owns.set {i : Nat} {v : V} {d : D} {a : Addr} (h : Owns (env.set i (.v d)) (σ.set i (some v)) a) (hi : i < env.length) : Owns env σ a := by
  obtain ⟨j, d1, h1, h2⟩ := h
  rw [getD_set] at h1
  split at h1
  · cases h1
  · rename_i n1
    have m1 : i ≠ j := fun z => n1 ⟨z, hi⟩
    rw [List.getElem?_set_ne m1] at h2
    exact ⟨j, d1, h1, h2⟩
/-- what a store leaves -/
structure Put (K : PySem.W.Frag) (F H : Hp) (env : Env) (σ : L2.St) (env' : Env) (σ' : L2.St) (ix : List Nat) : Prop where
  rel : Rel K F env' σ' H
  own : ∀ a, Owns env' σ' a → Owns env σ a
  out : ∀ j, j ∉ ix → σ'[j]? = σ[j]?
  len : env'.length = env.length
  env : ∀ j, j ∉ ix → env'.getD j .nil = env.getD j .nil
end
section
variable {X : Cx}
def rdG (K : PySem.W.Frag) (t : T) : TG := fun v σ H Q => ∃ F env d env', Rel K F env σ H ∧ Rep K F v d ∧ asgT t d env = .ok env' ∧ ∀ σ', Put K F H env σ env' σ' (tix t) → Q σ' H
def rdGs (K : PySem.W.Frag) (ts : Ts) : TGs := fun vs σ H Q => ∃ F env ds env', Rel K F env σ H ∧ Reps K F vs ds ∧ asgTs ts ds env = .ok env' ∧ ∀ σ', Put K F H env σ env' σ' (tixs ts) → Q σ' H
theorem _root_.L2.PG.imp {tg : Expr} {t t' : TG} (h : PG X tg t) (f : ∀ v σ H Q, t' v σ H Q → t v σ H Q) : PG X tg t' := ⟨fun pins s σ H v u Q I r q => h.run pins s σ H v u Q I r (f v σ H Q q)⟩
theorem _root_.L2.PGs.imp {tg : List Expr} {t t' : TGs} (h : PGs X tg t) (f : ∀ v σ H Q, t' v σ H Q → t v σ H Q) : PGs X tg t' := ⟨fun pins s σ H v u Q I r q => h.run pins s σ H v u Q I r (f v σ H Q q)⟩
theorem snd_tn {i : Nat} {x : Str} {pos : Pos} (hN : X.N.Nodup) (hi : X.N[i]? = some x) (hx : Loc X.env.scope x) (hf : X.fn x = true ∨ X.env.scope.names.lookup x = some .local) : PG X (.Name x pos) (rdG X.K (.n i)) := by
  refine (pg_name hN hi hx hf).imp fun v σ H Q ⟨F, env, d, env', R, r, h, q⟩ => ?_
  simp only [asgT] at h
  obtain ⟨hi, e⟩ := ite_ok h
  subst e
  refine q _ ⟨R.set r hi, fun a h => h.set hi, fun j hj => ?_, ?_, fun j hj => ?_⟩
  · have : i ≠ j := fun z => hj (by rw [← z]; exact List.mem_singleton_self i)
    exact List.getElem?_set_ne this
  · exact List.length_set
  · have : i ≠ j := fun z => hj (by rw [← z]; exact List.mem_singleton_self i)
    rw [getD_set, if_neg (fun z => this z.1)]
theorem snd_tsnil : PGs X [] (rdGs X.K .nil) := by
  refine pgs_nil.imp fun vs σ H Q ⟨F, env, ds, env', R, r, h, q⟩ => ?_
  cases ds with
  | nil =>
    cases r
    simp only [asgTs] at h
    have := ok_inj h
    subst this
    exact ⟨rfl, q σ ⟨R, fun _ h => h, fun _ _ => rfl, rfl, fun _ _ => rfl⟩⟩
  | cons d ds => cases h
theorem snd_tscons {t : T} {r : Ts} {e : Expr} {es : List Expr} (h1 : PG X e (rdG X.K t)) (h2 : PGs X es (rdGs X.K r)) (hs : (assignEach (e :: es) X.env).map (·.2) = assign e X.env :: (assignEach es X.env).map (·.2)) : PGs X (e :: es) (rdGs X.K (.cons t r)) := by
  refine (pgs_cons h1 h2 hs).imp fun vs σ H Q ⟨F, env, ds, env', R, rp, h, q⟩ => ?_
  cases rp with
  | nil => cases h
  | cons r1 r2 =>
    simp only [asgTs] at h
    obtain ⟨env1, e1, e2⟩ := bind_ok h
    refine ⟨_, _, rfl, F, env, _, env1, R, r1, e1, fun σ1 p1 => ⟨F, env1, _, env', p1.rel, r2, e2, fun σ2 p2 => q σ2 ⟨p2.rel, fun a h => p1.own a (p2.own a h), fun j hj => ?_, p2.len.trans p1.len, fun j hj => ?_⟩⟩⟩
    · have n1 : j ∉ tixs r := fun m => hj (List.mem_append_right _ m)
      have n2 : j ∉ tix t := fun m => hj (List.mem_append_left _ m)
      rw [p2.out j n1, p1.out j n2]
    · have n1 : j ∉ tixs r := fun m => hj (List.mem_append_right _ m)
      have n2 : j ∉ tix t := fun m => hj (List.mem_append_left _ m)
      rw [p2.env j n1, p1.env j n2]
def lenTs : Ts → Nat
  | .nil => 0
  | .cons _ r => lenTs r + 1
theorem asgTs_len : ∀ {ts : Ts} {xs : List D} {env env' : Env}, asgTs ts xs env = .ok env' → xs.length = lenTs ts
  | .nil, [], _, _, _ => rfl
  | .nil, _ :: _, _, _, h => by cases h
  | .cons _ _, [], _, _, h => by cases h
  | .cons t r, x :: xs, env, env', h => by
    simp only [asgTs] at h
    obtain ⟨env1, e1, e2⟩ := bind_ok h
    show xs.length + 1 = lenTs r + 1
    rw [asgTs_len e2]
theorem snd_tp {ts : Ts} {es : List Expr} {k : Nat} {pos : Pos} (hc : X.calm = true) (h : PGs X es (rdGs X.K ts)) (hn : (assignEach es X.env).length = lenTs ts) (hst : (assignEach es X.env).findIdx? (·.1) = none) : PG X (.Tuple es k pos) (rdG X.K (.p ts)) := by
  refine (pg_tup hc h hn hst).imp fun v σ H Q ⟨F, env, d, env', R, rp, h, q⟩ => ?_
  simp only [asgT] at h
  split at h
  · rename_i xs
    cases rp with
    | tup e r => exact ⟨_, _, rfl, SqT.of (R.sub _ _ e), by rw [r.length, asgTs_len h], F, env, xs, env', R, r, h, q⟩
  · cases h

/-! ### what is walked -/
/-- the walk gives xs in turn, as long as nothing is written but what O owns -/
def WalksD (K : PySem.W.Frag) (O : Addr → Prop) (F H : Hp) (xs : List D) (J : L2.It) : Prop := ∀ F2 H2, Step O F H F2 H2 → Sub F2 H2 → J.stop xs.length H2 ∧
  ∀ i d, xs[i]? = some d → J.go i H2 ∧ ∀ x H3, J.yld i H2 x H3 → ∃ F3, Grow F2 H2 F3 H3 ∧ Rep K F3 x d
/-- what may be written while it is walked: all but what is walked itself -/
def WO (is : List Nat) (env : Env) (σ : L2.St) : Addr → Prop := fun a => is = [] ∨ Owns (wipe env is) σ a
def rdI (K : PySem.W.Frag) (C : Cfg) (W : Exs) (it : It) : TI := fun σ H R => ∃ F env, Rel K F env σ H ∧ OutM (deni C it env) (fun p => ∀ J F' H', Went K σ env F H p.2 F' H' → p.1.length ≤ sizeLine → WalksD K (WO (hide it) p.2 σ) F' H' p.1 J → R J H') (EXW K W σ env F H)
theorem _root_.L2.PI.imp {tg e : Expr} {t t' : TI} (h : PI X tg e t) (f : ∀ σ H Q, t' σ H Q → t σ H Q) : PI X tg e t' := ⟨fun pins s σ H Q I q => h.run pins s σ H Q I (f σ H Q q)⟩
/-- a list or a tuple -/
def iSq (K : PySem.W.Frag) (te : TE) : TI := fun σ H R => te σ H fun x H1 => (∃ a xs, x = .ref a ∧ SqL K H1 a xs ∧ (xs.length ≤ sizeLine → R (Itl K a) H1)) ∨ (∃ a xs, x = .ref a ∧ SqT K H1 a xs ∧ (xs.length ≤ sizeLine → R (Itt K a) H1))
theorem pi_sq {tg l : Expr} {tl : TE} (hl : PE X l tl) : PI X tg l (iSq X.K tl) := by
  refine ⟨fun pins s σ H R I h => thn (hl.run pins s σ H _ I h) fun v s1 ⟨x, H1, I1, r1, q1⟩ => ?_⟩
  have new : ∀ {hh : Heap} {o : Obj}, hh = s1.heap.push o → Inv X pins σ H1 { s1 with heap := hh } := by
    rintro hh o rfl
    exact I1.kept (t' := s1.toks) fun b o e => Heap.get?_push_of_some _ e
  have fp : ∀ b ∈ [s1.heap.objs.size], FpOk X pins H1 b := fun b hb => by
    rw [List.mem_singleton.mp hb]
    exact I1.fpOk (Nat.le_refl _) (I1.hok.fresh (Nat.le_refl _))
  rcases q1 with ⟨a, xs, rfl, hq, q⟩ | ⟨a, xs, rfl, hq, q⟩
  · cases r1
    obtain ⟨its, rv, p, hz⟩ := I1.list hq
    exact wpAny_pyIter_list p.isList ⟨s1.heap.objs.size, [s1.heap.objs.size], _, _, H1, rfl, new rfl, turn_list a _, ⟨_, Heap.get?_push_size _ rfl, rfl, rfl⟩, fp, q hz⟩
  · cases r1
    obtain ⟨its, rv, p, hz⟩ := I1.tuple hq
    exact wpAny_pyIter_tuple (show s1.heap.IsTuple a its.toArray from p) ⟨s1.heap.objs.size, [s1.heap.objs.size], _, _, H1, rfl, new rfl, turn_tuple a _, ⟨_, Heap.get?_push_size _ rfl, rfl, rfl⟩, fp, q hz⟩
section
variable {K : PySem.W.Frag} {F H : Hp} {O : Addr → Prop} {env : Env} {σ : L2.St}
theorem wipe_len : ∀ (is : List Nat) (env : Env), (wipe env is).length = env.length
  | [], _ => rfl
  | i :: is, env => by show ((wipe env is).set i .nil).length = _; rw [List.length_set, wipe_len is env]
theorem getD_wipe : ∀ (is : List Nat) (env : Env) (j : Nat), (wipe env is).getD j .nil = if j ∈ is then .nil else env.getD j .nil
  | [], env, j => by simp [wipe]
  | i :: is, env, j => by
    show ((wipe env is).set i .nil).getD j .nil = _
    rw [getD_set, getD_wipe is env j]
    by_cases h : i = j
    · subst h
      by_cases h2 : i < (wipe env is).length
      · rw [if_pos ⟨rfl, h2⟩, if_pos List.mem_cons_self]
      · rw [if_neg (fun z => h2 z.2)]
        have : env.getD i .nil = .nil := by
          rw [wipe_len] at h2
          simp [List.getD_eq_getElem?_getD, Nat.le_of_not_lt h2]
        rw [this]
        simp
    · rw [if_neg (fun z => h z.1)]
      have : (j ∈ i :: is) ↔ j ∈ is := by simp [Ne.symm h]
      by_cases hj : j ∈ is
      · rw [if_pos hj, if_pos (this.mpr hj)]
      · rw [if_neg hj, if_neg (fun z => hj (this.mp z))]
theorem Owns.wipe {is : List Nat} {a : Addr} (h : Owns (wipe env is) σ a) : Owns env σ a := by
  obtain ⟨j, d, h1, h2⟩ := h
  rw [getD_wipe] at h1
  split at h1
  · cases h1
  · exact ⟨j, d, h1, h2⟩
theorem Rel.wipe (R : Rel K F env σ H) (is : List Nat) : Rel K F (DN.wipe env is) σ H := by
  refine ⟨R.sub, by rw [wipe_len]; exact R.len, fun j => ?_, fun i j d e a h1 h2 e1 e2 => ?_⟩
  · rw [getD_wipe]
    split
    · trivial
    · exact R.slot j
  · rw [getD_wipe] at h1 h2
    split at h1
    · cases h1
    · split at h2
      · cases h2
      · exact R.one _ _ _ _ _ h1 h2 e1 e2
theorem not_owns (R : Rel K F env σ H) {is : List Nat} {i : Nat} {d : D} {a : Addr} (hi : i ∈ is) (h : env.getD i .nil = .o d) (e : σ[i]? = some (some (.ref a))) : ¬ Owns (DN.wipe env is) σ a := by
  rintro ⟨j, d', h1, h2⟩
  rw [getD_wipe] at h1
  split at h1
  · cases h1
  · rename_i hj
    have := R.one _ _ _ _ _ h h1 e h2
    subst this
    exact hj hi
theorem walks_lst {a : Addr} {vs : List V} {xs : List D} (h : ∀ F2 H2, Step O F H F2 H2 → Sub F2 H2 → H2 a = some (.lst vs)) (r : Reps K F vs xs) : WalksD K O F H xs (Itl K a) := by
  intro F2 H2 st sb
  have e := h F2 H2 st sb
  refine ⟨⟨vs, SqL.of e, by rw [r.length]; exact Nat.le_refl _⟩, fun i d hd => ?_⟩
  obtain ⟨v, hv, rv⟩ := r.get hd
  refine ⟨⟨vs, v, SqL.of e, hv⟩, fun x H3 hy => ?_⟩
  obtain ⟨rfl, hy⟩ := hy
  have := hy vs (SqL.of e)
  rw [hv] at this
  cases this
  exact ⟨F2, Grow.refl sb, rv.mono st.mono⟩
theorem walks_scr {a : Addr} {ns : List Int} (h : SqL K F a (ns.map V.int)) : WalksD K O F H (ns.map D.int) (Itl K a) := by
  intro F2 H2 st sb
  have e := (st.mono.trans sb).sqL h
  have r : Reps K F2 (ns.map V.int) (ns.map D.int) := scr_reps ns
  refine ⟨⟨_, e, by rw [r.length]; exact Nat.le_refl _⟩, fun i d hd => ?_⟩
  obtain ⟨v, hv, rv⟩ := r.get hd
  refine ⟨⟨_, v, e, hv⟩, fun x H3 hy => ?_⟩
  obtain ⟨rfl, hy⟩ := hy
  have := hy _ e
  rw [hv] at this
  cases this
  exact ⟨F2, Grow.refl sb, rv⟩
theorem walks_tup {a : Addr} {vs : List V} {xs : List D} (h : F a = some (.tup vs)) (r : Reps K F vs xs) : WalksD K O F H xs (Itt K a) := by
  intro F2 H2 st sb
  have e := sb _ _ (st.mono _ _ h)
  refine ⟨⟨vs, SqT.of e, by rw [r.length]; exact Nat.le_refl _⟩, fun i d hd => ?_⟩
  obtain ⟨v, hv, rv⟩ := r.get hd
  refine ⟨⟨vs, v, SqT.of e, hv⟩, fun x H3 hy => ?_⟩
  obtain ⟨rfl, hy⟩ := hy
  have := hy vs (SqT.of e)
  rw [hv] at this
  cases this
  exact ⟨F2, Grow.refl sb, rv.mono st.mono⟩
/-- a list that is read as an operand stays as it is while it is walked -/
theorem opd_lst {x : Arg} {v : V} {xs : List D} {is : List Nat} (R : Rel K F env σ H) (o : OpdOk K F σ x v) (hx : ∀ i, x = .s i → i ∈ is) (hd : val env x = .ok (.lst xs)) :
    ∃ a vs, v = .ref a ∧ H a = some (.lst vs) ∧ Reps K F vs xs ∧ ∀ F2 H2, Step (WO is env σ) F H F2 H2 → Sub F2 H2 → H2 a = some (.lst vs) := by
  cases o with
  | v r =>
    have := ok_inj hd
    subst this
    cases r with
    | lst e r => exact ⟨_, _, rfl, R.sub _ _ e, r, fun F2 H2 st sb => sb _ _ (st.mono _ _ e)⟩
  | @s v i hs =>
    have hd : peek env i = .ok (.lst xs) := hd
    unfold peek at hd
    split at hd
    · rename_i d' hd'
      have := ok_inj hd
      subst this
      obtain ⟨u, e1, r⟩ := R.val hd'
      rw [hs] at e1
      cases e1
      cases r with
      | lst e r => exact ⟨_, _, rfl, R.sub _ _ e, r, fun F2 H2 st sb => sb _ _ (st.mono _ _ e)⟩
    · rename_i d' hd'
      have := ok_inj hd
      subst this
      obtain ⟨a, e1, n, ow⟩ := R.own hd'
      rw [hs] at e1
      cases e1
      cases ow with
      | lst e r =>
        refine ⟨_, _, rfl, e, r, fun F2 H2 st sb => st.keep _ _ e ?_⟩
        rintro (z | z)
        · have := hx i rfl
          rw [z] at this
          cases this
        · exact not_owns R (hx i rfl) hd' hs z
    · cases hd
end
theorem snd_ie {C : Cfg} {W : Exs} {a : E} {tg pa : Expr} (ha : PE X pa (rdO X.K C W a)) : PI X tg pa (rdI X.K C W (.e a)) := by
  refine (pi_sq ha).imp fun σ H Q ⟨F, env, R, o⟩ => ?_
  simp only [deni, ← deno_eq] at o
  refine ⟨F, env, R, o.bind.eqn.mono (fun ⟨x, env1⟩ ⟨eq, o⟩ v F1 H1 w1 o1 => ?_) fun _ h => h⟩
  obtain ⟨xs, h1, h2⟩ := OutM.pure (m := (do seqD (← val env1 x))) o exw_stuck
  obtain ⟨d, h3, h4⟩ := bind_ok h1
  have h2 : ∀ J F' H', Went X.K σ env F H env1 F' H' → xs.length ≤ sizeLine → WalksD X.K (WO (hideE a) env1 σ) F' H' xs J → Q J H' := h2
  have hx : ∀ i, x = .s i → i ∈ hideE a := by
    rintro i rfl
    cases hb : isB a with
    | true =>
      cases a <;> simp [isB] at hb
      rename_i j
      simp only [deno, opn] at eq
      have eq := noX_ok eq
      obtain ⟨d, _, e2⟩ := bind_ok eq
      have := ok_inj e2
      cases this
      exact List.mem_singleton_self _
    | false =>
      obtain ⟨d, hd⟩ := deno_v hb eq
      cases hd
  cases d <;> simp only [seqD] at h4 <;> try (cases h4; done)
  · have := ok_inj h4
    subst this
    obtain ⟨p, vs, rfl, e, r⟩ := (o1.opn w1.rel h3).tup'
    exact .inr ⟨p, vs, rfl, SqT.of (w1.rel.sub _ _ e), fun hz => h2 _ F1 H1 w1 (by rw [← r.length]; exact hz) (walks_tup e r)⟩
  · have := ok_inj h4
    subst this
    obtain ⟨p, vs, rfl, e, r, kp⟩ := opd_lst w1.rel o1 hx h3
    exact .inl ⟨p, vs, rfl, SqL.of e, fun hz => h2 _ F1 H1 w1 (by rw [← r.length]; exact hz) (walks_lst kp r)⟩
  · have := ok_inj h4
    subst this
    have g := o1.opn w1.rel h3
    cases g with
    | v g =>
      cases g with
      | scr e => exact .inl ⟨_, _, rfl, w1.rel.sub.sqL e, fun hz => h2 _ F1 H1 w1 (by simpa using hz) (walks_scr e)⟩
theorem upTo_get : ∀ (n : Nat) (lo : Int) (i : Nat) (d : D), (upTo lo n)[i]? = some d → i < n ∧ d = .int (lo + i)
  | 0, lo, i, d, h => by simp [upTo] at h
  | n + 1, lo, 0, d, h => by
    simp [upTo] at h
    exact ⟨by omega, by rw [← h]; simp⟩
  | n + 1, lo, i + 1, d, h => by
    simp only [upTo, List.getElem?_cons_succ] at h
    obtain ⟨h1, h2⟩ := upTo_get n (lo + 1) i d h
    refine ⟨by omega, ?_⟩
    rw [h2]
    congr 1
    omega
theorem upTo_len : ∀ (n : Nat) (lo : Int), (upTo lo n).length = n
  | 0, _ => rfl
  | n + 1, lo => by show (upTo (lo + 1) n).length + 1 = _; rw [upTo_len n]
theorem walks_rng {K : PySem.W.Frag} {F H : Hp} {O : Addr → Prop} (lo : Int) (n : Nat) : WalksD K O F H (upTo lo n) (Itr lo n) := by
  intro F2 H2 st sb
  refine ⟨by rw [upTo_len]; exact Nat.le_refl n, fun i d hd => ?_⟩
  obtain ⟨h1, rfl⟩ := upTo_get n lo i d hd
  refine ⟨h1, fun x H3 hy => ?_⟩
  obtain ⟨rfl, rfl⟩ := hy
  exact ⟨F2, Grow.refl sb, .int _⟩
theorem opns_len {K : PySem.W.Frag} {F H : Hp} : ∀ {vs : List V} {ds : List D}, Opns K F H vs ds → vs.length = ds.length
  | _, _, .nil => rfl
  | _, _, .cons _ r => by simp [opns_len r]
theorem opns_of {C : Cfg} {K : PySem.W.Frag} {F H : Hp} {σ : L2.St} {es : Es} {env env' : Env} {as : List Arg} {vs : List V} {ds : List D} (e : dens C es env = .ok (as, env')) (o : OpdsOk K F σ as vs) (g : Opns K F H vs ds) : ds.length = lenE es := by
  rw [← opns_len g, ← o.length, dens_len e]
theorem snd_irg1 {C : Cfg} {W : Exs} {es : Es} {tg pa : Expr} {p pos : Pos} (hl : lenE es = 1) (hg : Gl X "range") (hm : X.mg "range" = none) (hs : notStar pa = true) (hA : PA X [pa] (rdA X.K C W es)) : PI X tg (.Call (.Name "range" p) [pa] [] pos) (rdI X.K C W (.rg es)) := by
  refine (pi_range1 hg hm hA (by rw [star_cons hs]; rfl)).imp fun σ H Q ⟨F, env, R, o⟩ => ?_
  simp only [deni, ← deno_eq] at o
  refine rdA_eqn R (o.bind.mono (fun ⟨as, env1⟩ o eq vs F1 H1 w1 o1 => ?_) fun _ h => h)
  obtain ⟨xs, h1, h2⟩ := OutM.pure (m := (do rgF (← vals env1 as))) o exw_stuck
  obtain ⟨ds, h3, h4⟩ := bind_ok h1
  have h2 : ∀ J F' H', Went X.K σ env F H env1 F' H' → xs.length ≤ sizeLine → WalksD X.K (WO [] env1 σ) F' H' xs J → Q J H' := h2
  have g := o1.opns w1.rel h3
  have ln := opns_of eq o1 g
  rw [hl] at ln
  match ds, g, ln with
  | [d], .cons g .nil, _ =>
    cases d <;> simp only [rgF] at h4 <;> try (cases h4; done)
    obtain ⟨hz, e⟩ := ite_ok h4
    subst e
    have := g.int'
    subst this
    refine ⟨_, rfl, by omega, by omega, h2 _ F1 H1 w1 ?_ (walks_rng 0 _)⟩
    rw [upTo_len, sizeLine_eq]
    omega
theorem snd_irg2 {C : Cfg} {W : Exs} {es : Es} {tg pa pb : Expr} {p pos : Pos} (hl : lenE es = 2) (hg : Gl X "range") (hm : X.mg "range" = none) (hs : notStar pa = true) (hs2 : notStar pb = true) (hA : PA X [pa, pb] (rdA X.K C W es)) : PI X tg (.Call (.Name "range" p) [pa, pb] [] pos) (rdI X.K C W (.rg es)) := by
  refine (pi_range2 hg hm hA (by rw [star_cons hs, star_cons hs2]; rfl) (by rw [star_cons hs2]; rfl)).imp fun σ H Q ⟨F, env, R, o⟩ => ?_
  simp only [deni, ← deno_eq] at o
  refine rdA_eqn R (o.bind.mono (fun ⟨as, env1⟩ o eq vs F1 H1 w1 o1 => ?_) fun _ h => h)
  obtain ⟨xs, h1, h2⟩ := OutM.pure (m := (do rgF (← vals env1 as))) o exw_stuck
  obtain ⟨ds, h3, h4⟩ := bind_ok h1
  have h2 : ∀ J F' H', Went X.K σ env F H env1 F' H' → xs.length ≤ sizeLine → WalksD X.K (WO [] env1 σ) F' H' xs J → Q J H' := h2
  have g := o1.opns w1.rel h3
  have ln := opns_of eq o1 g
  rw [hl] at ln
  match ds, g, ln with
  | [d, e], .cons g (.cons g2 .nil), _ =>
    cases d <;> cases e <;> simp only [rgF] at h4 <;> try (cases h4; done)
    obtain ⟨hz, e⟩ := ite_ok h4
    subst e
    have := g.int'
    subst this
    have := g2.int'
    subst this
    refine ⟨_, _, rfl, ⟨by omega, by omega, by omega, by omega⟩, h2 _ F1 H1 w1 ?_ (walks_rng _ _)⟩
    rw [upTo_len, sizeLine_eq]
    omega
/-- two lists or two tuples side by side -/
theorem zipL_get : ∀ {xs ys : List D} {i : Nat} {d : D}, (zipL xs ys)[i]? = some d → ∃ x y, xs[i]? = some x ∧ ys[i]? = some y ∧ d = .tup [x, y]
  | [], _, _, _, h => by simp [zipL] at h
  | _ :: _, [], _, _, h => by simp [zipL] at h
  | x :: xs, y :: ys, 0, d, h => by
    simp [zipL] at h
    exact ⟨x, y, rfl, rfl, h.symm⟩
  | x :: xs, y :: ys, i + 1, d, h => by
    simp only [zipL, List.getElem?_cons_succ] at h ⊢
    exact zipL_get h
theorem zipL_len : ∀ {xs ys : List D}, (zipL xs ys).length ≤ xs.length ∧ (xs.length ≤ (zipL xs ys).length ∨ ys.length ≤ (zipL xs ys).length)
  | [], ys => by simp [zipL]
  | x :: xs, [] => by simp [zipL]
  | x :: xs, y :: ys => by
    have := zipL_len (xs := xs) (ys := ys)
    simp only [zipL, List.length_cons]
    omega
theorem walks_zip {K : PySem.W.Frag} {F H : Hp} {O : Addr → Prop} {a b : Addr} {vs us : List V} {xs ys : List D} (h1 : ∀ F2 H2, Step O F H F2 H2 → Sub F2 H2 → H2 a = some (.lst vs)) (h2 : ∀ F2 H2, Step O F H F2 H2 → Sub F2 H2 → H2 b = some (.lst us)) (r1 : Reps K F vs xs) (r2 : Reps K F us ys) :
    WalksD K O F H (zipL xs ys) (Itz K a b) := by
  intro F2 H2 st sb
  have e1 := h1 F2 H2 st sb
  have e2 := h2 F2 H2 st sb
  refine ⟨⟨vs, us, SqL.of e1, SqL.of e2, by rw [r1.length, r2.length]; exact zipL_len.2⟩, fun i d hd => ?_⟩
  obtain ⟨x, y, hx, hy, rfl⟩ := zipL_get hd
  obtain ⟨v, hv, rv⟩ := r1.get hx
  obtain ⟨u, hu, ru⟩ := r2.get hy
  refine ⟨⟨vs, us, v, u, SqL.of e1, SqL.of e2, hv, hu⟩, fun z H3 hz => ?_⟩
  obtain ⟨T, x', y', rfl, hT, rfl, q1, q2⟩ := hz
  have q1 := q1 _ (SqL.of e1)
  have q2 := q2 _ (SqL.of e2)
  rw [hv] at q1
  rw [hu] at q2
  cases q1
  cases q2
  have g := Grow.new (o := .tup [v, u]) sb hT
  exact ⟨_, g, .tup upd_same (.cons ((rv.mono st.mono).mono g.f) (.cons ((ru.mono st.mono).mono g.f) .nil))⟩
theorem walks_zipT {K : PySem.W.Frag} {F H : Hp} {O : Addr → Prop} {a b : Addr} {vs us : List V} {xs ys : List D} (h1 : F a = some (.tup vs)) (h2 : F b = some (.tup us)) (r1 : Reps K F vs xs) (r2 : Reps K F us ys) :
    WalksD K O F H (zipL xs ys) (RZ.ItzT K a b) := by
  intro F2 H2 st sb
  have e1 := sb _ _ (st.mono _ _ h1)
  have e2 := sb _ _ (st.mono _ _ h2)
  refine ⟨⟨vs, us, SqT.of e1, SqT.of e2, by rw [r1.length, r2.length]; exact zipL_len.2⟩, fun i d hd => ?_⟩
  obtain ⟨x, y, hx, hy, rfl⟩ := zipL_get hd
  obtain ⟨v, hv, rv⟩ := r1.get hx
  obtain ⟨u, hu, ru⟩ := r2.get hy
  refine ⟨⟨vs, us, v, u, SqT.of e1, SqT.of e2, hv, hu⟩, fun z H3 hz => ?_⟩
  obtain ⟨T, x', y', rfl, hT, rfl, q1, q2⟩ := hz
  have q1 := q1 _ (SqT.of e1)
  have q2 := q2 _ (SqT.of e2)
  rw [hv] at q1
  rw [hu] at q2
  cases q1
  cases q2
  have g := Grow.new (o := .tup [v, u]) sb hT
  exact ⟨_, g, .tup upd_same (.cons ((rv.mono st.mono).mono g.f) (.cons ((ru.mono st.mono).mono g.f) .nil))⟩
theorem hides {C : Cfg} {a : E} {env env' : Env} {x : Arg} (eq : deno C a env = .ok (x, env')) : ∀ i, x = .s i → i ∈ hideE a := by
  rintro i rfl
  cases hb : isB a with
  | true =>
    cases a <;> simp [isB] at hb
    rename_i j
    simp only [deno, opn] at eq
    have eq := noX_ok eq
    obtain ⟨d, _, e2⟩ := bind_ok eq
    have := ok_inj e2
    cases this
    exact List.mem_singleton_self _
  | false =>
    obtain ⟨d, hd⟩ := deno_v hb eq
    cases hd
theorem snd_izip {C : Cfg} {W : Exs} {a b : E} {tg : List Expr} {kk : Nat} {pa pb : Expr} {p pos tpos : Pos} (hg : Gl X "zip") (hm : X.mg "zip" = none) (hs : notStar pa = true) (hs2 : notStar pb = true) (ha : PE X pa (rdO X.K C W a)) (hb : PE X pb (rdO X.K C W b)) :
    PI X (.Tuple tg kk tpos) (.Call (.Name "zip" p) [pa, pb] [] pos) (rdI X.K C W (.zip a b)) := by
  have hA : PA X [pa, pb] (rdA X.K C W (.cons a (.cons b .nil))) := snd_cons ha (snd_cons hb snd_nil hs2) hs
  refine (RZ.pi_zipA hg hm hA (star_cons hs) (star_any (es := [pb]) (by rw [List.all_cons, hs2]; rfl))).imp fun σ H Q ⟨F, env, R, o⟩ => ?_
  simp only [deni, ← deno_eq] at o
  refine ⟨F, env, R, ?_⟩
  simp only [dens, ← deno_eq]
  cases e1 : deno C a env with
  | error e => rw [e1] at o; exact o
  | ok p1 =>
    obtain ⟨x, env1⟩ := p1
    rw [e1] at o
    have o : OutM (deno C b env1 >>= fun (q : Arg × Env) => op2 zipF q.2 x q.1 >>= fun r => (.ok (r, q.2) : M (List D × Env))) _ _ := o
    cases e2 : deno C b env1 with
    | error e =>
      rw [e2] at o
      simp only [bind, Except.bind, e2]
      exact o
    | ok p2 =>
      obtain ⟨y, env2⟩ := p2
      rw [e2] at o
      simp only [bind, Except.bind, e2]
      obtain ⟨r, h1, h2⟩ := OutM.pure (m := (do zipF (← val env2 x) (← val env2 y))) o exw_stuck
      obtain ⟨dx, h3, h4⟩ := bind_ok h1
      obtain ⟨dy, h5, h6⟩ := bind_ok h4
      have h2 : ∀ J F' H', Went X.K σ env F H env2 F' H' → r.length ≤ sizeLine → WalksD X.K (WO (hideE a ++ hideE b) env2 σ) F' H' r J → Q J H' := h2
      intro vs F1 H1 w1 o1
      cases o1 with
      | cons ox o1 =>
        cases o1 with
        | cons oy o1 =>
          cases o1
          have gx := ox.opn w1.rel h3
          have gy := oy.opn w1.rel h5
          cases dx <;> cases dy <;> simp only [zipF] at h6 <;> try (cases h6; done)
          · obtain ⟨hz, e6⟩ := ite_ok h6
            subst e6
            obtain ⟨p, vs, rfl, e, r⟩ := gx.tup'
            obtain ⟨p', us, rfl, e', r'⟩ := gy.tup'
            refine ⟨_, _, _, _, rfl, .inr ⟨SqT.of (w1.rel.sub _ _ e), SqT.of (w1.rel.sub _ _ e'), ?_⟩⟩
            exact h2 _ F1 H1 w1 (Nat.le_trans zipL_len.1 (by rw [← sz_eq]; exact hz)) (walks_zipT e e' r r')
          · obtain ⟨hz, e6⟩ := ite_ok h6
            subst e6
            obtain ⟨p, vs, rfl, e, r, kp⟩ := opd_lst (is := hideE a ++ hideE b) w1.rel ox (fun i hi => List.mem_append_left _ (hides e1 i hi)) h3
            obtain ⟨p', us, rfl, e', r', kp'⟩ := opd_lst (is := hideE a ++ hideE b) w1.rel oy (fun i hi => List.mem_append_right _ (hides e2 i hi)) h5
            refine ⟨_, _, _, _, rfl, .inl ⟨SqL.of e, SqL.of e', ?_⟩⟩
            exact h2 _ F1 H1 w1 (Nat.le_trans zipL_len.1 (by rw [← sz_eq]; exact hz)) (walks_zip kp kp' r r')
/-- list(range(..)): a new list of ints -/
theorem lrg_fin {C : Cfg} {W : Exs} {es : Es} {env env1 : Env} {σ : L2.St} {F H F1 H1 : Hp} {Q : VK} {as : List Arg} {ds xs : List D} {a b : Int} (w1 : Went X.K σ env F H env1 F1 H1) (hx : xs = upTo a (b - a).toNat) (h2 : ∀ v F' H', Went X.K σ env F H env1 F' H' → NewOk X.K F' H H' v (.lst xs) → Q v H') :
    ∀ q, H1 q = none → Q (.ref q) (upd H1 q (.lst (rgV a b))) := by
  intro p hp
  subst hx
  exact h2 _ F1 _ (w1.trans (Went.push w1.rel hp)) ⟨p, rfl, none_sub w1.rel.sub hp, w1.step.dom p hp, .lst upd_same (rgV_upTo a b)⟩
theorem snd_lrg1 {C : Cfg} {W : Exs} {a : E} {pa : Expr} {p p2 pos pos2 : Pos} (hc : X.calm = true) (hg : Gl X "range") (hm : X.mg "range" = none) (hg2 : Gl X "list") (hm2 : X.mg "list" = none) (hs : notStar pa = true) (ha : PE X pa (rdO X.K C W a)) :
    PE X (.Call (.Name "list" p2) [.Call (.Name "range" p) [pa] [] pos] [] pos2) (rdR X.K C W true (.lrg (.cons a .nil))) := by
  refine (pe_listRg hc hg2 hm2 (prg_1 hg hm ha (star_cons hs))).imp fun σ H Q ⟨F, env, R, o⟩ => ?_
  simp only [den, dens, ← deno_eq] at o
  refine ⟨F, env, R, ?_⟩
  cases e1 : deno C a env with
  | error er => rw [e1] at o; exact o
  | ok q =>
    obtain ⟨x, env1⟩ := q
    rw [e1] at o
    intro v F1 H1 w1 o1
    have o : OutM (opL rgF env1 [x] >>= fun r => (.ok (.lst r, env1) : M (D × Env))) _ _ := o
    obtain ⟨xs, h1, h2⟩ := OutM.pure o exw_stuck
    obtain ⟨ds, h3, h4⟩ := bind_ok h1
    obtain ⟨d, h5, h6⟩ := bind_ok h3
    have := ok_inj h6
    subst this
    have h2 : ∀ v F' H', Went X.K σ env F H env1 F' H' → NewOk X.K F' H H' v (.lst xs) → Q v H' := h2
    cases d <;> simp only [rgF] at h4 <;> try (cases h4; done)
    obtain ⟨hz, e⟩ := ite_ok h4
    have := (o1.opn w1.rel h5).int'
    subst this
    refine ⟨_, rfl, ⟨by omega, by omega, by omega, by omega, by omega⟩, lrg_fin (es := .nil) (C := C) (W := W) (as := []) (ds := []) w1 ?_ h2⟩
    rw [← e, Int.sub_zero]
theorem snd_lrg2 {C : Cfg} {W : Exs} {a b : E} {pa pb : Expr} {p p2 pos pos2 : Pos} (hc : X.calm = true) (hg : Gl X "range") (hm : X.mg "range" = none) (hg2 : Gl X "list") (hm2 : X.mg "list" = none) (hs : notStar pa = true) (hs2 : notStar pb = true) (ha : PE X pa (rdO X.K C W a)) (hb : PE X pb (rdO X.K C W b)) :
    PE X (.Call (.Name "list" p2) [.Call (.Name "range" p) [pa, pb] [] pos] [] pos2) (rdR X.K C W true (.lrg (.cons a (.cons b .nil)))) := by
  refine (pe_listRg hc hg2 hm2 (prg_2 hg hm ha hb (star_cons hs) (star_cons hs2) (star_any (es := [pb]) (by rw [List.all_cons, hs2]; rfl)))).imp fun σ H Q ⟨F, env, R, o⟩ => ?_
  simp only [den, dens, ← deno_eq] at o
  refine ⟨F, env, R, ?_⟩
  cases e1 : deno C a env with
  | error er => rw [e1] at o; exact o
  | ok q =>
    obtain ⟨x, env1⟩ := q
    rw [e1] at o
    intro v F1 H1 w1 o1
    refine ⟨F1, env1, w1.rel, ?_⟩
    cases e2 : deno C b env1 with
    | error er =>
      simp only [bind, Except.bind, e2] at o
      exact EXW.on w1 _ o
    | ok q =>
      obtain ⟨y, env2⟩ := q
      simp only [bind, Except.bind, e2] at o
      intro u F2 H2 w2 o2
      have o : OutM (opL rgF env2 [x, y] >>= fun r => (.ok (.lst r, env2) : M (D × Env))) _ _ := o
      obtain ⟨xs, h1, h2⟩ := OutM.pure o exw_stuck
      obtain ⟨ds, h3, h4⟩ := bind_ok h1
      obtain ⟨d, h5, h6⟩ := bind_ok h3
      obtain ⟨ds2, h7, h8⟩ := bind_ok h6
      obtain ⟨d2, h9, h10⟩ := bind_ok h7
      have := ok_inj h10
      subst this
      have := ok_inj h8
      subst this
      have h2 : ∀ v F' H', Went X.K σ env F H env2 F' H' → NewOk X.K F' H H' v (.lst xs) → Q v H' := h2
      cases d <;> cases d2 <;> simp only [rgF] at h4 <;> try (cases h4; done)
      obtain ⟨hz, e⟩ := ite_ok h4
      have := ((o1.mono w2.step.mono).opn w2.rel h5).int'
      subst this
      have := (o2.opn w2.rel h9).int'
      subst this
      exact ⟨_, _, rfl, rfl, ⟨by omega, by omega, by omega, by omega, by omega⟩, lrg_fin (es := .nil) (C := C) (W := W) (as := []) (ds := []) (w1.trans w2) e.symm h2⟩
end
end L2.DN

/-! DenG: list comprehensions -/
namespace L2.DN
open PySem PySem.Spec PyProof.Rows L2
def E0W (cls : Nat → Addr) : Exs := ⟨cls, fun _ _ _ => False⟩
section
variable {K : PySem.W.Frag} {F F' H H' F1 H1 : Hp} {O : Addr → Prop} {env env' : Env} {σ σ' : L2.St} {own : List Nat} {L : Addr}
theorem upd_dom {o : HO} {a : Addr} (e : upd H L o a = none) : H a = none := by
  by_cases ha : a = L
  · subst ha; rw [upd_same] at e; cases e
  · rw [upd_ne ha] at e; exact e
theorem wipeσ_get (σ : L2.St) (j : Nat) : ∀ own : List Nat, (L2.wipe σ own)[j]? = if j ∈ own ∧ j < σ.length then some none else σ[j]?
  | [] => by simp [L2.wipe]
  | v :: vs => by
    show ((L2.wipe σ vs).set v none)[j]? = _
    rw [List.getElem?_set, L2.wipe_length, wipeσ_get σ j vs]
    by_cases hv : v = j
    · subst hv
      by_cases hl : v < σ.length
      · simp [hl]
      · simp [hl]
    · rw [if_neg hv]
      have : (j ∈ v :: vs) ↔ j ∈ vs := by simp [Ne.symm hv]
      simp only [this]
theorem wipeσ_eq (hl : σ'.length = σ.length) (h : ∀ j, j ∉ own → σ'[j]? = σ[j]?) : L2.wipe σ' own = L2.wipe σ own := by
  apply List.ext_getElem?
  intro j
  rw [wipeσ_get, wipeσ_get, hl]
  by_cases hj : j ∈ own
  · by_cases h2 : j < σ.length
    · simp [hj, h2]
    · have a : σ'[j]? = none := List.getElem?_eq_none (by omega)
      have b : σ[j]? = none := List.getElem?_eq_none (by omega)
      simp [hj, h2, a, b]
  · simp [hj, h j hj]
theorem Rel.swap (R : Rel K F env σ H) (hl : σ'.length = σ.length) (h : ∀ j, env.getD j .nil ≠ .nil → σ'[j]? = σ[j]?) : Rel K F env σ' H := by
  refine ⟨R.sub, R.len.trans hl.symm, fun j => ?_, fun i j d e a h1 h2 e1 e2 => ?_⟩
  · have hs := R.slot j
    by_cases hn : env.getD j .nil = .nil
    · rw [hn]; trivial
    · rw [h j hn]; exact hs
  · rw [h i (by rw [h1]; exact fun z => nomatch z)] at e1
    rw [h j (by rw [h2]; exact fun z => nomatch z)] at e2
    exact R.one _ _ _ _ _ h1 h2 e1 e2
theorem Owns.swap {a : Addr} (o : Owns env σ' a) (h : ∀ j, env.getD j .nil ≠ .nil → σ'[j]? = σ[j]?) : Owns env σ a := by
  obtain ⟨j, d, h1, h2⟩ := o
  exact ⟨j, d, h1, by rw [← h j (by rw [h1]; exact fun z => nomatch z)]; exact h2⟩
theorem wipe_nil {is : List Nat} {j : Nat} (h : (wipe env is).getD j .nil ≠ .nil) : j ∉ is ∧ (wipe env is).getD j .nil = env.getD j .nil := by
  rw [getD_wipe] at h ⊢
  split at h
  · exact absurd rfl h
  · rename_i hj
    exact ⟨hj, by rw [if_neg hj]⟩
/-- between two turns of a block's loop -/
structure Mid (K : PySem.W.Frag) (σ : L2.St) (O : Addr → Prop) (own : List Nat) (F1 H1 : Hp) (env : Env) (F H : Hp) : Prop where
  step : Step O F1 H1 F H
  rel : Rel K F (wipe env own) (L2.wipe σ own) H
  own : ∀ a, Owns (wipe env own) (L2.wipe σ own) a → O a
theorem Mid.grow (m : Mid K σ O own F1 H1 env F H) (hO : ∀ a, O a → ∃ o, H1 a = some o) (g : Grow F H F' H') : Mid K σ O own F1 H1 env F' H' :=
  ⟨m.step.trans (O' := O) g.step (fun a h => .inl h), m.rel.grow g, m.own⟩
theorem Mid.back {t : T} {env1 env2 : Env} {σ2 : L2.St} (m : Mid K σ O own F1 H1 env F H) (ht : ∀ i ∈ tix t, i ∈ own) (p : Put K F H (wipe env own) (L2.wipe σ own) env1 σ2 (tix t)) (w : Went K σ2 env1 F H env2 F' H') : Mid K σ O own F1 H1 env2 F' H' := by
  have hl : (L2.wipe σ own).length = σ2.length := by rw [← m.rel.len, ← p.rel.len, p.len]
  have hσ : ∀ j, (wipe env2 own).getD j .nil ≠ .nil → (L2.wipe σ own)[j]? = σ2[j]? := fun j h => by
    have := (wipe_nil h).1
    exact (p.out j fun z => this (ht j z)).symm
  refine ⟨m.step.trans w.step fun a h => .inl (m.own a (p.own a h)), (w.rel.wipe own).swap hl hσ, fun a h => ?_⟩
  exact m.own a (p.own a (w.own a (Owns.wipe (h.swap hσ))))
theorem Mid.store {t : T} {env1 : Env} {σ2 : L2.St} (m : Mid K σ O own F1 H1 env F H) (ht : ∀ i ∈ tix t, i ∈ own) (p : Put K F H (wipe env own) (L2.wipe σ own) env1 σ2 (tix t)) : L2.wipe σ2 own = L2.wipe σ own := by
  have hl : σ2.length = (L2.wipe σ own).length := by rw [← m.rel.len, ← p.rel.len, p.len]
  have e : L2.wipe σ2 own = L2.wipe (L2.wipe σ own) own := wipeσ_eq hl fun j hj => p.out j fun z => hj (ht j z)
  rw [e]
  apply List.ext_getElem?
  intro j
  rw [wipeσ_get, wipeσ_get, L2.wipe_length]
  split <;> simp_all
/-- the new list grows -/
theorem Mid.app {o o' : HO} (m : Mid K σ O own F1 H1 env F H) (hO : ∀ a, O a → ∃ o, H1 a = some o) (h1 : H1 L = none) (hF : F L = none) : Mid K σ O own F1 H1 env F (upd H L o') := by
  have ne : ∀ {a o}, H1 a = some o → a ≠ L := fun e z => by rw [z, h1] at e; cases e
  refine ⟨⟨fun a o e n => by rw [upd_ne (ne e)]; exact m.step.keep a o e n, m.step.mono, m.step.fr, fun a e => m.step.dom a (upd_dom e)⟩, ⟨fun a o e => ?_, m.rel.len, fun j => ?_, m.rel.one⟩, m.own⟩
  · have : a ≠ L := fun z => by rw [z, hF] at e; cases e
    rw [upd_ne this]
    exact m.rel.sub a o e
  · have hs := m.rel.slot j
    generalize hj : (DN.wipe env own).getD j .nil = s at hs
    cases s with
    | nil => trivial
    | v d => exact hs
    | o d =>
      obtain ⟨a, e, n, ow⟩ := hs
      obtain ⟨o, ho⟩ := hO a (m.own a ⟨j, d, hj, e⟩)
      exact ⟨a, e, n, ow.at (Sub.refl _) (upd_ne (ne ho))⟩
theorem wipe_app (env : Env) (js : List Nat) : ∀ is : List Nat, wipe env (is ++ js) = wipe (wipe env js) is
  | [] => rfl
  | i :: is => by show (wipe env (is ++ js)).set i .nil = (wipe (wipe env js) is).set i .nil; rw [wipe_app env js is]
/-- a block's start -/
theorem Mid.start {is : List Nat} (R : Rel K F env σ H) (h1 : H L = none) : Mid K σ (Owns (wipe env (own ++ is)) σ) own F H (wipe env is) F (upd H L (.lst [])) := by
  have R2 : Rel K F (wipe env (own ++ is)) (L2.wipe σ own) H := by
    refine (R.wipe _).swap (L2.wipe_length _ _) fun j h => ?_
    have hj := (wipe_nil h).1
    exact L2.wipe_out fun z => hj (List.mem_append_left _ z)
  have m : Mid K σ (Owns (wipe env (own ++ is)) σ) own F H (wipe env is) F H := by
    refine ⟨Step.refl, by rw [← wipe_app]; exact R2, fun a h => ?_⟩
    rw [← wipe_app] at h
    refine h.swap fun j h => ?_
    have hj := (wipe_nil h).1
    exact L2.wipe_out fun z => hj (List.mem_append_left _ z)
  refine m.app (o := .lst []) (fun a h => owns_some (R.wipe _) h) h1 ?_
  cases q : F L with
  | none => rfl
  | some o => rw [R.sub _ _ q] at h1; cases h1
theorem getD_unwipe (old env : Env) (j : Nat) : ∀ is : List Nat, (unwipe old env is).getD j .nil = if j ∈ is ∧ j < env.length then old.getD j .nil else env.getD j .nil
  | [] => by simp [unwipe]
  | i :: is => by
    have hl : ∀ is : List Nat, (unwipe old env is).length = env.length := fun is => by
      induction is with
      | nil => rfl
      | cons i is ih => show ((unwipe old env is).set i _).length = _; rw [List.length_set, ih]
    show ((unwipe old env is).set i (old.getD i .nil)).getD j .nil = _
    rw [getD_set, hl, getD_unwipe old env j is]
    by_cases h : i = j
    · subst h
      by_cases h2 : i < env.length <;> simp [h2]
    · rw [if_neg (fun z => h z.1)]
      have : (j ∈ i :: is) ↔ j ∈ is := by simp [Ne.symm h]
      simp only [this]
theorem unwipe_len (old env : Env) : ∀ is : List Nat, (unwipe old env is).length = env.length
  | [] => rfl
  | i :: is => by show ((unwipe old env is).set i _).length = _; rw [List.length_set, unwipe_len old env is]
/-- behind a block: the hidden slots are back -/
theorem Mid.done {is : List Nat} (R : Rel K F1 env σ H1) (m : Mid K σ (Owns (wipe env (own ++ is)) σ) own F1 H1 env' F H) : Went K σ env F1 H1 (unwipe env env' (own ++ is)) F H := by
  have len : env'.length = env.length := by
    have := m.rel.len
    rw [wipe_len, L2.wipe_length] at this
    rw [this, R.len]
  have lt : ∀ {j s}, env.getD j .nil = s → s ≠ .nil → j < env'.length := fun h hs => by rw [len]; exact getD_lt h hs
  -- an own slot of old keeps
  have old : ∀ {j d}, j ∈ own ++ is → env.getD j .nil = .o d → ∃ a, σ[j]? = some (some (.ref a)) ∧ F1 a = none ∧ F a = none ∧ Own K F H a d ∧ ¬ Owns (wipe env (own ++ is)) σ a := fun {j d} hj h => by
    obtain ⟨a, e, n, ow⟩ := R.own h
    have no := not_owns R hj h e
    obtain ⟨o, ho⟩ := ow.some
    refine ⟨a, e, n, ?_, ow.at m.step.mono ((m.step.keep a o ho no).trans ho.symm), no⟩
    cases q : F a with
    | none => rfl
    | some u =>
      rcases m.step.fr a u q with z | z | z
      · rw [n] at z; cases z
      · exact (ow.noOwn z).elim
      · exact absurd z no
  have new : ∀ {j s}, j ∉ own ++ is → env'.getD j .nil = s → (wipe env' own).getD j .nil = s ∧ (L2.wipe σ own)[j]? = σ[j]? := fun {j s} hj h => by
    have h1 : j ∉ own := fun z => hj (List.mem_append_left _ z)
    exact ⟨by rw [getD_wipe, if_neg h1]; exact h, L2.wipe_out h1⟩
  have pick : ∀ {j s}, (unwipe env env' (own ++ is)).getD j .nil = s → s ≠ .nil → (j ∈ own ++ is ∧ env.getD j .nil = s) ∨ (j ∉ own ++ is ∧ env'.getD j .nil = s) := fun {j s} h hs => by
    rw [getD_unwipe] at h
    by_cases hj : j ∈ own ++ is
    · left
      refine ⟨hj, ?_⟩
      split at h
      · exact h
      · rename_i hn
        exfalso
        apply hs
        rw [← h]
        have : ¬ j < env'.length := fun z => hn ⟨hj, z⟩
        simp [List.getD_eq_getElem?_getD, Nat.le_of_not_lt this]
    · right
      rw [if_neg (fun z => hj z.1)] at h
      exact ⟨hj, h⟩
  have owns : ∀ {j d a}, (unwipe env env' (own ++ is)).getD j .nil = .o d → σ[j]? = some (some (.ref a)) → (j ∈ own ++ is ∧ env.getD j .nil = .o d ∧ ¬ Owns (wipe env (own ++ is)) σ a) ∨ ((wipe env' own).getD j .nil = .o d ∧ (L2.wipe σ own)[j]? = some (some (.ref a)) ∧ Owns (wipe env (own ++ is)) σ a) := fun {j d a} h e => by
    rcases pick h (fun z => nomatch z) with ⟨hj, h⟩ | ⟨hj, h⟩
    · exact .inl ⟨hj, h, not_owns R hj h e⟩
    · obtain ⟨h1, h2⟩ := new hj h
      exact .inr ⟨h1, h2.trans e, m.own a ⟨j, d, h1, h2.trans e⟩⟩
  refine ⟨⟨m.rel.sub, by rw [unwipe_len, len, R.len], fun j => ?_, fun i j d e a h1 h2 e1 e2 => ?_⟩, m.step.weak fun a h => h.wipe, fun a ⟨j, d, h, e⟩ => ?_⟩
  · generalize hs : (unwipe env env' (own ++ is)).getD j .nil = s
    cases s with
    | nil => trivial
    | v d =>
      rcases pick hs (fun z => nomatch z) with ⟨hj, h⟩ | ⟨hj, h⟩
      · obtain ⟨u, e, r⟩ := R.val h
        exact ⟨u, e, r.mono m.step.mono⟩
      · obtain ⟨h1, h2⟩ := new hj h
        obtain ⟨u, e, r⟩ := m.rel.val h1
        exact ⟨u, h2.symm.trans e, r⟩
    | o d =>
      rcases pick hs (fun z => nomatch z) with ⟨hj, h⟩ | ⟨hj, h⟩
      · obtain ⟨a, e, _, n, ow, _⟩ := old hj h
        exact ⟨a, e, n, ow⟩
      · obtain ⟨h1, h2⟩ := new hj h
        obtain ⟨a, e, n, ow⟩ := m.rel.own h1
        exact ⟨a, h2.symm.trans e, n, ow⟩
  · rcases owns h1 e1 with ⟨j1, g1, n1⟩ | ⟨g1, s1, o1⟩
    · rcases owns h2 e2 with ⟨j2, g2, n2⟩ | ⟨g2, s2, o2⟩
      · exact R.one _ _ _ _ _ g1 g2 e1 e2
      · exact absurd o2 n1
    · rcases owns h2 e2 with ⟨j2, g2, n2⟩ | ⟨g2, s2, o2⟩
      · exact absurd o1 n2
      · exact m.rel.one _ _ _ _ _ g1 g2 s1 s2
  · rcases owns h e with ⟨j1, g1, n1⟩ | ⟨g1, s1, o1⟩
    · exact ⟨j, d, g1, e⟩
    · exact Owns.wipe o1
end
def itemF (C : Cfg) (own : List Nat) (t : T) (ifs : Es) (e : E) (x : D) (env : Env) : M (List D × Env) := noX (asgT t x (wipe env own)) >>= fun env => denIfs C ifs env >>= fun p => if p.1 = true then (den C e p.2 >>= fun q => .ok ([q.1], q.2)) else .ok ([], p.2)
section
variable {X : Cx} {C : Cfg} {W : Exs}
theorem den_comp {own : List Nat} {t : T} {it : It} {ifs : Es} {e : E} {env : Env} : den C (.comp own t it ifs e) env = (deni C it env >>= fun p => noX (compL (itemF C own t ifs e) p.1 (wipe p.2 (hide it))) >>= fun q => .ok (.lst q.1, unwipe p.2 q.2 (own ++ hide it))) := by
  simp only [den]
  rfl
theorem compL_cons {f : D → Env → M (List D × Env)} {x : D} {r : List D} {env : Env} {out : List D × Env} (h : compL f (x :: r) env = .ok out) : ∃ a env1 b env2, f x env = .ok (a, env1) ∧ compL f r env1 = .ok (b, env2) ∧ out = (a ++ b, env2) := by
  unfold compL at h
  obtain ⟨⟨a, env1⟩, h1, h2⟩ := bind_ok h
  obtain ⟨⟨b, env2⟩, h3, h4⟩ := bind_ok h2
  exact ⟨a, env1, b, env2, h1, h3, (ok_inj h4).symm⟩
theorem OutM.of {α : Type} {m : M α} {a : α} {k : α → Prop} {ex : Er → Prop} (h : m = .ok a) (hk : k a) : OutM m k ex := by rw [h]; exact hk
theorem pts_ifs {ifs : Es} {pifs : List Expr} (h : (ifs = .nil ∧ pifs = []) ∨ ∃ c pc, ifs = .cons c .nil ∧ pifs = [pc] ∧ PT X pc (rdT X.K C W c)) : PTs X pifs (rdIf X.K C W ifs) := by
  rcases h with ⟨rfl, rfl⟩ | ⟨c, pc, rfl, rfl, h⟩
  · refine ⟨fun pins s σ H Q I ⟨F, env, R, o⟩ => pts_nil.run pins s σ H Q I ?_⟩
    simp only [denIfs, ← deno_eq] at o
    have o : ∀ F' H', Went X.K σ env F H env F' H' → Q true H' := o
    exact o F H (Went.refl R)
  · refine ⟨fun pins s σ H Q I ⟨F, env, R, o⟩ => (pts_one h).run pins s σ H Q I ⟨F, env, R, ?_⟩⟩
    have e : denIfs C (.cons c .nil) env = tru C c env := by
      simp only [denIfs, tru_bind, ← deno_eq]
      cases deno C c env with
      | error e => rfl
      | ok p =>
        show (op1 truthy p.2 p.1 >>= fun b => if b = true then (.ok (true, p.2) : M (Bool × Env)) else .ok (false, p.2)) = (op1 truthy p.2 p.1 >>= fun b => .ok (b, p.2))
        cases op1 truthy p.2 p.1 with
        | error e => rfl
        | ok b => cases b <;> rfl
    rw [e] at o
    exact o
/-- a turn of a block's loop: store, tests, the item -/
theorem turn_item {K : PySem.W.Frag} {F1 H1 F H : Hp} {O : Addr → Prop} {env env1 : Env} {σ : L2.St} {own : List Nat} {L : Addr} {t : T} {ifs : Es} {e : E} {v : V} {x : D} {a acc : List D} {vacc : List V} {cls : Nat → Addr} {Nx : Hp → Prop}
    (m : Mid K σ O own F1 H1 env F H) (hO : ∀ a, O a → ∃ o, H1 a = some o) (h1 : H1 L = none) (hF : F L = none) (hL : H L = some (.lst vacc)) (hr : Reps K F vacc acc) (ht : ∀ i ∈ tix t, i ∈ own) (rx : Rep K F v x) (hz : a ≠ [] → vacc.length < sizeLine)
    (hf : itemF C own t ifs e x env = .ok (a, env1))
    (hn : ∀ F' H' vacc', Mid K σ O own F1 H1 env1 F' H' → Sub F F' → (∀ a, H' a = none → H a = none) → F' L = none → H' L = some (.lst vacc') → Reps K F' vacc' (acc ++ a) → vacc'.length ≤ vacc.length + 1 → Nx H') :
    rdG K t v (L2.wipe σ own) H fun σ2 H2 => L2.wipe σ2 own = L2.wipe σ own ∧ rdIf K C (E0W cls) ifs σ2 H2 fun b H3 => if b = true then rdE K C (E0W cls) e σ2 H3 fun y H4 => ∃ acc, H4 L = some (.lst acc) ∧ acc.length < sizeLine ∧ Nx (upd H4 L (.lst (acc ++ [y]))) else Nx H3 := by
  unfold itemF at hf
  obtain ⟨env2, e1, hf⟩ := bind_ok hf
  have e1 := noX_ok e1
  obtain ⟨⟨b, env3⟩, e2, hf⟩ := bind_ok hf
  refine ⟨F, _, x, env2, m.rel, rx, e1, fun σ2 p => ⟨m.store ht p, F, env2, p.rel, OutM.of e2 fun F3 H3 w3 => ?_⟩⟩
  have nO : ¬ O L := fun z => by obtain ⟨o, ho⟩ := hO L z; rw [h1] at ho; cases ho
  have nOw : ∀ {ev : Env}, (∀ a, Owns ev σ2 a → Owns env2 σ2 a) → ¬ Owns ev σ2 L := fun f z => nO (m.own _ (p.own _ (f _ z)))
  have keepL : ∀ {ev F2 H2 ev' F3 H3}, Went K σ2 ev F2 H2 ev' F3 H3 → (∀ a, Owns ev σ2 a → Owns env2 σ2 a) → ∀ o, H2 L = some o → H3 L = some o := fun w f o ho => w.step.keep _ _ ho (nOw f)
  have noneL : ∀ {ev F2 H2 ev' F3 H3}, Went K σ2 ev F2 H2 ev' F3 H3 → (∀ a, Owns ev σ2 a → Owns env2 σ2 a) → ∀ o, H2 L = some (.lst o) → F2 L = none → F3 L = none := fun {ev F2 H2 ev' F3 H3} w f o ho n => by
    cases q : F3 L with
    | none => rfl
    | some u =>
      rcases w.step.fr L u q with z | z | z
      · rw [n] at z; cases z
      · exact (z.lst ho).elim
      · exact absurd z (nOw f)
  have hL3 := keepL w3 (fun _ h => h) _ hL
  have hF3 := noneL w3 (fun _ h => h) _ hL hF
  cases b with
  | false =>
    have := ok_inj hf
    cases this
    refine hn F3 H3 vacc (m.back ht p w3) w3.step.mono w3.step.dom hF3 hL3 ?_ (by omega)
    rw [List.append_nil]
    exact hr.mono w3.step.mono
  | true =>
    obtain ⟨⟨d, env4⟩, e3, hf⟩ := bind_ok hf
    have := ok_inj hf
    cases this
    refine ⟨F3, env3, w3.rel, OutM.of e3 fun y F4 H4 w4 ry => ?_⟩
    have hL4 := keepL w4 w3.own _ hL3
    have hF4 := noneL w4 w3.own _ hL3 hF3
    refine ⟨vacc, hL4, hz (by simp), hn F4 _ _ ((m.back ht p (w3.trans w4)).app (o := .lst vacc) hO h1 hF4) (w3.step.mono.trans w4.step.mono) (fun a e => w3.step.dom a (w4.step.dom a (upd_dom e))) hF4 upd_same ?_ ?_⟩
    · exact ((hr.mono w3.step.mono).mono w4.step.mono).append (.cons ry .nil)
    · simp
theorem comp_wp {K : PySem.W.Frag} {own : List Nat} {t : T} {it : It} {ifs : Es} {e : E} {σ : L2.St} {H : Hp} {Q : VK} (ht : ∀ i ∈ tix t, i ∈ own) (h : rdR K C W true (.comp own t it ifs e) σ H Q) :
    tLc (rdI K C W it) (rdG K t) (rdIf K C (E0W W.cls) ifs) (rdE K C (E0W W.cls) e) own σ H Q := by
  obtain ⟨F, env, R, o⟩ := h
  rw [den_comp] at o
  refine ⟨F, env, R, o.bind.mono (fun ⟨xs, env1⟩ o J F1 H1 w1 hz wk L hL => ?_) fun _ h => h⟩
  obtain ⟨⟨ys, env'⟩, q1, q2⟩ := OutM.pure o exw_stuck
  have hz : xs.length ≤ sizeLine := hz
  have q2 : ∀ v F' H', Went K σ env F H (unwipe env1 env' (own ++ hide it)) F' H' → NewOk K F' H H' v (.lst ys) → Q v H' := q2
  have hO : ∀ a, Owns (wipe env1 (own ++ hide it)) σ a → ∃ o, H1 a = some o := fun a h => owns_some (w1.rel.wipe _) h
  refine ⟨fun i m H => m = xs.length - i ∧ i ≤ xs.length ∧ ∃ ev F vacc acc rest, Mid K σ (Owns (wipe env1 (own ++ hide it)) σ) own F1 H1 ev F H ∧ F L = none ∧ H L = some (.lst vacc) ∧ Reps K F vacc acc ∧ vacc.length ≤ i ∧ compL (itemF C own t ifs e) (xs.drop i) ev = .ok (rest, env') ∧ acc ++ rest = ys,
    ⟨_, rfl, Nat.zero_le _, wipe env1 (hide it), F1, [], [], ys, Mid.start w1.rel hL, ?_, upd_same, .nil, Nat.le_refl _, q1, rfl⟩, ?_⟩
  · cases q : F1 L with
    | none => rfl
    | some o => rw [w1.rel.sub _ _ q] at hL; cases hL
  rintro i m H2 ⟨rfl, hi, ev, F2, vacc, acc, rest, md, hF2, hL2, hr, hl, hcl, rfl⟩
  have st : Step (Owns (wipe env1 (hide it)) σ) F1 H1 F2 H2 := md.step.weak fun a h => by rw [wipe_app] at h; exact h.wipe
  obtain ⟨wk1, wk2⟩ := wk F2 H2 (st.weak fun _ h => .inr h) md.rel.sub
  by_cases hlt : i < xs.length
  · right
    obtain ⟨g1, g2⟩ := wk2 i xs[i] (by simp [hlt])
    refine ⟨g1, fun H' => ∃ m', m' < xs.length - i ∧ (m' = xs.length - (i + 1) ∧ i + 1 ≤ xs.length ∧ ∃ ev F vacc acc' rest', Mid K σ (Owns (wipe env1 (own ++ hide it)) σ) own F1 H1 ev F H' ∧ F L = none ∧ H' L = some (.lst vacc) ∧ Reps K F vacc acc' ∧ vacc.length ≤ i + 1 ∧ compL (itemF C own t ifs e) (xs.drop (i + 1)) ev = .ok (rest', env') ∧ acc' ++ rest' = acc ++ rest), fun H' h => h, fun v H3 hy => ?_⟩
    obtain ⟨F3, g, rv⟩ := g2 v H3 hy
    rw [List.drop_eq_getElem_cons hlt] at hcl
    obtain ⟨a, ev1, b, ev2, c1, c2, c3⟩ := compL_cons hcl
    cases c3
    have hF3 : F3 L = none := by
      cases q : F3 L with
      | none => rfl
      | some u =>
        rcases g.fr L u q with z | z
        · rw [hF2] at z; cases z
        · exact (z.lst hL2).elim
    refine turn_item (md.grow hO g) hO hL hF3 (g.h _ _ hL2) (hr.mono g.f) ht rv (fun _ => by omega) c1 fun F' H' vacc' md' _ _ n' l' r' z' => ?_
    exact ⟨_, by omega, rfl, hlt, ev1, F', vacc', acc ++ a, b, md', n', l', r', by omega, c2, by rw [List.append_assoc]⟩
  · left
    have e : i = xs.length := by omega
    subst e
    rw [List.drop_length] at hcl
    have := ok_inj hcl
    cases this
    rw [List.append_nil] at q2
    refine ⟨wk1, ?_⟩
    exact q2 _ _ _ (w1.trans (Mid.done w1.rel md)) ⟨L, rfl, hF2, w1.step.dom L hL, .lst hL2 hr⟩
theorem snd_comp {own : List Nat} {ownp : List (Str × Nat)} {t : T} {it : It} {ifs : Es} {e : E} {elt tg iter : Expr} {pifs : List Expr} {scope : Scope} {pos : Pos} (hc : X.calm = true) (hN : X.N.Nodup) (hi : PI X tg iter (rdI X.K C W it)) (ok : BlkOk X.N X.env.scope scope ownp) (ho : ownp.map (·.2) = own) (ht : ∀ i ∈ tix t, i ∈ own)
    (h1 : ∀ (s : Shared) (H : Hp) (A : Addr) (cl : List (Str × Addr)) (fp : List Addr), PG (X.blk s H scope (compEnvC scope cl A X.env) fp) tg (rdG X.K t)) (h2 : ∀ (s : Shared) (H : Hp) (A : Addr) (cl : List (Str × Addr)) (fp : List Addr), PTs (X.blk s H scope (compEnvC scope cl A X.env) fp) pifs (rdIf X.K C (E0W W.cls) ifs))
    (h3 : ∀ (s : Shared) (H : Hp) (A : Addr) (cl : List (Str × Addr)) (fp : List Addr), PE (X.blk s H scope (compEnvC scope cl A X.env) fp) elt (rdE X.K C (E0W W.cls) e)) (hs : ∀ x, foldedSetIterable iter X.env x = pure x) :
    PE X (.ListComp elt [⟨tg, iter, pifs, 0⟩] scope pos) (rdR X.K C W true (.comp own t it ifs e)) := by
  subst ho
  exact (pe_lc hc hN hi ok h1 h2 h3 hs).imp fun σ H Q h => comp_wp ht h
end
end L2.DN

/-! DenH: own lists and dicts written; statements -/
namespace L2.DN
open PySem PySem.Spec PyProof.Rows L2

/-! ### o[i] = v -/
section
variable {K : PySem.W.Frag} {F H : Hp}
theorem Reps.set' {v : V} {d : D} (rv : Rep K F v d) : ∀ {vs : List V} {ds : List D}, Reps K F vs ds → ∀ j, Reps K F (vs.set j v) (ds.set j d)
  | _, _, .nil, j => by simpa using Reps.nil
  | _, _, .cons h r, 0 => .cons rv r
  | _, _, .cons h r, j + 1 => .cons h (Reps.set' rv r j)
theorem dsetL_k {k : Key} {v : V} {d : D} (rv : Rep K F v d) : ∀ {kvs : List (Key × V)} {ds r : List D}, dsetL (kvs.map fun p => keyD p.1) ds (keyD k) d = .ok r → Reps K F (kvs.map (·.2)) ds → Reps K F ((kvs.map fun kv => if kv.1 = k then (kv.1, v) else kv).map (·.2)) r
  | [], ds, r, h, g => by
    cases g
    have := ok_inj h
    subst this
    exact .nil
  | (k', v') :: kvs, ds, r, h, g => by
    cases g with
    | cons g1 g2 =>
      obtain ⟨e, h1, h2⟩ := bind_ok h
      obtain ⟨q, h3, h4⟩ := bind_ok h2
      have he := eqF_key (eqD_ok h1)
      have ih := dsetL_k rv h3 g2
      rw [← ok_inj h4, he]
      by_cases hk : k' = k
      · simp only [List.map_cons, hk, if_true, decide_true]
        exact .cons rv ih
      · simp only [List.map_cons, hk, if_false, decide_false]
        exact .cons g1 ih
theorem dsetL_t {k : List Key} {v : V} {d : D} (rv : Rep K F v d) : ∀ {kvs : List (List Key × V)} {ds r : List D}, dsetL (kvs.map fun p => .tup (p.1.map keyD)) ds (.tup (k.map keyD)) d = .ok r → Reps K F (kvs.map (·.2)) ds → Reps K F ((kvs.map fun kv => if kv.1 = k then (kv.1, v) else kv).map (·.2)) r
  | [], ds, r, h, g => by
    cases g
    have := ok_inj h
    subst this
    exact .nil
  | (k', v') :: kvs, ds, r, h, g => by
    cases g with
    | cons g1 g2 =>
      obtain ⟨e, h1, h2⟩ := bind_ok h
      obtain ⟨q, h3, h4⟩ := bind_ok h2
      have he := eqF_tkey (eqD_ok h1)
      have ih := dsetL_t rv h3 g2
      rw [← ok_inj h4, he]
      by_cases hk : k' = k
      · simp only [List.map_cons, hk, if_true, decide_true]
        exact .cons rv ih
      · simp only [List.map_cons, hk, if_false, decide_false]
        exact .cons g1 ih
theorem map_keys {κ : Type} [DecidableEq κ] {β : Type} (f : κ → β) (k : κ) (v : V) : ∀ kvs : List (κ × V), (kvs.map fun kv => if kv.1 = k then (kv.1, v) else kv).map (fun p => f p.1) = kvs.map fun p => f p.1
  | [] => rfl
  | p :: r => by
    rw [List.map_cons, List.map_cons, List.map_cons, map_keys f k v r]
    by_cases h : p.1 = k <;> simp [h]
theorem put_k {a : Addr} {kvs : List (Key × V)} {ks' ds ds' : List D} {k : Key} {v : V} {d : D} {ob : HO} (r : Reps K F (kvs.map (·.2)) ds) (rv : Rep K F v d) (h : dput (kvs.map fun p => keyD p.1) ds (keyD k) d = .ok (ks', ds')) (hob : ob = .dK (putK kvs k v)) : Own K F (upd H a ob) a (.dct ks' ds') := by
  subst hob
  unfold dput at h
  split at h
  · obtain ⟨b, h1, h2⟩ := bind_ok h
    have hb := inL_k h1
    subst hb
    rw [← valV_any] at h2
    cases hc : (kvs.any fun kv => decide (kv.1 = k)) with
    | true =>
      rw [hc, if_pos rfl] at h2
      obtain ⟨q, h3, h4⟩ := bind_ok h2
      have := ok_inj h4
      cases this
      have e : putK kvs k v = kvs.map (fun kv => if kv.1 = k then (kv.1, v) else kv) := by unfold putK; rw [if_pos hc]
      have := Own.dK (H := upd H a (.dK (putK kvs k v))) (a := a) (kvs := kvs.map (fun kv => if kv.1 = k then (kv.1, v) else kv)) (by rw [upd_same, e]) (dsetL_k rv h3 r)
      rw [map_keys keyD k v kvs] at this
      exact this
    | false =>
      rw [hc] at h2
      have := ok_inj h2
      cases this
      have e : putK kvs k v = kvs ++ [(k, v)] := by unfold putK; rw [hc]; rfl
      have := Own.dK (K := K) (F := F) (H := upd H a (.dK (putK kvs k v))) (a := a) (kvs := kvs ++ [(k, v)]) (ds := ds ++ [d]) (by rw [upd_same, e]) (by rw [List.map_append]; exact r.append (.cons rv .nil))
      rw [List.map_append] at this
      exact this
  · cases h
theorem put_t {a : Addr} {kvs : List (List Key × V)} {ks' ds ds' : List D} {k : List Key} {v : V} {d : D} {ob : HO} (r : Reps K F (kvs.map (·.2)) ds) (rv : Rep K F v d) (h : dput (kvs.map fun p => .tup (p.1.map keyD)) ds (.tup (k.map keyD)) d = .ok (ks', ds')) (hob : ob = .dT (putK kvs k v)) : Own K F (upd H a ob) a (.dct ks' ds') := by
  subst hob
  unfold dput at h
  split at h
  · obtain ⟨b, h1, h2⟩ := bind_ok h
    have hb := inL_t h1
    subst hb
    rw [← valV_any] at h2
    cases hc : (kvs.any fun kv => decide (kv.1 = k)) with
    | true =>
      rw [hc, if_pos rfl] at h2
      obtain ⟨q, h3, h4⟩ := bind_ok h2
      have := ok_inj h4
      cases this
      have e : putK kvs k v = kvs.map (fun kv => if kv.1 = k then (kv.1, v) else kv) := by unfold putK; rw [if_pos hc]
      have := Own.dT (H := upd H a (.dT (putK kvs k v))) (a := a) (kvs := kvs.map (fun kv => if kv.1 = k then (kv.1, v) else kv)) (by rw [upd_same, e]) (dsetL_t rv h3 r)
      rw [map_keys (fun k => D.tup (k.map keyD)) k v kvs] at this
      exact this
    | false =>
      rw [hc] at h2
      have := ok_inj h2
      cases this
      have e : putK kvs k v = kvs ++ [(k, v)] := by unfold putK; rw [hc]; rfl
      have := Own.dT (K := K) (F := F) (H := upd H a (.dT (putK kvs k v))) (a := a) (kvs := kvs ++ [(k, v)]) (ds := ds ++ [d]) (by rw [upd_same, e]) (by rw [List.map_append]; exact r.append (.cons rv .nil))
      rw [List.map_append] at this
      exact this
  · cases h
end
def rPut (K : PySem.W.Frag) : TSet := fun o i v H Q => ∃ F a d dk dv d', o = .ref a ∧ Sub F H ∧ F a = none ∧ Own K F H a d ∧ Rep K F i dk ∧ Rep K F v dv ∧ putD d dk dv = .ok d' ∧ ∀ ob, Own K F (upd H a ob) a d' → Q (upd H a ob)
theorem set_put {X : Cx} {k : Nat} (hr : Room k X.A) : PSet X (rPut X.K) := by
  intro pins s σ H o i v ov iv u Q I ro ri rv h
  obtain ⟨F, a, d, dk, dv, d', rfl, sF, nF, ow, rk, rd, hp, q⟩ := h
  cases ow with
  | @lst vs ds e r =>
    cases dk <;> simp only [putD] at hp <;> try (cases hp; done)
    rename_i n
    cases rk
    split at hp
    · rename_i j hj
      have := ok_inj hp
      subst this
      rw [place_ix, ← r.length] at hj
      exact set_list pins s σ H _ _ _ _ _ _ Q I ro ri rv ⟨a, vs, n, j, rfl, rfl, e, hj, q _ (.lst upd_same (Reps.set' rd r j))⟩
    · cases hp
  | @dK kvs ds e r =>
    simp only [putD] at hp
    split at hp
    · rename_i hl
      obtain ⟨⟨ks', vs'⟩, h1, h2⟩ := bind_ok hp
      have := ok_inj h2
      subst this
      have hz : kvs.length < sizeLine := by rw [← sz_eq]; simpa using hl
      have hfit : keyFits dk (kvs.map fun p => keyD p.1) = true := by
        unfold dput at h1
        split at h1
        · assumption
        · cases h1
      rcases fits_k hfit with ⟨k, rfl⟩ | ⟨rfl, ks, rfl⟩
      · have hy := Rep.keyOf rk
        subst hy
        exact set_dict (units1 hr) pins s σ H _ _ _ _ _ _ Q I ro ri rv ⟨a, _, rfl, DPut.k e hz, q _ (put_k r rd h1 rfl)⟩
      · obtain ⟨b, rfl, hb⟩ := Rep.tkey rk
        have hba : b ≠ a := fun z => by subst z; rw [hb] at nF; cases nF
        cases r
        have I' := retag (t' := s.toks) I e
        refine set_dict (units1 hr) pins _ σ (upd H a (.dT [])) _ _ _ _ _ _ Q I' ro ri rv ⟨a, _, rfl, DPut.t (kvs := []) (k := ks) upd_same (by rw [upd_ne hba]; exact sF _ _ hb) (by rw [sizeLine_eq]; decide), ?_⟩
        rw [upd_upd]
        exact q _ (put_t (kvs := []) .nil rd h1 rfl)
    · cases hp
  | @dT kvs ds e r =>
    simp only [putD] at hp
    split at hp
    · rename_i hl
      obtain ⟨⟨ks', vs'⟩, h1, h2⟩ := bind_ok hp
      have := ok_inj h2
      subst this
      have hz : kvs.length < sizeLine := by rw [← sz_eq]; simpa using hl
      have hfit : keyFits dk (kvs.map fun p => .tup (p.1.map keyD)) = true := by
        unfold dput at h1
        split at h1
        · assumption
        · cases h1
      rcases fits_t hfit with ⟨ks, rfl⟩ | ⟨rfl, k, rfl⟩
      · obtain ⟨b, rfl, hb⟩ := Rep.tkey rk
        exact set_dict (units1 hr) pins s σ H _ _ _ _ _ _ Q I ro ri rv ⟨a, _, rfl, DPut.t e (sF _ _ hb) hz, q _ (put_t r rd h1 rfl)⟩
      · have hy := Rep.keyOf rk
        subst hy
        cases r
        have I' := retagK (t' := s.toks) I e
        refine set_dict (units1 hr) pins _ σ (upd H a (.dK [])) _ _ _ _ _ _ Q I' ro ri rv ⟨a, _, rfl, DPut.k (kvs := []) (k := k) upd_same (by rw [sizeLine_eq]; decide), ?_⟩
        rw [upd_upd]
        exact q _ (put_k (kvs := []) .nil rd h1 rfl)
    · cases hp
end L2.DN

/-! DenI: statements -/
namespace L2.DN
open PySem PySem.Spec PyProof.Rows L2

structure WentS (K : PySem.W.Frag) (RO : List Nat) (σ : L2.St) (env : Env) (F H : Hp) (σ' : L2.St) (env' : Env) (F' H' : Hp) : Prop where
  rel : Rel K F' env' σ' H'
  step : Step (Owns env σ) F H F' H'
  own : ∀ a, Owns env' σ' a → Owns env σ a ∨ H a = none
  ro : ∀ j ∈ RO, σ'[j]? = σ[j]?
  len : σ'.length = σ.length
section
variable {K : PySem.W.Frag} {RO RO' : List Nat} {σ σ' σ'' : L2.St} {env env' env'' : Env} {F F' F'' H H' H'' : Hp} {nw : Bool} {W : Exs}
theorem WentS.refl (R : Rel K F env σ H) : WentS K RO σ env F H σ env F H := ⟨R, Step.refl, fun _ h => .inl h, fun _ _ => rfl, rfl⟩
theorem WentS.of (w : Went K σ env F H env' F' H') : WentS K RO σ env F H σ env' F' H' := ⟨w.rel, w.step, fun a h => .inl (w.own a h), fun _ _ => rfl, rfl⟩
theorem WentS.trans (x : WentS K RO σ env F H σ' env' F' H') (y : WentS K RO σ' env' F' H' σ'' env'' F'' H'') : WentS K RO σ env F H σ'' env'' F'' H'' :=
  ⟨y.rel, x.step.trans y.step x.own, fun a h => (y.own a h).elim (x.own a) fun z => .inr (x.step.dom a z), fun j h => (y.ro j h).trans (x.ro j h), y.len.trans x.len⟩
theorem EXW.onS (w : WentS K RO σ env F H σ' env' F' H') : ∀ e, EXW K W σ env F H e → EXW K W σ' env' F' H' e
  | .stuck, h => h
  | .exc c as, h => fun F2 H2 st sb ea => h F2 H2 (w.step.trans st w.own) sb ea
def EndOk (K : PySem.W.Frag) (RO : List Nat) (nw : Bool) (σ : L2.St) (env : Env) (F H : Hp) (D : Ends) : Flow → Env → Prop
  | .next, env' => ∀ σ' F' H', WentS K RO σ env F H σ' env' F' H' → D.nx σ' H'
  | .brk, env' => ∀ σ' F' H', WentS K RO σ env F H σ' env' F' H' → D.bk σ' H'
  | .cont, env' => ∀ σ' F' H', WentS K RO σ env F H σ' env' F' H' → D.ct σ' H'
  | .ret d, env' => ∀ v σ' F' H', WentS K RO σ env F H σ' env' F' H' → ResOk nw K F' H H' v d → D.rt v H'
theorem EndOk.on {D : Ends} (w : WentS K RO σ env F H σ' env' F' H') : ∀ {f : Flow} {env'' : Env}, EndOk K RO nw σ env F H D f env'' → EndOk K RO nw σ' env' F' H' D f env''
  | .next, _, h => fun s2 F2 H2 w2 => h s2 F2 H2 (w.trans w2)
  | .brk, _, h => fun s2 F2 H2 w2 => h s2 F2 H2 (w.trans w2)
  | .cont, _, h => fun s2 F2 H2 w2 => h s2 F2 H2 (w.trans w2)
  | .ret _, _, h => fun v s2 F2 H2 w2 r => h v s2 F2 H2 (w.trans w2) (r.back w.step.dom)
end
def rdS (K : PySem.W.Frag) (C : Cfg) (W : Exs) (RO : List Nat) (nw : Bool) (s : S) : TS := fun D σ H => ∃ F env, Rel K F env σ H ∧ OutM (exe C s env) (fun p => EndOk K RO nw σ env F H D p.1 p.2) (EXW K W σ env F H)
def rdSs (K : PySem.W.Frag) (C : Cfg) (W : Exs) (RO : List Nat) (nw : Bool) (s : Ss) : TS := fun D σ H => ∃ F env, Rel K F env σ H ∧ OutM (exes C s env) (fun p => EndOk K RO nw σ env F H D p.1 p.2) (EXW K W σ env F H)
theorem _root_.L2.PS.imp {X : Cx} {st : Stmt} {t t' : TS} (h : PS X st t) (f : ∀ D σ H, t' D σ H → t D σ H) : PS X st t' := ⟨fun pins s σ H D I q => h.run pins s σ H D I (f D σ H q)⟩
theorem _root_.L2.PSs.imp {X : Cx} {st : List Stmt} {t t' : TS} (h : PSs X st t) (f : ∀ D σ H, t' D σ H → t D σ H) : PSs X st t' := ⟨fun pins s σ H D I q => h.run pins s σ H D I (f D σ H q)⟩
section
variable {X : Cx} {C : Cfg} {W : Exs} {RO : List Nat} {nw : Bool} {pos : Pos}
theorem snd_snil : PSs X [] (rdSs X.K C W RO nw .nil) := by
  refine pss_nil.imp fun D σ H ⟨F, env, R, o⟩ => ?_
  simp only [exes] at o
  have o : ∀ σ' F' H', WentS X.K RO σ env F H σ' env F' H' → D.nx σ' H' := o
  exact o σ F H (WentS.refl R)
theorem snd_scons {s : S} {r : Ss} {st : Stmt} {sts : List Stmt} (h1 : PS X st (rdS X.K C W RO nw s)) (h2 : PSs X sts (rdSs X.K C W RO nw r)) : PSs X (st :: sts) (rdSs X.K C W RO nw (.cons s r)) := by
  refine (pss_cons h1 h2).imp fun D σ H ⟨F, env, R, o⟩ => ?_
  simp only [exes] at o
  refine ⟨F, env, R, o.bind.mono (fun ⟨w, env1⟩ o => ?_) fun _ h => h⟩
  cases w with
  | next => exact fun σ1 F1 H1 w1 => ⟨F1, env1, w1.rel, OutM.mono o (fun p h => h.on w1) (EXW.onS w1)⟩
  | brk => exact o
  | cont => exact o
  | ret d => exact o
theorem snd_pass : PS X (.Pass pos) (rdS X.K C W RO nw .pas) := by
  refine ps_pass.imp fun D σ H ⟨F, env, R, o⟩ => ?_
  simp only [exe] at o
  have o : ∀ σ' F' H', WentS X.K RO σ env F H σ' env F' H' → D.nx σ' H' := o
  exact o σ F H (WentS.refl R)
theorem snd_brk : PS X (.Break pos) (rdS X.K C W RO nw .brk) := by
  refine ps_break.imp fun D σ H ⟨F, env, R, o⟩ => ?_
  simp only [exe] at o
  have o : ∀ σ' F' H', WentS X.K RO σ env F H σ' env F' H' → D.bk σ' H' := o
  exact o σ F H (WentS.refl R)
theorem snd_cont : PS X (.Continue pos) (rdS X.K C W RO nw .cont) := by
  refine ps_continue.imp fun D σ H ⟨F, env, R, o⟩ => ?_
  simp only [exe] at o
  have o : ∀ σ' F' H', WentS X.K RO σ env F H σ' env F' H' → D.ct σ' H' := o
  exact o σ F H (WentS.refl R)
theorem snd_retN : PS X (.Return none pos) (rdS X.K C W RO false .retN) := by
  refine ps_retN.imp fun D σ H ⟨F, env, R, o⟩ => ?_
  simp only [exe] at o
  have o : ∀ v σ' F' H', WentS X.K RO σ env F H σ' env F' H' → Rep X.K F' v .non → D.rt v H' := o
  exact o .non σ F H (WentS.refl R) .non
theorem snd_ret {e : E} {pe : Expr} (he : PE X pe (rdR X.K C W nw e)) : PS X (.Return (some pe) pos) (rdS X.K C W RO nw (.ret e)) := by
  refine (ps_ret he).imp fun D σ H ⟨F, env, R, o⟩ => ?_
  simp only [exe] at o
  exact ⟨F, env, R, o.bind.mono (fun ⟨d, env1⟩ o v F1 H1 w1 r => o v σ F1 H1 (.of w1) r) fun _ h => h⟩
theorem snd_ex {e : E} {pe : Expr} (he : PE X pe (rdE X.K C W e)) (hs : swapsWith pe none pos.line X.env = pure false) : PS X (.Expr pe pos) (rdS X.K C W RO nw (.ex e)) := by
  refine (ps_expr he hs).imp fun D σ H ⟨F, env, R, o⟩ => ?_
  simp only [exe] at o
  exact ⟨F, env, R, o.bind.mono (fun ⟨d, env1⟩ o v F1 H1 w1 r => o σ F1 H1 (.of w1)) fun _ h => h⟩
theorem snd_doc {x : Str} {j : Nat} {p : Pos} : PS X (.Expr (.Constant (.str x) j p) pos) (rdS X.K C W RO nw .pas) := by
  refine ps_doc.imp fun D σ H ⟨F, env, R, o⟩ => ?_
  simp only [exe] at o
  have o : ∀ σ' F' H', WentS X.K RO σ env F H σ' env F' H' → D.nx σ' H' := o
  exact o σ F H (WentS.refl R)
theorem snd_if {c : E} {a b : Ss} {pc : Expr} {pa pb : List Stmt} (hc : PT X pc (rdT X.K C W c)) (ha : PSs X pa (rdSs X.K C W RO nw a)) (hb : PSs X pb (rdSs X.K C W RO nw b)) : PS X (.If pc pa pb pos) (rdS X.K C W RO nw (.ife c a b)) := by
  refine (ps_if hc ha hb).imp fun D σ H ⟨F, env, R, o⟩ => ⟨F, env, R, ?_⟩
  simp only [exe] at o
  rw [tru_bind]
  cases e : deno C c env with
  | error er => rw [e] at o; exact o
  | ok p =>
    rw [e] at o
    have o : OutM (op1 truthy p.2 p.1 >>= fun r => if r = true then exes C a p.2 else exes C b p.2) _ _ := o
    show OutM (op1 truthy p.2 p.1 >>= fun b => .ok (b, p.2)) _ _
    cases e2 : op1 truthy p.2 p.1 with
    | error er => rw [e2] at o; exact o
    | ok r =>
      rw [e2] at o
      intro F1 H1 w1
      cases r with
      | true => exact ⟨F1, p.2, w1.rel, OutM.mono o (fun p h => h.on (.of w1)) (EXW.onS (RO := RO) (.of w1))⟩
      | false => exact ⟨F1, p.2, w1.rel, OutM.mono o (fun p h => h.on (.of w1)) (EXW.onS (RO := RO) (.of w1))⟩
/-! ### stores -/
theorem WentS.put {K : PySem.W.Frag} {RO : List Nat} {σ σ' : L2.St} {env env1 env' : Env} {F H F1 H1 : Hp} {ix : List Nat} (w : Went K σ env F H env1 F1 H1) (p : Put K F1 H1 env1 σ env' σ' ix) (hRO : ∀ i ∈ ix, i ∉ RO) : WentS K RO σ env F H σ' env' F1 H1 :=
  ⟨p.rel, w.step, fun a h => .inl (w.own a (p.own a h)), fun j hj => p.out j fun z => hRO j z hj, by rw [← p.rel.len, p.len, w.rel.len]⟩
theorem snd_asg {t : T} {e : E} {tg pe : Expr} (hRO : ∀ i ∈ tix t, i ∉ RO) (he : PE X pe (rdE X.K C W e)) (hg : PG X tg (rdG X.K t)) (hs : swapsWithSole [tg] pe pos.line X.env = pure false) (hw : swappedStores [tg] pe X.env = pure none)
    (h1 : (assignEach [tg] X.env).map (·.2) = [assign tg X.env]) : PS X (.Assign [tg] pe pos) (rdS X.K C W RO nw (.asg t e)) := by
  refine (ps_asg he hg hs hw h1).imp fun D σ H ⟨F, env, R, o⟩ => ?_
  simp only [exe] at o
  refine ⟨F, env, R, o.bind.mono (fun ⟨d, env1⟩ o v F1 H1 w1 r => ?_) fun _ h => h⟩
  obtain ⟨env2, e1, o⟩ := OutM.pure o exw_stuck
  have o : ∀ σ' F' H', WentS X.K RO σ env F H σ' env2 F' H' → D.nx σ' H' := o
  exact ⟨F1, env1, d, env2, w1.rel, r, e1, fun σ' p => o σ' F1 H1 (.put w1 p hRO)⟩
theorem Rel.setO {K : PySem.W.Frag} {F H : Hp} {env : Env} {σ : L2.St} {i : Nat} {a : Addr} {d : D} (R : Rel K F env σ H) (n : F a = none) (ow : Own K F H a d) (ho : ¬ Owns env σ a) (hi : i < env.length) : Rel K F (env.set i (.o d)) (σ.set i (some (.ref a))) H := by
  have hi2 : i < σ.length := by rw [← R.len]; exact hi
  refine ⟨R.sub, by rw [List.length_set, List.length_set]; exact R.len, fun j => ?_, fun j k d1 d2 b h1 h2 e1 e2 => ?_⟩
  · rw [getD_set]
    by_cases hj : i = j
    · subst hj
      rw [if_pos ⟨rfl, hi⟩, List.getElem?_set_self hi2]
      exact ⟨a, rfl, n, ow⟩
    · rw [if_neg (fun z => hj z.1), List.getElem?_set_ne hj]
      exact R.slot j
  · rw [getD_set] at h1 h2
    by_cases hj : i = j
    · subst hj
      rw [List.getElem?_set_self hi2] at e1
      by_cases hk : i = k
      · exact hk
      · rw [if_neg (fun z => hk z.1)] at h2
        rw [List.getElem?_set_ne hk] at e2
        cases e1
        exact absurd ⟨k, d2, h2, e2⟩ ho
    · rw [if_neg (fun z => hj z.1)] at h1
      rw [List.getElem?_set_ne hj] at e1
      by_cases hk : i = k
      · subst hk
        rw [List.getElem?_set_self hi2] at e2
        cases e2
        exact absurd ⟨j, d1, h1, e1⟩ ho
      · rw [if_neg (fun z => hk z.1)] at h2
        rw [List.getElem?_set_ne hk] at e2
        exact R.one _ _ _ _ _ h1 h2 e1 e2
theorem Owns.setO {env : Env} {σ : L2.St} {i : Nat} {v : V} {s : Slot} {a : Addr} (h : Owns (env.set i s) (σ.set i (some v)) a) (hi : i < env.length) (hl : env.length = σ.length) : Owns env σ a ∨ v = .ref a := by
  obtain ⟨j, d1, h1, h2⟩ := h
  rw [getD_set] at h1
  by_cases hj : i = j
  · subst hj
    rw [List.getElem?_set_self (by omega)] at h2
    cases h2
    exact .inr rfl
  · rw [if_neg (fun z => hj z.1)] at h1
    rw [List.getElem?_set_ne hj] at h2
    exact .inl ⟨j, d1, h1, h2⟩
/-- a slot takes a result -/
theorem set_res {K : PySem.W.Frag} {b : Bool} {σ : L2.St} {env env' : Env} {F H H0 : Hp} {i : Nat} {v : V} {d : D} (R : Rel K F env σ H) (r : ResOk b K F H0 H v d) (h0 : ∀ a, b = true → v = .ref a → ¬ Owns env σ a) (e : setS env i b d = .ok env') :
    Rel K F env' (σ.set i (some v)) H ∧ i < env.length ∧ ∀ a, Owns env' (σ.set i (some v)) a → Owns env σ a ∨ (b = true ∧ H0 a = none ∧ v = .ref a) := by
  unfold setS at e
  obtain ⟨hi, e⟩ := ite_ok e
  cases b with
  | false =>
    have e : env.set i (.v d) = env' := e
    subst e
    exact ⟨R.set r hi, hi, fun a h => .inl (h.set hi)⟩
  | true =>
    have e : env.set i (.o d) = env' := e
    subst e
    obtain ⟨a, rfl, n, z, ow⟩ := r
    refine ⟨R.setO n ow (h0 a rfl rfl) hi, hi, fun b h => ?_⟩
    rcases h.setO hi R.len with q | q
    · exact .inl q
    · cases q
      exact .inr ⟨rfl, z, rfl⟩
theorem res_new {K : PySem.W.Frag} {b : Bool} {σ : L2.St} {env : Env} {F H H0 : Hp} {v : V} {d : D} (r : ResOk b K F H0 H v d) (h0 : ∀ a, Owns env σ a → H0 a ≠ none) : ∀ a, b = true → v = .ref a → ¬ Owns env σ a := by
  rintro a rfl rfl q
  obtain ⟨b, e, n, z, ow⟩ := r
  cases e
  exact h0 _ q z
theorem owns0 {K : PySem.W.Frag} {σ : L2.St} {env env1 : Env} {F H F1 H1 : Hp} (R : Rel K F env σ H) (w : Went K σ env F H env1 F1 H1) : ∀ a, Owns env1 σ a → H a ≠ none := fun a h z => by
  obtain ⟨o, e⟩ := owns_some R (w.own a h)
  rw [z] at e; cases e
theorem own_wp {i : Nat} {e : E} {D : Ends} {σ : L2.St} {H : Hp} (hRO : i ∉ RO) (h : rdS X.K C W RO nw (.own i e) D σ H) : tAsg (rdR X.K C W true e) (gName i) D σ H := by
  obtain ⟨F, env, R, o⟩ := h
  simp only [exe] at o
  refine ⟨F, env, R, o.bind.mono (fun ⟨d, env1⟩ o v F1 H1 w1 r => ?_) fun _ h => h⟩
  obtain ⟨env2, e1, o⟩ := OutM.pure o exw_stuck
  have o : ∀ σ' F' H', WentS X.K RO σ env F H σ' env2 F' H' → D.nx σ' H' := o
  obtain ⟨R2, hi, ow⟩ := set_res (b := true) w1.rel r (res_new (b := true) r (owns0 R w1)) e1
  refine o _ F1 H1 ⟨R2, w1.step, fun a h => (ow a h).imp (w1.own a) fun z => z.2.1, fun j hj => ?_, List.length_set⟩
  exact List.getElem?_set_ne (by rintro rfl; exact hRO hj)
theorem snd_own {i : Nat} {x : Str} {e : E} {pe : Expr} {pos' : Pos} (hRO : i ∉ RO) (hN : X.N.Nodup) (hi : X.N[i]? = some x) (hx : Loc X.env.scope x) (he : PE X pe (rdR X.K C W true e)) (hs : swapsWith pe (some (.Name x pos')) pos.line X.env = pure false) (hf : X.fn x = true ∨ X.env.scope.names.lookup x = some .local) :
    PS X (.Assign [.Name x pos'] pe pos) (rdS X.K C W RO nw (.own i e)) := (ps_set hN hi hx he hs hf).imp fun D σ H h => own_wp hRO h
theorem asg_wp {i : Nat} {e : E} {b : Bool} {D : Ends} {σ : L2.St} {H : Hp} (hRO : i ∉ RO) (h : rdS X.K C W RO nw (.asg (.n i) e) D σ H) : tAsg (rdE X.K C W e) (gName i) D σ H := by
  obtain ⟨F, env, R, o⟩ := h
  simp only [exe] at o
  refine ⟨F, env, R, o.bind.mono (fun ⟨d, env1⟩ o v F1 H1 w1 r => ?_) fun _ h => h⟩
  obtain ⟨env2, e1, o⟩ := OutM.pure o exw_stuck
  have o : ∀ σ' F' H', WentS X.K RO σ env F H σ' env2 F' H' → D.nx σ' H' := o
  have e1 : setS env1 i false d = .ok env2 := e1
  obtain ⟨R2, hi, ow⟩ := set_res (b := false) (H0 := H) w1.rel r (fun _ z => nomatch z) e1
  refine o _ F1 H1 ⟨R2, w1.step, fun a h => (ow a h).imp (w1.own a) fun z => z.2.1, fun j hj => ?_, List.length_set⟩
  exact List.getElem?_set_ne (by rintro rfl; exact hRO hj)
/-- name = [..] on one line -/
theorem snd_ownLc {i : Nat} {y : Str} {py : Pos} {own : List Nat} {ownp : List (Str × Nat)} {t : T} {it : It} {ifs : Es} {e : E} {elt tg iter : Expr} {pifs : List Expr} {scope : Scope} {cpos : Pos} {b : Bool} (hRO : i ∉ RO) (hc : X.calm = true) (hN : X.N.Nodup) (hy : X.N[i]? = some y) (hyl : X.env.scope.names.lookup y = some .local)
    (hsw : swapsWith (.ListComp elt [⟨tg, iter, pifs, 0⟩] scope cpos) (some (.Name y py)) pos.line X.env = pure true) (hi : PI X tg iter (rdI X.K C W it)) (ok : BlkOk X.N X.env.scope scope ownp) (ho : ownp.map (·.2) = own) (ht : ∀ i ∈ tix t, i ∈ own)
    (h1 : ∀ (s : Shared) (H : Hp) (A : Addr) (cl : List (Str × Addr)) (fp : List Addr), PG (X.blk s H scope (compEnvC scope cl A X.env) fp) tg (rdG X.K t)) (h2 : ∀ (s : Shared) (H : Hp) (A : Addr) (cl : List (Str × Addr)) (fp : List Addr), PTs (X.blk s H scope (compEnvC scope cl A X.env) fp) pifs (rdIf X.K C (E0W W.cls) ifs))
    (h3 : ∀ (s : Shared) (H : Hp) (A : Addr) (cl : List (Str × Addr)) (fp : List Addr), PE (X.blk s H scope (compEnvC scope cl A X.env) fp) elt (rdE X.K C (E0W W.cls) e)) (hs : ∀ x, foldedSetIterable iter X.env x = pure x) :
    PS X (.Assign [.Name y py] (.ListComp elt [⟨tg, iter, pifs, 0⟩] scope cpos) pos) (rdS X.K C W RO nw (if b then .own i (.comp own t it ifs e) else .asg (.n i) (.comp own t it ifs e))) := by
  subst ho
  refine (ps_setLc hc hN hy hyl hsw hi ok h1 h2 h3 hs).imp fun D σ H h => ?_
  cases b with
  | true => exact comp_wp ht (own_wp hRO h)
  | false =>
    obtain ⟨F, env, R, o⟩ := asg_wp (b := false) hRO h
    refine comp_wp ht ⟨F, env, R, o.mono (fun p o v F' H' w r => ?_) fun _ h => h⟩
    obtain ⟨a, rfl, n, z, ow⟩ := r
    obtain ⟨u, hu, rp⟩ := own_fix ow n
    exact o _ _ _ (w.fix R z n hu) rp
/-! two, three names at once -/
def rd2 (K : PySem.W.Frag) (C : Cfg) (W : Exs) (b1 b2 : Bool) (a b : E) : TA := fun σ H Q => ∃ F env, Rel K F env σ H ∧ OutM (den C a env >>= fun p => den C b p.2 >>= fun q => .ok ((p.1, q.1), q.2)) (fun (r : (D × D) × Env) => ∀ v w F' H', Went K σ env F H r.2 F' H' → ResOk b1 K F' H H' v r.1.1 → ResOk b2 K F' H H' w r.1.2 → (b1 = true → b2 = true → v ≠ w) → Q [v, w] H') (EXW K W σ env F H)
theorem ResOk.went {K : PySem.W.Frag} {b : Bool} {σ : L2.St} {env env' : Env} {F H F' H' H0 : Hp} {v : V} {d : D} (h : ResOk b K F H0 H v d) (w : Went K σ env F H env' F' H') (ho : ∀ a, Owns env σ a → H0 a ≠ none) : ResOk b K F' H0 H' v d := by
  cases b with
  | true => exact NewOk.went h w ho
  | false => exact Rep.mono w.step.mono h
theorem res_ne {K : PySem.W.Frag} {b1 b2 : Bool} {F F' H' H0 H1 : Hp} {v w : V} {d e : D} (h1 : ResOk b1 K F H0 H1 v d) (h2 : ResOk b2 K F' H1 H' w e) : b1 = true → b2 = true → v ≠ w := by
  rintro rfl rfl rfl
  obtain ⟨a, rfl, n, z, ow⟩ := h1
  obtain ⟨b, e, n2, z2, ow2⟩ := h2
  cases e
  obtain ⟨o, ho⟩ := ow.some
  rw [z2] at ho; cases ho
theorem pa2 {b1 b2 : Bool} {a b : E} {pa pb : Expr} (ha : PE X pa (rdR X.K C W b1 a)) (hb : PE X pb (rdR X.K C W b2 b)) (hs : notStar pa = true) (hs2 : notStar pb = true) : PA X [pa, pb] (rd2 X.K C W b1 b2 a b) := by
  refine (pa_cons ha (pa_cons hb pa_nil (star_cons hs2)) (star_cons hs)).imp fun σ H Q ⟨F, env, R, o⟩ => ?_
  refine ⟨F, env, R, o.bind.mono (fun ⟨x, env1⟩ o v F1 H1 w1 r1 => ⟨F1, env1, w1.rel, OutM.mono (OutM.bind o) (fun ⟨y, env2⟩ o u F2 H2 w2 r2 => ?_) (EXW.on w1)⟩) fun _ h => h⟩
  have o : ∀ v w F' H', Went X.K σ env F H env2 F' H' → ResOk b1 X.K F' H H' v x → ResOk b2 X.K F' H H' w y → (b1 = true → b2 = true → v ≠ w) → Q [v, w] H' := o
  exact o v u F2 H2 (w1.trans w2) (r1.went w2 (owns0 R w1)) (r2.back w1.step.dom) (res_ne r1 r2)
theorem two_wp {i j : Nat} {oi oj : Bool} {a b : E} {D : Ends} {σ : L2.St} {H : Hp} (hi : i ∉ RO) (hj : j ∉ RO) (h : rdS X.K C W RO nw (.two i j oi oj a b) D σ H) :
    rd2 X.K C W oi oj a b σ H fun vs H1 => ∃ v w, vs = [v, w] ∧ D.nx ((σ.set i (some v)).set j (some w)) H1 ∧ ∀ p o, H1 p = none → D.nx ((σ.set i (some v)).set j (some w)) (upd H1 p o) := by
  obtain ⟨F, env, R, o⟩ := h
  simp only [exe] at o
  refine ⟨F, env, R, ?_⟩
  cases e1 : den C a env with
  | error e => rw [e1] at o; exact o
  | ok p =>
    rw [e1] at o
    have o : OutM (den C b p.2 >>= fun (q : L2.DN.D × Env) => noX (setS q.2 i oi p.1) >>= fun env => noX (setS env j oj q.1) >>= fun env => (.ok (.next, env) : M (Flow × Env))) _ _ := o
    show OutM (den C b p.2 >>= _) _ _
    cases e2 : den C b p.2 with
    | error e => rw [e2] at o; exact o
    | ok q =>
      rw [e2] at o
      obtain ⟨env1, s1, o⟩ := OutM.pure o exw_stuck
      obtain ⟨env2, s2, o⟩ := OutM.pure o exw_stuck
      have o : ∀ σ' F' H', WentS X.K RO σ env F H σ' env2 F' H' → D.nx σ' H' := o
      intro v w F1 H1 w1 r1 r2 ne
      have w1 : Went X.K σ env F H q.2 F1 H1 := w1
      obtain ⟨R1, l1, ow1⟩ := set_res w1.rel r1 (res_new r1 (owns0 R w1)) s1
      have n2 : ∀ a, oj = true → w = .ref a → ¬ Owns env1 (σ.set i (some v)) a := fun a hb hw z => by
        rcases ow1 a z with z | ⟨z1, z2, z3⟩
        · exact res_new r2 (owns0 R w1) a hb hw z
        · exact ne z1 hb (z3.trans hw.symm)
      obtain ⟨R2, l2, ow2⟩ := set_res R1 r2 n2 s2
      have wS : WentS X.K RO σ env F H ((σ.set i (some v)).set j (some w)) env2 F1 H1 := by
        refine ⟨R2, w1.step, fun a h => ?_, fun k hk => ?_, by rw [List.length_set, List.length_set]⟩
        · rcases ow2 a h with z | ⟨_, z, _⟩
          · rcases ow1 a z with z | ⟨_, z, _⟩
            · exact .inl (w1.own a z)
            · exact .inr z
          · exact .inr z
        · rw [List.getElem?_set_ne (by rintro rfl; exact hj hk), List.getElem?_set_ne (by rintro rfl; exact hi hk)]
      refine ⟨v, w, rfl, o _ _ _ wS, fun p o' hp => o _ F1 _ (wS.trans (.of (Went.push R2 hp)))⟩
theorem snd_two {i j : Nat} {x y : Str} {oi oj : Bool} {a b : E} {pa pb : Expr} {px py pt : Pos} {kt k2 pt2} (hri : i ∉ RO) (hrj : j ∉ RO) (hc : X.calm = true) (hN : X.N.Nodup) (hi : X.N[i]? = some x) (hj : X.N[j]? = some y) (hij : i ≠ j) (hx : X.env.scope.names.lookup x = some .local) (hy : X.env.scope.names.lookup y = some .local)
    (ha : PE X pa (rdR X.K C W oi a)) (hb : PE X pb (rdR X.K C W oj b)) (hs : notStar pa = true) (hs2 : notStar pb = true)
    (hw : swappedStores [.Tuple [.Name x px, .Name y py] kt pt] (.Tuple [pa, pb] k2 pt2) X.env = pure (some [x, y])) :
    PS X (.Assign [.Tuple [.Name x px, .Name y py] kt pt] (.Tuple [pa, pb] k2 pt2) pos) (rdS X.K C W RO nw (.two i j oi oj a b)) := by
  refine (ps_par hc hN hi hj hij hx hy (pa2 ha hb hs hs2) hw).imp fun D σ H h => ?_
  obtain ⟨F, env, R, o⟩ := two_wp hri hrj h
  refine ⟨F, env, R, o.mono (fun r o v w F' H' w1 r1 r2 ne => ?_) fun _ h => h⟩
  obtain ⟨v', w', e, k⟩ := o v w F' H' w1 r1 r2 ne
  cases e
  exact ⟨v, w, rfl, k.1⟩
/-- by the tuple itself -/
theorem snd_twoT {i j : Nat} {x y : Str} {oi oj : Bool} {a b : E} {pa pb : Expr} {px py pt p2 : Pos} {kt k2 : Nat} (hri : i ∉ RO) (hrj : j ∉ RO) (hc : X.calm = true) (hN : X.N.Nodup) (hi : X.N[i]? = some x) (hj : X.N[j]? = some y) (hx : Loc X.env.scope x) (hy : Loc X.env.scope y)
    (fx : X.fn x = true ∨ X.env.scope.names.lookup x = some .local) (fy : X.fn y = true ∨ X.env.scope.names.lookup y = some .local)
    (ha : PE X pa (rdR X.K C W oi a)) (hb : PE X pb (rdR X.K C W oj b)) (hs : notStar pa = true) (hs2 : notStar pb = true)
    (hw : swappedStores [.Tuple [.Name x px, .Name y py] kt pt] (.Tuple [pa, pb] k2 p2) X.env = pure none) :
    PS X (.Assign [.Tuple [.Name x px, .Name y py] kt pt] (.Tuple [pa, pb] k2 p2) pos) (rdS X.K C W RO nw (.two i j oi oj a b)) := by
  refine (ps_asg (pe_tup (pa2 ha hb hs hs2)) (pg_tup hc (pgs_cons (pg_name hN hi hx fx) (pgs_cons (pg_name hN hj hy fy) pgs_nil))) rfl hw rfl).imp fun D σ H h => ?_
  obtain ⟨F, env, R, o⟩ := two_wp hri hrj h
  refine ⟨F, env, R, o.mono (fun r o v w F' H' w1 r1 r2 ne => ?_) fun _ h => h⟩
  obtain ⟨v', w', e, k⟩ := o v w F' H' w1 r1 r2 ne
  cases e
  refine ⟨small_line (by simp), fun p hp => ⟨p, [v, w], rfl, SqT.of upd_same, rfl, v, [w], rfl, w, [], rfl, rfl, k.2 p _ hp⟩⟩
/-! three -/
def rd3 (K : PySem.W.Frag) (C : Cfg) (W : Exs) (b1 b2 b3 : Bool) (a b c : E) : TA := fun σ H Q => ∃ F env, Rel K F env σ H ∧ OutM (den C a env >>= fun p => den C b p.2 >>= fun q => den C c q.2 >>= fun r => .ok ((p.1, q.1, r.1), r.2)) (fun (r : (D × D × D) × Env) => ∀ v w u F' H', Went K σ env F H r.2 F' H' → ResOk b1 K F' H H' v r.1.1 → ResOk b2 K F' H H' w r.1.2.1 → ResOk b3 K F' H H' u r.1.2.2 → (b1 = true → b2 = true → v ≠ w) → (b1 = true → b3 = true → v ≠ u) → (b2 = true → b3 = true → w ≠ u) → Q [v, w, u] H') (EXW K W σ env F H)
theorem pa3 {b1 b2 b3 : Bool} {a b c : E} {pa pb pc : Expr} (ha : PE X pa (rdR X.K C W b1 a)) (hb : PE X pb (rdR X.K C W b2 b)) (hd : PE X pc (rdR X.K C W b3 c)) (hs : notStar pa = true) (hs2 : notStar pb = true) (hs3 : notStar pc = true) : PA X [pa, pb, pc] (rd3 X.K C W b1 b2 b3 a b c) := by
  refine (pa_cons ha (pa_cons hb (pa_cons hd pa_nil (star_cons hs3)) (star_cons hs2)) (star_cons hs)).imp fun σ H Q ⟨F, env, R, o⟩ => ?_
  refine ⟨F, env, R, o.bind.mono (fun ⟨x, env1⟩ o v F1 H1 w1 r1 => ⟨F1, env1, w1.rel, OutM.mono (OutM.bind o) (fun ⟨y, env2⟩ o u F2 H2 w2 r2 => ⟨F2, env2, w2.rel, OutM.mono (OutM.bind o) (fun ⟨z, env3⟩ o t F3 H3 w3 r3 => ?_) (EXW.on (w1.trans w2))⟩) (EXW.on w1)⟩) fun _ h => h⟩
  have o : ∀ v w u F' H', Went X.K σ env F H env3 F' H' → ResOk b1 X.K F' H H' v x → ResOk b2 X.K F' H H' w y → ResOk b3 X.K F' H H' u z → (b1 = true → b2 = true → v ≠ w) → (b1 = true → b3 = true → v ≠ u) → (b2 = true → b3 = true → w ≠ u) → Q [v, w, u] H' := o
  have r1' := r1.went w2 (owns0 R w1)
  have r2' := r2.back w1.step.dom
  have o12 := owns0 R (w1.trans w2)
  exact o v u t F3 H3 ((w1.trans w2).trans w3) (r1'.went w3 o12) (r2'.went w3 o12) (r3.back (w1.trans w2).step.dom) (res_ne r1 r2) (res_ne r1' r3) (res_ne r2 r3)
theorem three_wp {i j l : Nat} {oi oj ol : Bool} {a b c : E} {D : Ends} {σ : L2.St} {H : Hp} (hi : i ∉ RO) (hj : j ∉ RO) (hl : l ∉ RO) (h : rdS X.K C W RO nw (.three i j l oi oj ol a b c) D σ H) :
    rd3 X.K C W oi oj ol a b c σ H fun vs H1 => ∃ v w u, vs = [v, w, u] ∧ D.nx (((σ.set i (some v)).set j (some w)).set l (some u)) H1 ∧ ∀ p o, H1 p = none → D.nx (((σ.set i (some v)).set j (some w)).set l (some u)) (upd H1 p o) := by
  obtain ⟨F, env, R, o⟩ := h
  simp only [exe] at o
  refine ⟨F, env, R, ?_⟩
  cases e1 : den C a env with
  | error e => rw [e1] at o; exact o
  | ok p =>
    rw [e1] at o
    have o : OutM (den C b p.2 >>= fun (q : L2.DN.D × Env) => den C c q.2 >>= fun (r : L2.DN.D × Env) => noX (setS r.2 i oi p.1) >>= fun env => noX (setS env j oj q.1) >>= fun env => noX (setS env l ol r.1) >>= fun env => (.ok (.next, env) : M (Flow × Env))) _ _ := o
    show OutM (den C b p.2 >>= _) _ _
    cases e2 : den C b p.2 with
    | error e => rw [e2] at o; exact o
    | ok q =>
      rw [e2] at o
      have o : OutM (den C c q.2 >>= fun (r : L2.DN.D × Env) => noX (setS r.2 i oi p.1) >>= fun env => noX (setS env j oj q.1) >>= fun env => noX (setS env l ol r.1) >>= fun env => (.ok (.next, env) : M (Flow × Env))) _ _ := o
      show OutM (den C c q.2 >>= _) _ _
      cases e3 : den C c q.2 with
      | error e => rw [e3] at o; exact o
      | ok r =>
        rw [e3] at o
        obtain ⟨env1, s1, o⟩ := OutM.pure o exw_stuck
        obtain ⟨env2, s2, o⟩ := OutM.pure o exw_stuck
        obtain ⟨env3, s3, o⟩ := OutM.pure o exw_stuck
        have o : ∀ σ' F' H', WentS X.K RO σ env F H σ' env3 F' H' → D.nx σ' H' := o
        intro v w u F1 H1 w1 r1 r2 r3 ne12 ne13 ne23
        have w1 : Went X.K σ env F H r.2 F1 H1 := w1
        obtain ⟨R1, l1, ow1⟩ := set_res w1.rel r1 (res_new r1 (owns0 R w1)) s1
        have n2 : ∀ a, oj = true → w = .ref a → ¬ Owns env1 (σ.set i (some v)) a := fun a hb hw z => by
          rcases ow1 a z with z | ⟨z1, z2, z3⟩
          · exact res_new r2 (owns0 R w1) a hb hw z
          · exact ne12 z1 hb (z3.trans hw.symm)
        obtain ⟨R2, l2, ow2⟩ := set_res R1 r2 n2 s2
        have n3 : ∀ a, ol = true → u = .ref a → ¬ Owns env2 ((σ.set i (some v)).set j (some w)) a := fun a hb hw z => by
          rcases ow2 a z with z | ⟨z1, z2, z3⟩
          · rcases ow1 a z with z | ⟨z1, z2, z3⟩
            · exact res_new r3 (owns0 R w1) a hb hw z
            · exact ne13 z1 hb (z3.trans hw.symm)
          · exact ne23 z1 hb (z3.trans hw.symm)
        obtain ⟨R3, l3, ow3⟩ := set_res R2 r3 n3 s3
        have wS : WentS X.K RO σ env F H (((σ.set i (some v)).set j (some w)).set l (some u)) env3 F1 H1 := by
          refine ⟨R3, w1.step, fun a h => ?_, fun k hk => ?_, by rw [List.length_set, List.length_set, List.length_set]⟩
          · rcases ow3 a h with z | ⟨_, z, _⟩
            · rcases ow2 a z with z | ⟨_, z, _⟩
              · rcases ow1 a z with z | ⟨_, z, _⟩
                · exact .inl (w1.own a z)
                · exact .inr z
              · exact .inr z
            · exact .inr z
          · rw [List.getElem?_set_ne (by rintro rfl; exact hl hk), List.getElem?_set_ne (by rintro rfl; exact hj hk), List.getElem?_set_ne (by rintro rfl; exact hi hk)]
        exact ⟨v, w, u, rfl, o _ _ _ wS, fun p o' hp => o _ F1 _ (wS.trans (.of (Went.push R3 hp)))⟩
theorem snd_three {i j l : Nat} {x y z : Str} {oi oj ol : Bool} {a b c : E} {pa pb pc : Expr} {px py pz pt : Pos} {kt k2 pt2} (hri : i ∉ RO) (hrj : j ∉ RO) (hrl : l ∉ RO) (hc : X.calm = true) (hN : X.N.Nodup) (hi : X.N[i]? = some x) (hj : X.N[j]? = some y) (hl : X.N[l]? = some z) (hij : i ≠ j) (hil : i ≠ l) (hjl : j ≠ l)
    (hx : X.env.scope.names.lookup x = some .local) (hy : X.env.scope.names.lookup y = some .local) (hz : X.env.scope.names.lookup z = some .local)
    (ha : PE X pa (rdR X.K C W oi a)) (hb : PE X pb (rdR X.K C W oj b)) (hd : PE X pc (rdR X.K C W ol c)) (hs : notStar pa = true) (hs2 : notStar pb = true) (hs3 : notStar pc = true)
    (hw : swappedStores [.Tuple [.Name x px, .Name y py, .Name z pz] kt pt] (.Tuple [pa, pb, pc] k2 pt2) X.env = pure (some [x, y, z])) :
    PS X (.Assign [.Tuple [.Name x px, .Name y py, .Name z pz] kt pt] (.Tuple [pa, pb, pc] k2 pt2) pos) (rdS X.K C W RO nw (.three i j l oi oj ol a b c)) := by
  refine (ps_par3 hc hN hi hj hl hij hil hjl hx hy hz (pa3 ha hb hd hs hs2 hs3) hw).imp fun D σ H h => ?_
  obtain ⟨F, env, R, o⟩ := three_wp hri hrj hrl h
  refine ⟨F, env, R, o.mono (fun r o v w u F' H' w1 r1 r2 r3 n1 n2 n3 => ?_) fun _ h => h⟩
  obtain ⟨v', w', u', e, k⟩ := o v w u F' H' w1 r1 r2 r3 n1 n2 n3
  cases e
  exact ⟨v, w, u, rfl, k.1⟩
theorem snd_threeT {i j l : Nat} {x y z : Str} {oi oj ol : Bool} {a b c : E} {pa pb pc : Expr} {px py pz pt p2 : Pos} {kt k2 : Nat} (hri : i ∉ RO) (hrj : j ∉ RO) (hrl : l ∉ RO) (hc : X.calm = true) (hN : X.N.Nodup) (hi : X.N[i]? = some x) (hj : X.N[j]? = some y) (hl : X.N[l]? = some z) (hx : Loc X.env.scope x) (hy : Loc X.env.scope y) (hz : Loc X.env.scope z)
    (fx : X.fn x = true ∨ X.env.scope.names.lookup x = some .local) (fy : X.fn y = true ∨ X.env.scope.names.lookup y = some .local) (fz : X.fn z = true ∨ X.env.scope.names.lookup z = some .local)
    (ha : PE X pa (rdR X.K C W oi a)) (hb : PE X pb (rdR X.K C W oj b)) (hd : PE X pc (rdR X.K C W ol c)) (hs : notStar pa = true) (hs2 : notStar pb = true) (hs3 : notStar pc = true)
    (hw : swappedStores [.Tuple [.Name x px, .Name y py, .Name z pz] kt pt] (.Tuple [pa, pb, pc] k2 p2) X.env = pure none) :
    PS X (.Assign [.Tuple [.Name x px, .Name y py, .Name z pz] kt pt] (.Tuple [pa, pb, pc] k2 p2) pos) (rdS X.K C W RO nw (.three i j l oi oj ol a b c)) := by
  refine (ps_asg (pe_tup (pa3 ha hb hd hs hs2 hs3)) (pg_tup hc (pgs_cons (pg_name hN hi hx fx) (pgs_cons (pg_name hN hj hy fy) (pgs_cons (pg_name hN hl hz fz) pgs_nil)))) rfl hw rfl).imp fun D σ H h => ?_
  obtain ⟨F, env, R, o⟩ := three_wp hri hrj hrl h
  refine ⟨F, env, R, o.mono (fun r o v w u F' H' w1 r1 r2 r3 n1 n2 n3 => ?_) fun _ h => h⟩
  obtain ⟨v', w', u', e, k⟩ := o v w u F' H' w1 r1 r2 r3 n1 n2 n3
  cases e
  refine ⟨small_line (by simp), fun p hp => ⟨p, [v, w, u], rfl, SqT.of upd_same, rfl, v, [w, u], rfl, w, [u], rfl, u, [], rfl, rfl, k.2 p _ hp⟩⟩
/-! ### own things written -/
theorem tvar_o {i : Nat} {pe : Expr} (h : PE X pe (tVar i)) : PE X pe (rdO X.K C W (.b i)) := snd_b h
theorem snd_put {i : Nat} {k v : E} {po pk pv : Expr} {tp : Pos} {n : Nat} (hr : Room n X.A) (ho : PE X po (tVar i)) (hk : PE X pk (rdE X.K C W k)) (hv : PE X pv (rdE X.K C W v)) (hs : swapsWithSole [.Subscript po pk tp] pv pos.line X.env = pure false) (hw : swappedStores [.Subscript po pk tp] pv X.env = pure none)
    (h1 : (assignEach [.Subscript po pk tp] X.env).map (·.2) = [assign (.Subscript po pk tp) X.env])
    (ha : ∀ v, assign (.Subscript po pk tp) X.env v = (do
      let ov ← holding [v] (eval po X.env)
      let iv ← holding [v, ov] (eval pk X.env)
      standAt tp
      holding [v, ov, iv] (setItem ov iv v)
      release [v, ov, iv] [])) : PS X (.Assign [.Subscript po pk tp] pv pos) (rdS X.K C W RO nw (.put i k v)) := by
  refine (ps_asg hv (pg_sub ho hk (set_put hr) ha) hs hw h1).imp fun D σ H ⟨F, env, R, o⟩ => ?_
  simp only [exe] at o
  refine ⟨F, env, R, o.bind.mono (fun ⟨dv, env1⟩ o v F1 H1 w1 r1 => ?_) fun _ h => h⟩
  obtain ⟨u, hu, o⟩ := OutM.pure o exw_stuck
  have o : OutM (den C k env1 >>= fun q => noX (putF q.2 i q.1 dv) >>= fun e => (.ok (.next, e) : M (Flow × Env))) _ _ := o
  obtain ⟨a, d, hd, ea⟩ : ∃ a d, env1.getD i .nil = .o d ∧ σ[i]? = some (some (.ref a)) := by
    unfold ownD at hu
    split at hu
    · rename_i d hd
      obtain ⟨a, e, _⟩ := w1.rel.own hd
      exact ⟨a, d, hd, e⟩
    · cases hu
  refine ⟨.ref a, ea, F1, env1, w1.rel, OutM.mono (OutM.bind o) (fun ⟨dk, env2⟩ o x F2 H2 w2 r2 => ?_) (EXW.on w1)⟩
  obtain ⟨env3, hp, o⟩ := OutM.pure o exw_stuck
  have o : ∀ σ' F' H', WentS X.K RO σ env F H σ' env3 F' H' → D.nx σ' H' := o
  unfold putF at hp
  split at hp
  · rename_i d2 hd2
    obtain ⟨d3, h3, h4⟩ := bind_ok hp
    have := ok_inj h4
    subst this
    obtain ⟨a', ea', n, ow⟩ := w2.rel.own hd2
    rw [ea] at ea'
    cases ea'
    exact ⟨F2, a, d2, dk, dv, d3, rfl, w2.rel.sub, n, ow, r2, Rep.mono w2.step.mono r1, h3, fun ob ow' => o _ F2 _ (.of ((w1.trans w2).trans (Went.write w2.rel hd2 ea n ow')))⟩
  · cases hp
/-- x += e, whole numbers -/
def augOk : Bop → Option Operator
  | .add => some .Add
  | .sub => some .Sub
  | _ => none
theorem aug_ints {o : Bop} {d e z : D} (h : augF o d e = .ok z) : ∃ n m, d = .int n ∧ e = .int m ∧ binF o (.int n) (.int m) = .ok z := by
  cases d <;> cases e <;> simp only [augF] at h <;> first | (cases h; done) | exact ⟨_, _, rfl, rfl, h⟩
theorem snd_aug {i : Nat} {o : Bop} {op : Operator} {x : Str} {e : E} {pe : Expr} {pos' : Pos} (hRO : i ∉ RO) (hop : augOk o = some op) (hN : X.N.Nodup) (hi : X.N[i]? = some x) (hx : Loc X.env.scope x) (he : PE X pe (rdE X.K C W e)) (hf : X.fn x = true ∨ X.env.scope.names.lookup x = some .local) :
    PS X (.AugAssign (.Name x pos') op pe pos) (rdS X.K C W RO nw (.aug i o e)) := by
  have main : ∀ {f : Int → Int → Int}, PIp X op (ipI f) → (∀ a b, binF o (.int a) (.int b) = .ok (.int (f a b))) → PS X (.AugAssign (.Name x pos') op pe pos) (rdS X.K C W RO nw (.aug i o e)) := fun {f} hp hf2 => by
    refine (ps_aug hN hi hx he hp hf).imp fun D σ H ⟨F, env, R, ou⟩ => ?_
    simp only [exe] at ou
    obtain ⟨d, hd, ou⟩ := OutM.pure ou exw_stuck
    have ou : OutM (den C e env >>= fun q => noX (augF o d q.1) >>= fun z => noX (setS q.2 i false z) >>= fun e => (.ok (.next, e) : M (Flow × Env))) _ _ := ou
    obtain ⟨v, ev⟩ := peek_some R hd
    refine ⟨v, ev, F, env, R, OutM.mono (OutM.bind ou) (fun ⟨dy, env1⟩ ou y F1 H1 w1 r1 => ?_) fun _ h => h⟩
    obtain ⟨z, hz, ou⟩ := OutM.pure ou exw_stuck
    obtain ⟨n, m, rfl, e1, hz2⟩ := aug_ints hz
    have e1 : dy = .int m := e1
    subst e1
    rw [hf2] at hz2
    have := ok_inj hz2
    subst this
    obtain ⟨env2, h2, ou2⟩ := OutM.pure ou exw_stuck
    have ou2 : ∀ σ' F' H', WentS X.K RO σ env F H σ' env2 F' H' → D.nx σ' H' := ou2
    cases r1
    have hv : v = .int n := by
      have o1 : Opn X.K F H v (.int n) := OpdOk.opn R (a := .s i) (.s ev) hd
      exact o1.int'
    subst hv
    obtain ⟨R2, hi2, ow⟩ := set_res (b := false) (H0 := H) w1.rel (v := .int (f n m)) (d := .int (f n m)) (.int _) (fun _ z => nomatch z) h2
    refine ⟨n, m, rfl, rfl, ou2 _ F1 H1 ⟨R2, w1.step, fun a h => (ow a h).imp (w1.own a) fun z => z.2.1, fun j hj => ?_, List.length_set⟩⟩
    exact List.getElem?_set_ne (by rintro rfl; exact hRO hj)
  cases o <;> simp only [augOk] at hop <;> try (cases hop; done)
  · cases hop
    exact main ip_add fun _ _ => rfl
  · cases hop
    exact main ip_sub fun _ _ => rfl
/-! methods of own lists -/
theorem ownL_at {K : PySem.W.Frag} {F H : Hp} {env : Env} {σ : L2.St} {i : Nat} {u : Unit} (R : Rel K F env σ H) (h : ownL env i = .ok u) : ∃ a xs vs, env.getD i .nil = .o (.lst xs) ∧ σ[i]? = some (some (.ref a)) ∧ F a = none ∧ H a = some (.lst vs) ∧ Reps K F vs xs := by
  unfold ownL at h
  split at h
  · rename_i xs hd
    obtain ⟨a, e, n, ow⟩ := R.own hd
    cases ow with
    | lst e1 r => exact ⟨a, xs, _, hd, e, n, e1, r⟩
  · cases h
theorem snd_app {i : Nat} {e : E} {po pe : Expr} {apos cpos : Pos} (ho : PE X po (tVar i)) (he : PE X pe (rdE X.K C W e)) (hb : isName po = true) (hs : notStar pe = true) (hline : (apos.endLine == cpos.line) = true) (hp : PlainAttrs "list") (sl : PySem.Slot "list" "append" "list.append") (ht : typeOf (.builtin "list.append") = pure (.type "method_descriptor")) :
    PS X (.Expr (.Call (.Attribute po "append" apos) [pe] [] cpos) pos) (rdS X.K C W RO nw (.app i e)) := by
  have hA : PA X [pe] (tCons (rdE X.K C W e) tNil) := pa_cons he pa_nil (star_cons hs)
  refine (ps_expr (pe_bm hp sl ht mt_append ho hA (base_name hb) ?_ hline (star_cons hs) rfl) rfl).imp fun D σ H ⟨F, env, R, o⟩ => ?_
  · rw [star_all (es := [pe]) (by rw [List.all_cons, hs]; rfl)]
    rfl
  simp only [exe] at o
  obtain ⟨u, hu, o⟩ := OutM.pure o exw_stuck
  obtain ⟨a, xs, vs, hd, ea, n, ha, r⟩ := ownL_at R hu
  refine ⟨.ref a, ea, .inl ⟨rfl, vs, SqL.of ha⟩, F, env, R, OutM.mono (OutM.bind o) (fun ⟨dv, env1⟩ o v F1 H1 w1 r1 => ?_) fun _ h => h⟩
  obtain ⟨env2, hp, o⟩ := OutM.pure o exw_stuck
  have o : ∀ σ' F' H', WentS X.K RO σ env F H σ' env2 F' H' → D.nx σ' H' := o
  unfold appF at hp
  split at hp
  · rename_i ys hd1
    obtain ⟨hz, e2⟩ := ite_ok hp
    subst e2
    obtain ⟨a', ea', n1, ow⟩ := w1.rel.own hd1
    rw [ea] at ea'
    cases ea'
    cases ow with
    | @lst us _ e1 r2 =>
      refine ⟨a, us, v, rfl, rfl, e1, by rw [r2.length, ← sz_eq]; exact hz, ?_⟩
      exact o _ F1 _ (.of (w1.trans (Went.write w1.rel hd1 ea n1 (.lst upd_same (r2.append (.cons r1 .nil))))))
  · cases hp
/-- x += a list, x an own list -/
theorem snd_augL {i : Nat} {x : Str} {e : E} {pe : Expr} {pos' : Pos} (hN : X.N.Nodup) (hi : X.N[i]? = some x) (hx : Loc X.env.scope x) (he : PE X pe (rdE X.K C W e)) (hf : X.fn x = true ∨ X.env.scope.names.lookup x = some .local) :
    PS X (.AugAssign (.Name x pos') .Add pe pos) (rdS X.K C W RO nw (.augL i e)) := by
  have hip : PIp X .Add rExt2 := fun pins s σ H x y v u Q I rx ry h => iop_ext pins s σ H x y v u Q I rx ry h
  refine (ps_aug hN hi hx he hip hf).imp fun D σ H ⟨F, env, R, o⟩ => ?_
  simp only [exe] at o
  obtain ⟨u, hu, o⟩ := OutM.pure o exw_stuck
  obtain ⟨a, xs, vs, hd, ea, n, ha, r⟩ := ownL_at R hu
  refine ⟨.ref a, ea, F, env, R, OutM.mono (OutM.bind o) (fun ⟨dy, env1⟩ o y F1 H1 w1 r1 => ?_) fun _ h => h⟩
  obtain ⟨env2, hp, o⟩ := OutM.pure o exw_stuck
  have o : ∀ σ' F' H', WentS X.K RO σ env F H σ' env2 F' H' → D.nx σ' H' := o
  have hσ : σ.set i (some (.ref a)) = σ := by
    refine List.ext_getElem? fun j => ?_
    by_cases hj : i = j
    · subst hj
      have hlt := (List.getElem?_eq_some_iff.mp ea).1
      rw [List.getElem?_set_self hlt, ea]
    · rw [List.getElem?_set_ne hj]
  unfold augLF at hp
  split at hp
  · rename_i ys zs hd1 hd2
    have hd2 : dy = .lst zs := hd2
    subst hd2
    obtain ⟨hz, e2⟩ := ite_ok hp
    subst e2
    obtain ⟨a', ea', n1, ow⟩ := w1.rel.own hd1
    rw [ea] at ea'
    cases ea'
    have r1 : Rep X.K F1 y (.lst zs) := r1
    cases r1 with
    | @lst b ws _ eb rb =>
      cases ow with
      | @lst us _ e1 r2 =>
        refine ⟨a, b, us, ws, rfl, rfl, e1, w1.rel.sub _ _ eb, by rw [r2.length, rb.length, ← sz_eq]; exact hz, ?_⟩
        show D.nx (σ.set i (some (.ref a))) _
        rw [hσ]
        exact o _ F1 _ (.of (w1.trans (Went.write w1.rel hd1 ea n1 (.lst upd_same (r2.append rb)))))
  · cases hp
theorem Reps.dropLast {K : PySem.W.Frag} {F : Hp} : ∀ {vs : List V} {ds : List D}, Reps K F vs ds → Reps K F vs.dropLast ds.dropLast
  | _, _, .nil => .nil
  | _, _, .cons h .nil => .nil
  | _, _, .cons h (.cons h2 r) => .cons h (Reps.dropLast (.cons h2 r))
theorem Reps.last {K : PySem.W.Frag} {F : Hp} {vs : List V} {ds : List D} (h : Reps K F vs ds) (hn : ds.isEmpty = false) : ∃ v, vs[vs.length - 1]? = some v ∧ Rep K F v (ds.getLastD .non) := by
  cases ds with
  | nil => cases hn
  | cons d ds =>
    have hl := h.length
    obtain ⟨v, hv, rv⟩ := h.get (i := (d :: ds).length - 1) (d := (d :: ds).getLastD .non) (by
      rw [List.getLastD_eq_getLast?, List.getLast?_eq_getElem?]
      simp)
    exact ⟨v, by rw [hl]; exact hv, rv⟩
theorem snd_pop {i : Nat} {po : Expr} {apos cpos : Pos} (ho : PE X po (tVar i)) (hb : isName po = true) (hline : (apos.endLine == cpos.line) = true) (hp : PlainAttrs "list") (sl : PySem.Slot "list" "pop" "list.pop") (ht : typeOf (.builtin "list.pop") = pure (.type "method_descriptor")) :
    PE X (.Call (.Attribute po "pop" apos) [] [] cpos) (rdE X.K C W (.pop i)) := by
  refine (pe_bm0 hp sl ht mt_pop ho (base_name hb) hline).imp fun σ H Q ⟨F, env, R, o⟩ => ?_
  simp only [den, ← deno_eq] at o
  obtain ⟨p, hp, o⟩ := o.noX exw_stuck
  unfold popF at hp
  split at hp
  · rename_i xs hd
    split at hp
    · cases hp
    · rename_i hne
      have := ok_inj hp
      subst this
      obtain ⟨a, ea, n, ow⟩ := R.own hd
      cases ow with
      | @lst vs _ e1 r =>
        obtain ⟨v, hv, rv⟩ := Reps.last r (by simpa using hne)
        exact ⟨.ref a, ea, .inl ⟨rfl, vs, SqL.of e1⟩, a, vs, v, rfl, rfl, e1, hv, o _ _ _ (Went.write R hd ea n (.lst upd_same (Reps.dropLast r))) rv⟩
  · cases hp
/-! ### loops -/
theorem for_turn {K : PySem.W.Frag} {RO : List Nat} {σ σ1 : L2.St} {env env1 : Env} {F H F1 H1 F2 H2 : Hp} (w : WentS K RO σ env F H σ1 env1 F1 H1) (g : Grow F1 H1 F2 H2) : WentS K RO σ env F H σ1 env1 F2 H2 := w.trans (.of (Went.grow w.rel g))
theorem forL_cons {f : D → Env → M (Flow × Env)} {x : D} {r : List D} {env : Env} : forL f (x :: r) env = (f x env >>= fun p => match p.1 with | .next => forL f r p.2 | .cont => forL f r p.2 | .brk => .ok (.next, p.2) | .ret d => .ok (.ret d, p.2)) := rfl
/-- behind a loop: the hidden slots are back -/
theorem WentS.show {K : PySem.W.Frag} {RO is : List Nat} {σ σ' : L2.St} {env env' : Env} {F1 H1 F H : Hp} (R : Rel K F1 env σ H1) (w : WentS K (RO ++ is) σ (wipe env is) F1 H1 σ' env' F H) : WentS K RO σ env F1 H1 σ' (unwipe env env' is) F H := by
  have len : env'.length = env.length := by rw [w.rel.len, w.len, ← R.len]
  have ro : ∀ i ∈ is, σ'[i]? = σ[i]? := fun i hi => w.ro i (List.mem_append_right _ hi)
  have old : ∀ {j d}, j ∈ is → env.getD j .nil = .o d → ∃ a, σ[j]? = some (some (.ref a)) ∧ F1 a = none ∧ F a = none ∧ Own K F H a d ∧ ¬ Owns (wipe env is) σ a ∧ H1 a ≠ none := fun {j d} hj h => by
    obtain ⟨a, e, n, ow⟩ := R.own h
    have no := not_owns R hj h e
    obtain ⟨o, ho⟩ := ow.some
    refine ⟨a, e, n, ?_, ow.at w.step.mono ((w.step.keep a o ho no).trans ho.symm), no, by rw [ho]; exact fun z => nomatch z⟩
    cases q : F a with
    | none => rfl
    | some u =>
      rcases w.step.fr a u q with z | z | z
      · rw [n] at z; cases z
      · exact (ow.noOwn z).elim
      · exact absurd z no
  have pick : ∀ {j s}, (unwipe env env' is).getD j .nil = s → s ≠ .nil → (j ∈ is ∧ env.getD j .nil = s) ∨ (j ∉ is ∧ env'.getD j .nil = s) := fun {j s} h hs => by
    rw [getD_unwipe] at h
    by_cases hj : j ∈ is
    · left
      refine ⟨hj, ?_⟩
      split at h
      · exact h
      · rename_i hn
        exfalso
        apply hs
        rw [← h]
        have : ¬ j < env'.length := fun z => hn ⟨hj, z⟩
        simp [List.getD_eq_getElem?_getD, Nat.le_of_not_lt this]
    · right
      rw [if_neg (fun z => hj z.1)] at h
      exact ⟨hj, h⟩
  have owns : ∀ {j d a}, (unwipe env env' is).getD j .nil = .o d → σ'[j]? = some (some (.ref a)) → (j ∈ is ∧ env.getD j .nil = .o d ∧ σ[j]? = some (some (.ref a)) ∧ ¬ Owns (wipe env is) σ a ∧ H1 a ≠ none) ∨ (env'.getD j .nil = .o d ∧ (Owns (wipe env is) σ a ∨ H1 a = none)) := fun {j d a} h e => by
    rcases pick h (fun z => nomatch z) with ⟨hj, h⟩ | ⟨hj, h⟩
    · rw [ro j hj] at e
      obtain ⟨b, e2, _, _, _, no, nn⟩ := old hj h
      rw [e] at e2
      cases e2
      exact .inl ⟨hj, h, e, no, nn⟩
    · exact .inr ⟨h, w.own a ⟨j, d, h, e⟩⟩
  refine ⟨⟨w.rel.sub, by rw [unwipe_len, len, R.len, w.len], fun j => ?_, fun i j d e a h1 h2 e1 e2 => ?_⟩, w.step.weak fun a h => h.wipe, fun a ⟨j, d, h, e⟩ => ?_, fun j hj => w.ro j (List.mem_append_left _ hj), w.len⟩
  · generalize hs : (unwipe env env' is).getD j .nil = s
    cases s with
    | nil => trivial
    | v d =>
      rcases pick hs (fun z => nomatch z) with ⟨hj, h⟩ | ⟨hj, h⟩
      · obtain ⟨u, e, r⟩ := R.val h
        exact ⟨u, (ro j hj).trans e, r.mono w.step.mono⟩
      · exact w.rel.val h
    | o d =>
      rcases pick hs (fun z => nomatch z) with ⟨hj, h⟩ | ⟨hj, h⟩
      · obtain ⟨a, e, _, n, ow, _⟩ := old hj h
        exact ⟨a, (ro j hj).trans e, n, ow⟩
      · exact w.rel.own h
  · rcases owns h1 e1 with ⟨j1, g1, s1, n1, m1⟩ | ⟨g1, o1⟩
    · rcases owns h2 e2 with ⟨j2, g2, s2, n2, m2⟩ | ⟨g2, o2⟩
      · exact R.one _ _ _ _ _ g1 g2 s1 s2
      · rcases o2 with z | z
        · exact absurd z n1
        · exact absurd z m1
    · rcases owns h2 e2 with ⟨j2, g2, s2, n2, m2⟩ | ⟨g2, o2⟩
      · rcases o1 with z | z
        · exact absurd z n2
        · exact absurd z m2
      · exact w.rel.one _ _ _ _ _ g1 g2 e1 e2
  · rcases owns h e with ⟨j1, g1, s1, _⟩ | ⟨g1, o1⟩
    · exact .inl ⟨j, d, g1, s1⟩
    · exact o1.imp (fun z => z.wipe) fun z => z
theorem wipe_ro {K : PySem.W.Frag} {F H : Hp} {env : Env} {σ : L2.St} (R : Rel K F env σ H) (is : List Nat) : WentS K is σ (wipe env is) F H σ (wipe env is) F H := WentS.refl (R.wipe is)
theorem snd_for {t : T} {it : It} {body : Ss} {tg iter : Expr} {pb : List Stmt} (hp : PassesOwn (model X.prog X.w) X.A X.env X.xe) (hc : X.calm = true) (hRO : ∀ i ∈ tix t, i ∉ RO ++ hide it) (hi : PI X tg iter (rdI X.K C W it)) (hg : PG X tg (rdG X.K t)) (hb : PSs X pb (rdSs X.K C W (RO ++ hide it) nw body)) (hs : ∀ x, foldedSetIterable iter X.env x = pure x) :
    PS X (.For tg iter pb [] pos) (rdS X.K C W RO nw (.for t it body)) := by
  refine (ps_for hp hc hi hg hb hs).imp fun D σ H ⟨F, env, R, o⟩ => ?_
  simp only [exe] at o
  refine ⟨F, env, R, o.bind.mono (fun ⟨xs, env1⟩ o J F1 H1 w1 hz wk => ?_) fun _ h => h⟩
  have w1 : Went X.K σ env F H env1 F1 H1 := w1
  have o : OutM (forL (fun x env => do exes C body (← noX (asgT t x env))) xs (wipe env1 (hide it)) >>= fun p => (.ok (p.1, unwipe env1 p.2 (hide it)) : M (Flow × Env))) (fun p => EndOk X.K RO nw σ env F H D p.1 p.2) (EXW X.K W σ env F H) := o
  have o := OutM.bind o
  refine ⟨fun i m σ' H' => m = xs.length - i ∧ i ≤ xs.length ∧ ∃ F' ev, WentS X.K (RO ++ hide it) σ (wipe env1 (hide it)) F1 H1 σ' ev F' H' ∧
      OutM (forL (fun x env => do exes C body (← noX (asgT t x env))) (xs.drop i) ev) (fun p => OutM (.ok (p.1, unwipe env1 p.2 (hide it)) : M (Flow × Env)) (fun p => EndOk X.K RO nw σ env F H D p.1 p.2) (EXW X.K W σ env F H)) (EXW X.K W σ env F H),
    ⟨_, rfl, Nat.zero_le _, F1, _, WentS.refl (w1.rel.wipe _), o⟩, ?_⟩
  have fin : ∀ {σ' : L2.St} {ev : Env} {F' H' : Hp}, WentS X.K (RO ++ hide it) σ (wipe env1 (hide it)) F1 H1 σ' ev F' H' → WentS X.K RO σ env F H σ' (unwipe env1 ev (hide it)) F' H' := fun w =>
    (WentS.of w1).trans (WentS.show w1.rel w)
  rintro i m σ2 H2 ⟨rfl, hi, F2, ev, w2, o2⟩
  have st : Step (Owns (wipe env1 (hide it)) σ) F1 H1 F2 H2 := w2.step
  obtain ⟨wk1, wk2⟩ := wk F2 H2 (st.weak fun _ h => .inr h) w2.rel.sub
  by_cases hlt : i < xs.length
  · right
    obtain ⟨g1, g2⟩ := wk2 i xs[i] (by simp [hlt])
    refine ⟨g1, fun σ' H' => ∃ m', m' < xs.length - i ∧ (m' = xs.length - (i + 1) ∧ i + 1 ≤ xs.length ∧ ∃ F' ev, WentS X.K (RO ++ hide it) σ (wipe env1 (hide it)) F1 H1 σ' ev F' H' ∧
      OutM (forL (fun x env => do exes C body (← noX (asgT t x env))) (xs.drop (i + 1)) ev) (fun p => OutM (.ok (p.1, unwipe env1 p.2 (hide it)) : M (Flow × Env)) (fun p => EndOk X.K RO nw σ env F H D p.1 p.2) (EXW X.K W σ env F H)) (EXW X.K W σ env F H)), fun σ' H' h => h, fun v H3 hy => ?_⟩
    obtain ⟨F3, g, rv⟩ := g2 v H3 hy
    rw [List.drop_eq_getElem_cons hlt, forL_cons] at o2
    have o2 : OutM ((noX (asgT t xs[i] ev) >>= fun e => exes C body e) >>= _) _ _ := o2
    have w3 := for_turn w2 g
    cases ht : noX (asgT t xs[i] ev) with
    | error e =>
      cases hq : asgT t xs[i] ev with
      | ok _ => rw [hq] at ht; cases ht
      | error _ =>
        rw [hq] at ht
        cases ht
        rw [hq] at o2
        exact o2.elim
    | ok ev1 =>
      rw [ht] at o2
      have o2 : OutM (exes C body ev1 >>= fun (p : Flow × Env) => match p.1 with | .next => forL (fun x env => do exes C body (← noX (asgT t x env))) (xs.drop (i + 1)) p.2 | .cont => forL (fun x env => do exes C body (← noX (asgT t x env))) (xs.drop (i + 1)) p.2 | .brk => .ok (.next, p.2) | .ret d => .ok (.ret d, p.2)) _ _ := o2
      refine ⟨F3, ev, xs[i], ev1, w3.rel, rv, noX_ok ht, fun σ4 p => ?_⟩
      have w4 : WentS X.K (RO ++ hide it) σ (wipe env1 (hide it)) F1 H1 σ4 ev1 F3 H3 := w3.trans (.put (Went.refl w3.rel) p hRO)
      have wE : WentS X.K (RO ++ hide it) σ env F H σ4 ev1 F3 H3 := (show WentS X.K (RO ++ hide it) σ env F H σ (wipe env1 (hide it)) F1 H1 from ⟨w1.rel.wipe _, w1.step, fun a h => .inl (w1.own a h.wipe), fun _ _ => rfl, rfl⟩).trans w4
      refine ⟨F3, ev1, w4.rel, OutM.mono (OutM.bind o2) (fun ⟨fl, ev2⟩ o3 => ?_) (EXW.onS wE)⟩
      · cases fl with
        | next => exact fun σ5 F5 H5 w5 => ⟨_, by omega, rfl, hlt, F5, ev2, w4.trans w5, o3⟩
        | cont => exact fun σ5 F5 H5 w5 => ⟨_, by omega, rfl, hlt, F5, ev2, w4.trans w5, o3⟩
        | brk => exact fun σ5 F5 H5 w5 => o3 σ5 F5 H5 (fin (w4.trans w5))
        | ret d => exact fun v σ5 F5 H5 w5 r => o3 v σ5 F5 H5 (fin (w4.trans w5)) (r.back wE.step.dom)
  · left
    have e : i = xs.length := by omega
    subst e
    rw [List.drop_length] at o2
    have o2 : EndOk X.K RO nw σ env F H D .next (unwipe env1 ev (hide it)) := o2
    exact ⟨wk1, o2 σ2 F2 H2 (fin w2)⟩
theorem snd_while {c : E} {body : Ss} {pc : Expr} {pb : List Stmt} (hp : PassesOwn (model X.prog X.w) X.A X.env X.xe) (hc : PT X pc (rdT X.K C W c)) (hb : PSs X pb (rdSs X.K C W RO nw body)) : PS X (.While pc pb [] pos) (rdS X.K C W RO nw (.whl c body)) := by
  refine (ps_while hp hc hb).imp fun D σ H ⟨F, env, R, o⟩ => ?_
  have o : OutM (whileN (tru C c) (fun env => exes C body env) C.W env) (fun p => EndOk X.K RO nw σ env F H D p.1 p.2) (EXW X.K W σ env F H) := o
  refine ⟨fun m σ' H' => ∃ F' ev, WentS X.K RO σ env F H σ' ev F' H' ∧ OutM (whileN (tru C c) (fun env => exes C body env) m ev) (fun p => EndOk X.K RO nw σ env F H D p.1 p.2) (EXW X.K W σ env F H), ⟨C.W, F, env, WentS.refl R, o⟩, ?_⟩
  rintro m σ2 H2 ⟨F2, ev, w2, o2⟩
  cases m with
  | zero => exact o2.elim
  | succ m =>
    have o2 : OutM (tru C c ev >>= fun p => if p.1 = true then (exes C body p.2 >>= fun q => match q.1 with
      | .next => whileN (tru C c) (fun env => exes C body env) m q.2
      | .cont => whileN (tru C c) (fun env => exes C body env) m q.2
      | .brk => .ok (.next, q.2)
      | .ret d => .ok (.ret d, q.2)) else .ok (.next, p.2)) (fun p => EndOk X.K RO nw σ env F H D p.1 p.2) (EXW X.K W σ env F H) := o2
    refine ⟨F2, ev, w2.rel, OutM.mono (OutM.bind o2) (fun ⟨b, ev1⟩ o3 F3 H3 w3 => ?_) (EXW.onS w2)⟩
    have w3' : WentS X.K RO σ env F H σ2 ev1 F3 H3 := w2.trans (.of w3)
    cases b with
    | false => exact (show EndOk X.K RO nw σ env F H D .next ev1 from o3) σ2 F3 H3 w3'
    | true =>
      refine ⟨fun σ' H' => ∃ m', m' < m + 1 ∧ ∃ F' ev, WentS X.K RO σ env F H σ' ev F' H' ∧ OutM (whileN (tru C c) (fun env => exes C body env) m' ev) (fun p => EndOk X.K RO nw σ env F H D p.1 p.2) (EXW X.K W σ env F H), fun _ _ h => h, F3, ev1, w3.rel, OutM.mono (OutM.bind o3) (fun ⟨fl, ev2⟩ o4 => ?_) (EXW.onS w3')⟩
      cases fl with
      | next => exact fun σ5 F5 H5 w5 => ⟨m, by omega, F5, ev2, w3'.trans w5, o4⟩
      | cont => exact fun σ5 F5 H5 w5 => ⟨m, by omega, F5, ev2, w3'.trans w5, o4⟩
      | brk => exact fun σ5 F5 H5 w5 => (show EndOk X.K RO nw σ env F H D .next ev2 from o4) σ5 F5 H5 (w3'.trans w5)
      | ret d => exact fun v σ5 F5 H5 w5 r => (show EndOk X.K RO nw σ env F H D (.ret d) ev2 from o4) v σ5 F5 H5 (w3'.trans w5) (r.back w3'.step.dom)
end
end L2.DN

/-! DenS: list comprehensions of two clauses -/
namespace L2.DN
open PySem PySem.Spec PyProof.Rows L2
section
variable {K : PySem.W.Frag} {F F' H H' F1 H1 : Hp} {O : Addr → Prop} {env env' : Env} {σ σ2 : L2.St} {own own1 : List Nat}
theorem env_ext : ∀ {a b : Env}, a.length = b.length → (∀ j, a.getD j .nil = b.getD j .nil) → a = b := fun {a b} hl h => by
  refine List.ext_getElem hl fun i h1 h2 => ?_
  have := h i
  rw [List.getD_eq_getElem?_getD, List.getD_eq_getElem?_getD, List.getElem?_eq_getElem h1, List.getElem?_eq_getElem h2] at this
  exact this
theorem wipe_sub (env : Env) (h : ∀ i ∈ own1, i ∈ own) : wipe (wipe env own1) own = wipe env own := by
  refine env_ext (by rw [wipe_len, wipe_len, wipe_len]) fun j => ?_
  rw [getD_wipe, getD_wipe, getD_wipe]
  by_cases hj : j ∈ own
  · rw [if_pos hj, if_pos hj]
  · rw [if_neg hj, if_neg hj, if_neg fun z => hj (h j z)]
/-- behind the second clause's loop: the first one's state -/
theorem Mid.up (m : Mid K σ2 O own1 F1 H1 env F H) (h : ∀ i ∈ own1, i ∈ own) (hl : σ2.length = σ.length) (hσ : ∀ j, j ∉ own → σ2[j]? = (L2.wipe σ own)[j]?) : Mid K σ O own F1 H1 env F H := by
  have sw : ∀ j, (wipe env own).getD j .nil ≠ .nil → (L2.wipe σ own)[j]? = (L2.wipe σ2 own1)[j]? := fun j hj => by
    have hj := (wipe_nil hj).1
    rw [← hσ j hj, L2.wipe_out fun z => hj (h j z)]
  have r := m.rel.wipe own
  rw [wipe_sub env h] at r
  refine ⟨m.step, r.swap (by rw [L2.wipe_length, L2.wipe_length, hl]) sw, fun a ha => m.own a ?_⟩
  have : Owns (wipe env own) (L2.wipe σ2 own1) a := ha.swap sw
  rw [← wipe_sub env h] at this
  exact Owns.wipe this
/-- ahead of the second clause's loop -/
theorem Mid.down (st : Step O F1 H1 F H) (R : Rel K F env σ2 H) (ho : ∀ a, Owns env σ2 a → O a) : Mid K σ2 O own1 F1 H1 env F H := by
  have sw : ∀ j, (wipe env own1).getD j .nil ≠ .nil → (L2.wipe σ2 own1)[j]? = σ2[j]? := fun j hj => L2.wipe_out (wipe_nil hj).1
  refine ⟨st, (R.wipe own1).swap (L2.wipe_length _ _) sw, fun a ha => ho a (Owns.wipe (ha.swap sw))⟩
end
def itemF2 (C : Cfg) (own own1 : List Nat) (t : T) (ifs : Es) (t1 : T) (it1 : It) (ifs1 : Es) (e : E) (x : D) (env : Env) : M (List D × Env) := noX (asgT t x (wipe env own)) >>= fun env => denIfs C ifs env >>= fun p => if p.1 = true then (deni C it1 p.2 >>= fun r => compL (itemF C own1 t1 ifs1 e) r.1 (wipe r.2 (hide it1)) >>= fun s => .ok (s.1, unwipe r.2 s.2 (hide it1))) else .ok ([], p.2)
section
variable {X : Cx} {C : Cfg} {W : Exs}
theorem den_comp2 {own own1 : List Nat} {t : T} {it : It} {ifs : Es} {t1 : T} {it1 : It} {ifs1 : Es} {e : E} {env : Env} : den C (.comp2 own own1 t it ifs t1 it1 ifs1 e) env = (deni C it env >>= fun p => noX (compL (itemF2 C own own1 t ifs t1 it1 ifs1 e) p.1 (wipe p.2 (hide it))) >>= fun q => if q.1.length ≤ sz then .ok (.lst q.1, unwipe p.2 q.2 (own ++ hide it)) else stk) := by
  simp only [den]
  rfl
theorem comp2_wp {K : PySem.W.Frag} {own own1 : List Nat} {t : T} {it : It} {ifs : Es} {t1 : T} {it1 : It} {ifs1 : Es} {e : E} {σ : L2.St} {H : Hp} {Q : VK} (ht : ∀ i ∈ tix t, i ∈ own) (ht1 : ∀ i ∈ tix t1, i ∈ own1) (h11 : ∀ i ∈ own1, i ∈ own) (hh : hide it1 = [])
    (h : rdR K C W true (.comp2 own own1 t it ifs t1 it1 ifs1 e) σ H Q) :
    tLc2 (rdI K C W it) (rdG K t) (rdIf K C (E0W W.cls) ifs) (rdI K C (E0W W.cls) it1) (rdG K t1) (rdIf K C (E0W W.cls) ifs1) (rdE K C (E0W W.cls) e) own own1 σ H Q := by
  obtain ⟨F, env, R, o⟩ := h
  rw [den_comp2] at o
  refine ⟨F, env, R, o.bind.mono (fun ⟨xs, env1⟩ o J F1 H1 w1 hz wk L hL => ?_) fun _ h => h⟩
  obtain ⟨⟨ys, env'⟩, q1, q2⟩ := OutM.pure o exw_stuck
  have hz : xs.length ≤ sizeLine := hz
  by_cases hys : ys.length ≤ sz
  case neg =>
    have q2 : OutM (if ys.length ≤ sz then (.ok (.lst ys, unwipe env1 env' (own ++ hide it)) : M (D × Env)) else stk) _ _ := q2
    rw [if_neg hys] at q2
    exact q2.elim
  have q2 : OutM (if ys.length ≤ sz then (.ok (.lst ys, unwipe env1 env' (own ++ hide it)) : M (D × Env)) else stk) _ _ := q2
  rw [if_pos hys] at q2
  have q2 : ∀ v F' H', Went K σ env F H (unwipe env1 env' (own ++ hide it)) F' H' → NewOk K F' H H' v (.lst ys) → Q v H' := q2
  have hO : ∀ a, Owns (wipe env1 (own ++ hide it)) σ a → ∃ o, H1 a = some o := fun a h => owns_some (w1.rel.wipe _) h
  refine ⟨fun i m H => m = xs.length - i ∧ i ≤ xs.length ∧ ∃ ev F vacc acc rest, Mid K σ (Owns (wipe env1 (own ++ hide it)) σ) own F1 H1 ev F H ∧ F L = none ∧ H L = some (.lst vacc) ∧ Reps K F vacc acc ∧ compL (itemF2 C own own1 t ifs t1 it1 ifs1 e) (xs.drop i) ev = .ok (rest, env') ∧ acc ++ rest = ys,
    ⟨_, rfl, Nat.zero_le _, wipe env1 (hide it), F1, [], [], ys, Mid.start w1.rel hL, ?_, upd_same, .nil, q1, rfl⟩, ?_⟩
  · cases q : F1 L with
    | none => rfl
    | some o => rw [w1.rel.sub _ _ q] at hL; cases hL
  rintro i m H2 ⟨rfl, hi, ev, F2, vacc, acc, rest, md, hF2, hL2, hr, hcl, rfl⟩
  have st : Step (Owns (wipe env1 (hide it)) σ) F1 H1 F2 H2 := md.step.weak fun a h => by rw [wipe_app] at h; exact h.wipe
  obtain ⟨wk1, wk2⟩ := wk F2 H2 (st.weak fun _ h => .inr h) md.rel.sub
  by_cases hlt : i < xs.length
  · right
    obtain ⟨g1, g2⟩ := wk2 i xs[i] (by simp [hlt])
    rw [List.drop_eq_getElem_cons hlt] at hcl
    obtain ⟨a, ev1, b, ev2, c1, c2, c3⟩ := compL_cons hcl
    cases c3
    refine ⟨g1, fun H' => ∃ m', m' < xs.length - i ∧ (m' = xs.length - (i + 1) ∧ i + 1 ≤ xs.length ∧ ∃ ev F vacc acc' rest', Mid K σ (Owns (wipe env1 (own ++ hide it)) σ) own F1 H1 ev F H' ∧ F L = none ∧ H' L = some (.lst vacc) ∧ Reps K F vacc acc' ∧ compL (itemF2 C own own1 t ifs t1 it1 ifs1 e) (xs.drop (i + 1)) ev = .ok (rest', env') ∧ acc' ++ rest' = acc ++ (a ++ b)), fun H' h => h, fun v H3 hy => ?_⟩
    obtain ⟨F3, g, rv⟩ := g2 v H3 hy
    have hF3 : F3 L = none := by
      cases q : F3 L with
      | none => rfl
      | some u =>
        rcases g.fr L u q with z | z
        · rw [hF2] at z; cases z
        · exact (z.lst hL2).elim
    have md3 := md.grow hO g
    have hL3 := g.h _ _ hL2
    have hr3 := hr.mono g.f
    -- the first clause's store and tests
    unfold itemF2 at c1
    obtain ⟨env2, e1, c1⟩ := bind_ok c1
    have e1 := noX_ok e1
    obtain ⟨⟨bb, env3⟩, e2, c1⟩ := bind_ok c1
    refine ⟨F3, _, xs[i], env2, md3.rel, rv, e1, fun σ2 p => ⟨md3.store ht p, F3, env2, p.rel, OutM.of e2 fun F4 H4 w4 => ?_⟩⟩
    have nO : ¬ Owns (wipe env1 (own ++ hide it)) σ L := fun z => by obtain ⟨o, ho⟩ := hO L z; rw [hL] at ho; cases ho
    have nOw : ∀ {ev : Env}, (∀ a, Owns ev σ2 a → Owns env2 σ2 a) → ¬ Owns ev σ2 L := fun f z => nO (md3.own _ (p.own _ (f _ z)))
    have keepL : ∀ {ev F2 H2 ev' F3 H3}, Went K σ2 ev F2 H2 ev' F3 H3 → (∀ a, Owns ev σ2 a → Owns env2 σ2 a) → ∀ o, H2 L = some o → H3 L = some o := fun w f o ho => w.step.keep _ _ ho (nOw f)
    have noneL : ∀ {ev F2 H2 ev' F3 H3}, Went K σ2 ev F2 H2 ev' F3 H3 → (∀ a, Owns ev σ2 a → Owns env2 σ2 a) → ∀ o, H2 L = some (.lst o) → F2 L = none → F3 L = none := fun {ev F2 H2 ev' F3 H3} w f o ho n => by
      cases q : F3 L with
      | none => rfl
      | some u =>
        rcases w.step.fr L u q with z | z | z
        · rw [n] at z; cases z
        · exact (z.lst ho).elim
        · exact absurd z (nOw f)
    have hL4 := keepL w4 (fun _ h => h) _ hL3
    have hF4 := noneL w4 (fun _ h => h) _ hL3 hF3
    have hr4 := hr3.mono w4.step.mono
    cases bb with
    | false =>
      have := ok_inj c1
      cases this
      exact ⟨_, by omega, rfl, hlt, env3, F4, vacc, acc, b, md3.back ht p w4, hF4, hL4, hr4, c2, by rw [List.nil_append]⟩
    | true =>
      obtain ⟨⟨zs, env4⟩, e3, c1⟩ := bind_ok c1
      have c1 : (compL (itemF C own1 t1 ifs1 e) zs (wipe env4 (hide it1)) >>= fun s => (.ok (s.1, unwipe env4 s.2 (hide it1)) : M (List D × Env))) = .ok (a, ev1) := c1
      rw [hh] at c1
      obtain ⟨⟨as, env5⟩, e4, c1⟩ := bind_ok c1
      have c1 := ok_inj c1
      have c1 : (as, env5) = (a, ev1) := c1
      injection c1 with ca ce
      subst ca ce
      refine ⟨F4, env3, w4.rel, OutM.of e3 fun J1 F5 H5 w5 hz1 wk1' => ?_⟩
      have hz1 : zs.length ≤ sizeLine := hz1
      have hL5 := keepL w5 w4.own _ hL4
      have hF5 := noneL w5 w4.own _ hL4 hF4
      have hr5 := hr4.mono w5.step.mono
      have w45 := w4.trans w5
      have hown : ∀ a, Owns env4 σ2 a → Owns (wipe env1 (own ++ hide it)) σ a := fun a h => md3.own a (p.own a (w45.own a h))
      have st5 : Step (Owns (wipe env1 (own ++ hide it)) σ) F1 H1 F5 H5 := md3.step.trans w45.step fun a h => .inl (md3.own a (p.own a h))
      have hl2 : σ2.length = σ.length := by
        have := p.len
        rw [wipe_len] at this
        rw [← p.rel.len, p.len, wipe_len, ← L2.wipe_length σ own, ← md3.rel.len, wipe_len]
      have hσ2 : ∀ j, j ∉ own → σ2[j]? = (L2.wipe σ own)[j]? := fun j hj => p.out j fun z => hj (ht j z)
      refine ⟨fun j k H => k = zs.length - j ∧ j ≤ zs.length ∧ ∃ ev F vacc acc' rest', Mid K σ2 (Owns (wipe env1 (own ++ hide it)) σ) own1 F1 H1 ev F H ∧ Step (fun _ => True) F5 H5 F H ∧ F L = none ∧ H L = some (.lst vacc) ∧ Reps K F vacc acc' ∧ compL (itemF C own1 t1 ifs1 e) (zs.drop j) ev = .ok (rest', env5) ∧ acc' ++ rest' = acc ++ as,
        ⟨_, rfl, Nat.zero_le _, env4, F5, vacc, acc, as, Mid.down st5 w5.rel hown, Step.refl, hF5, hL5, hr5, e4, rfl⟩, ?_⟩
      rintro j k H6 ⟨rfl, hj, ev6, F6, vacc6, acc6, rest6, md6, st6, hF6, hL6, hr6, hcl6, hacc6⟩
      obtain ⟨wj1, wj2⟩ := wk1' F6 H6 (st6.weak fun _ _ => .inl hh) md6.rel.sub
      by_cases hlt6 : j < zs.length
      · right
        obtain ⟨g61, g62⟩ := wj2 j zs[j] (by simp [hlt6])
        rw [List.drop_eq_getElem_cons hlt6] at hcl6
        obtain ⟨a6, ev7, b6, ev8, d1, d2, d3⟩ := compL_cons hcl6
        cases d3
        refine ⟨g61, fun H' => ∃ k', k' < zs.length - j ∧ (k' = zs.length - (j + 1) ∧ j + 1 ≤ zs.length ∧ ∃ ev F vacc acc' rest', Mid K σ2 (Owns (wipe env1 (own ++ hide it)) σ) own1 F1 H1 ev F H' ∧ Step (fun _ => True) F5 H5 F H' ∧ F L = none ∧ H' L = some (.lst vacc) ∧ Reps K F vacc acc' ∧ compL (itemF C own1 t1 ifs1 e) (zs.drop (j + 1)) ev = .ok (rest', env5) ∧ acc' ++ rest' = acc ++ as), fun H' h => h, fun v6 H7 hy7 => ?_⟩
        obtain ⟨F7, g7, rv7⟩ := g62 v6 H7 hy7
        have hF7 : F7 L = none := by
          cases q : F7 L with
          | none => rfl
          | some u =>
            rcases g7.fr L u q with z | z
            · rw [hF6] at z; cases z
            · exact (z.lst hL6).elim
        have hzz : a6 ≠ [] → vacc6.length < sizeLine := fun hne => by
          have e := congrArg List.length hacc6
          rw [List.length_append, List.length_append, List.length_append] at e
          have h1 : 0 < a6.length := List.length_pos_iff.mpr hne
          have h2 : (acc ++ (as ++ b)).length ≤ sz := hys
          rw [List.length_append, List.length_append] at h2
          rw [hr6.length, ← sz_eq]
          omega
        refine turn_item (md6.grow hO g7) hO hL hF7 (g7.h _ _ hL6) (hr6.mono g7.f) ht1 rv7 hzz d1 fun F' H' vacc' md' sF dH n' l' r' z' => ?_
        have stN : Step (fun _ => True) F5 H5 F' H' := ⟨fun a o e n => absurd trivial n, (st6.mono.trans g7.f).trans sF, fun a o e => .inr (.inr trivial), fun a e => st6.dom a (none_sub g7.h (dH a e))⟩
        exact ⟨_, by omega, rfl, hlt6, ev7, F', vacc', acc6 ++ a6, b6, md', stN, n', l', r', d2, by rw [List.append_assoc]; exact hacc6⟩
      · left
        have ej : j = zs.length := by omega
        subst ej
        rw [List.drop_length] at hcl6
        have := ok_inj hcl6
        cases this
        rw [List.append_nil] at hacc6
        refine ⟨wj1, _, by omega, rfl, hlt, env5, F6, vacc6, acc6, b, md6.up h11 hl2 hσ2, hF6, hL6, hr6, c2, by rw [hacc6, List.append_assoc]⟩
  · left
    have e : i = xs.length := by omega
    subst e
    rw [List.drop_length] at hcl
    have := ok_inj hcl
    cases this
    rw [List.append_nil] at q2
    refine ⟨wk1, ?_⟩
    exact q2 _ _ _ (w1.trans (Mid.done w1.rel md)) ⟨L, rfl, hF2, w1.step.dom L hL, .lst hL2 hr⟩
theorem snd_comp2 {own own1 : List Nat} {ownp : List (Str × Nat)} {t : T} {it : It} {ifs : Es} {t1 : T} {it1 : It} {ifs1 : Es} {e : E} {elt tg iter tg1 iter1 : Expr} {pifs pifs1 : List Expr} {scope : Scope} {pos : Pos} (hc : X.calm = true) (hN : X.N.Nodup) (hi : PI X tg iter (rdI X.K C W it)) (ok : BlkOk X.N X.env.scope scope ownp) (ho : ownp.map (·.2) = own) (ht : ∀ i ∈ tix t, i ∈ own) (ht1 : ∀ i ∈ tix t1, i ∈ own1) (h11 : ∀ i ∈ own1, i ∈ own) (hh : hide it1 = [])
    (h1 : ∀ (s : Shared) (H : Hp) (A : Addr) (cl : List (Str × Addr)) (fp : List Addr), PG (X.blk s H scope (compEnvC scope cl A X.env) fp) tg (rdG X.K t)) (h2 : ∀ (s : Shared) (H : Hp) (A : Addr) (cl : List (Str × Addr)) (fp : List Addr), PTs (X.blk s H scope (compEnvC scope cl A X.env) fp) pifs (rdIf X.K C (E0W W.cls) ifs))
    (h3 : ∀ (s : Shared) (H : Hp) (A : Addr) (cl : List (Str × Addr)) (fp : List Addr), PI (X.blk s H scope (compEnvC scope cl A X.env) fp) tg1 iter1 (rdI X.K C (E0W W.cls) it1))
    (h4 : ∀ (s : Shared) (H : Hp) (A : Addr) (cl : List (Str × Addr)) (fp : List Addr), PG (X.blk s H scope (compEnvC scope cl A X.env) fp) tg1 (rdG X.K t1)) (h5 : ∀ (s : Shared) (H : Hp) (A : Addr) (cl : List (Str × Addr)) (fp : List Addr), PTs (X.blk s H scope (compEnvC scope cl A X.env) fp) pifs1 (rdIf X.K C (E0W W.cls) ifs1))
    (h6 : ∀ (s : Shared) (H : Hp) (A : Addr) (cl : List (Str × Addr)) (fp : List Addr), PE (X.blk s H scope (compEnvC scope cl A X.env) fp) elt (rdE X.K C (E0W W.cls) e)) (hs : ∀ x, foldedSetIterable iter X.env x = pure x) (hs1 : ∀ env x, foldedSetIterable iter1 env x = pure x) :
    PE X (.ListComp elt [⟨tg, iter, pifs, 0⟩, ⟨tg1, iter1, pifs1, 0⟩] scope pos) (rdR X.K C W true (.comp2 own own1 t it ifs t1 it1 ifs1 e)) := by
  subst ho
  exact (pe_lc2 hc hN hi ok h11 h1 h2 h3 h4 h5 h6 hs hs1).imp fun σ H Q h => comp2_wp ht ht1 h11 hh h
theorem snd_ownLc2 {RO : List Nat} {nw : Bool} {i : Nat} {y : Str} {py : Pos} {own own1 : List Nat} {ownp : List (Str × Nat)} {t : T} {it : It} {ifs : Es} {t1 : T} {it1 : It} {ifs1 : Es} {e : E} {elt tg iter tg1 iter1 : Expr} {pifs pifs1 : List Expr} {scope : Scope} {cpos pos : Pos} {b : Bool} (hRO : i ∉ RO) (hc : X.calm = true) (hN : X.N.Nodup) (hy : X.N[i]? = some y) (hyl : X.env.scope.names.lookup y = some .local)
    (hsw : swapsWith (.ListComp elt [⟨tg, iter, pifs, 0⟩, ⟨tg1, iter1, pifs1, 0⟩] scope cpos) (some (.Name y py)) pos.line X.env = pure true) (hi : PI X tg iter (rdI X.K C W it)) (ok : BlkOk X.N X.env.scope scope ownp) (ho : ownp.map (·.2) = own) (ht : ∀ i ∈ tix t, i ∈ own) (ht1 : ∀ i ∈ tix t1, i ∈ own1) (h11 : ∀ i ∈ own1, i ∈ own) (hh : hide it1 = [])
    (h1 : ∀ (s : Shared) (H : Hp) (A : Addr) (cl : List (Str × Addr)) (fp : List Addr), PG (X.blk s H scope (compEnvC scope cl A X.env) fp) tg (rdG X.K t)) (h2 : ∀ (s : Shared) (H : Hp) (A : Addr) (cl : List (Str × Addr)) (fp : List Addr), PTs (X.blk s H scope (compEnvC scope cl A X.env) fp) pifs (rdIf X.K C (E0W W.cls) ifs))
    (h3 : ∀ (s : Shared) (H : Hp) (A : Addr) (cl : List (Str × Addr)) (fp : List Addr), PI (X.blk s H scope (compEnvC scope cl A X.env) fp) tg1 iter1 (rdI X.K C (E0W W.cls) it1))
    (h4 : ∀ (s : Shared) (H : Hp) (A : Addr) (cl : List (Str × Addr)) (fp : List Addr), PG (X.blk s H scope (compEnvC scope cl A X.env) fp) tg1 (rdG X.K t1)) (h5 : ∀ (s : Shared) (H : Hp) (A : Addr) (cl : List (Str × Addr)) (fp : List Addr), PTs (X.blk s H scope (compEnvC scope cl A X.env) fp) pifs1 (rdIf X.K C (E0W W.cls) ifs1))
    (h6 : ∀ (s : Shared) (H : Hp) (A : Addr) (cl : List (Str × Addr)) (fp : List Addr), PE (X.blk s H scope (compEnvC scope cl A X.env) fp) elt (rdE X.K C (E0W W.cls) e)) (hs : ∀ x, foldedSetIterable iter X.env x = pure x) (hs1 : ∀ env x, foldedSetIterable iter1 env x = pure x) :
    PS X (.Assign [.Name y py] (.ListComp elt [⟨tg, iter, pifs, 0⟩, ⟨tg1, iter1, pifs1, 0⟩] scope cpos) pos) (rdS X.K C W RO nw (if b then .own i (.comp2 own own1 t it ifs t1 it1 ifs1 e) else .asg (.n i) (.comp2 own own1 t it ifs t1 it1 ifs1 e))) := by
  subst ho
  refine (ps_setLc2 hc hN hy hyl hsw hi ok h11 h1 h2 h3 h4 h5 h6 hs hs1).imp fun D σ H h => ?_
  cases b with
  | true => exact comp2_wp ht ht1 h11 hh (own_wp hRO h)
  | false =>
    obtain ⟨F, env, R, o⟩ := asg_wp (b := false) hRO h
    refine comp2_wp ht ht1 h11 hh ⟨F, env, R, o.mono (fun p o v F' H' w r => ?_) fun _ h => h⟩
    obtain ⟨a, rfl, n, z, ow⟩ := r
    obtain ⟨u, hu, rp⟩ := own_fix ow n
    exact o _ _ _ (w.fix R z n hu) rp
end
end L2.DN

/-! DenR: slices by steps, sorting, sets that are made where they stand -/
namespace HT
open PySem PyProof.Rows
theorem pick_all {α : Type} : ∀ l : List α, (List.range l.length).filterMap (fun m => l[m]?) = l
  | [] => rfl
  | x :: l => by
    rw [List.length_cons, List.range_succ_eq_map, List.filterMap_cons]
    show x :: ((List.range l.length).map Nat.succ).filterMap (fun m => (x :: l)[m]?) = _
    rw [List.filterMap_map]
    congr 1
    exact pick_all l
theorem filterMap_eq {α : Type} {f g : Nat → Option α} : ∀ {l : List Nat}, (∀ m ∈ l, f m = g m) → l.filterMap f = l.filterMap g
  | [], _ => rfl
  | m :: l, h => by
    rw [List.filterMap_cons, List.filterMap_cons, h m List.mem_cons_self, filterMap_eq fun k hk => h k (List.mem_cons_of_mem _ hk)]
theorem pick_rev {α : Type} (l : List α) : (List.range l.length).filterMap (fun m : Nat => l[(((l.length : Int) - 1) + (m : Int) * (-1)).toNat]?) = l.reverse := by
  have e := pick_all l.reverse
  rw [List.length_reverse] at e
  rw [← e]
  refine filterMap_eq fun m hm => ?_
  have hm := List.mem_range.mp hm
  rw [List.getElem?_reverse hm]
  congr 1
  omega
theorem pick_two {α : Type} : ∀ l : List α, (List.range ((l.length + 1) / 2)).filterMap (fun m : Nat => l[(0 + (m : Int) * 2).toNat]?) = L2.DN.step2 l
  | [] => by simp [L2.DN.step2]
  | [x] => by simp [List.range_succ, L2.DN.step2]
  | x :: y :: r => by
    have e : ((x :: y :: r).length + 1) / 2 = (r.length + 1) / 2 + 1 := by
      show (r.length + 1 + 1 + 1) / 2 = _
      omega
    rw [e, List.range_succ_eq_map, List.filterMap_cons]
    show x :: ((List.range ((r.length + 1) / 2)).map Nat.succ).filterMap (fun m : Nat => (x :: y :: r)[(0 + (m : Int) * 2).toNat]?) = x :: L2.DN.step2 r
    rw [List.filterMap_map, ← pick_two r]
    congr 1
    refine filterMap_eq fun m _ => ?_
    have e2 : (0 + ((Nat.succ m : Nat) : Int) * 2).toNat = (0 + (m : Int) * 2).toNat + 2 := by omega
    show (x :: y :: r)[(0 + ((Nat.succ m : Nat) : Int) * 2).toNat]? = _
    rw [e2]
    rfl
section
variable {prog : Program} {w : World} {A : Around} {E : Value → Shared → Prop} {s : Shared}
theorem sliceApplied_step {sl : Addr} {k : Int} {u : Tok} {n : Nat} {Q : Int × Int × Nat → Shared → Prop} (hs : s.heap.IsSliceOf sl .none .none (.int k u)) (h0 : ¬ ((k == 0) = true))
    (h : Q ((Builtin.Slice.sliceAdjust none none k (n : Int)).1, k, Builtin.Slice.slicePlaces (Builtin.Slice.sliceAdjust none none k (n : Int)).1 (Builtin.Slice.sliceAdjust none none k (n : Int)).2 k) s) : wpAny (model prog w) A (Builtin.Slice.sliceApplied (.ref sl) (pure (n : Int))) Q E s := by
  obtain ⟨os, hos, hcs, hds⟩ := id hs
  unfold Builtin.Slice.sliceApplied Builtin.Slice.sliceFields
  refine wpAny_bind (wpAny_bind (wpAny_field hos hds (x := .none) rfl (wpAny_bind (wpAny_field hos hds (x := .none) rfl (wpAny_bind (wpAny_field hos hds (x := .int k u) rfl (wpAny_pure ?_)))))))
  refine wpAny_bind (slicePart_int ?_)
  show wpAny _ _ (if (k == 0) = true then _ else _) _ _ s
  rw [if_neg h0]
  refine wpAny_bind (slicePart_none (wpAny_bind (slicePart_none (wpAny_bind (wpAny_pure ?_)))))
  exact wpAny_pure h
theorem getItem_tuple_step {t sl : Addr} {items : Array Value} {k : Int} {u : Tok} {Q : Value → Shared → Prop} {ys : List Value} (ht : IsTup s.heap t items) (hs : s.heap.IsSliceOf sl .none .none (.int k u)) (h0 : ¬ ((k == 0) = true)) (h1 : ¬ ((k == 1) = true))
    (hy : ((List.range (Builtin.Slice.slicePlaces (Builtin.Slice.sliceAdjust none none k (items.size : Int)).1 (Builtin.Slice.sliceAdjust none none k (items.size : Int)).2 k)).filterMap fun (m : Nat) => items[((Builtin.Slice.sliceAdjust none none k (items.size : Int)).1 + (m : Int) * k).toNat]?) = ys)
    (hz : ys.length ≤ sizeLine)
    (h : Q (.ref s.heap.objs.size) { s with heap := s.heap.push { cls := .type "tuple", data := .seq ys.toArray } }) : wpAny (model prog w) A (getItem (.ref t) (.ref sl)) Q E s := by
  have htake : sizeOk (.seq ys.toArray) := by
    show ys.toArray.size ≤ sizeLine
    rw [List.size_toArray]
    exact hz
  obtain ⟨os, hos, hcs, hds⟩ := id hs
  have hTs : s.TypeIs (.ref sl) "slice" := ⟨os, hos, hcs⟩
  unfold getItem
  try with_reducible refine wpAny_holding ?_
  first | refine wpAny_bind (wpAny_pure ?_) | skip
  refine wpAny_bind (wpAny_sequenceKey ht.typeIs (by decide) ?_)
  refine wpAny_bind (wpAny_callSpecial?_slot (name := Str.ofString "__getitem__") ht.typeIs PyProof.Rows.slot_tuple_getitem
    (wpAny_call_entry PyProof.Rows.slot_tuple_getitem ht.typeIs entry_tuple_getitem ?_ (args_tuple_getitem _ _)))
  show wpAny _ _ (Builtin.Tuple.tupleItemsOf (.ref t) >>= _) _ _ s
  refine wpAny_bind (tupleItemsOf_ ht ?_)
  refine wpAny_bind (wpAny_typeOf hTs ?_)
  rw [if_pos (by decide)]
  refine wpAny_bind (sliceApplied_step hs h0 ?_)
  generalize (Builtin.Slice.sliceAdjust none none k (items.size : Int)) = lh at hy ⊢
  obtain ⟨lo, hi⟩ := lh
  generalize Builtin.Slice.slicePlaces lo hi k = cnt at hy ⊢
  have hno : ¬ ((lo == 0 && k == 1 && cnt == items.size) = true) := by
    intro q
    rw [Bool.and_eq_true, Bool.and_eq_true] at q
    exact h1 q.1.2
  show wpAny _ _ (if (lo == 0 && k == 1 && cnt == items.size) = true then _ else _) _ _ s
  rw [if_neg hno]
  have hy : ((List.range cnt).filterMap fun (m : Nat) => items[(lo + (m : Int) * k).toNat]?) = ys := hy
  rw [hy]
  first
    | exact wpAny_bind (m := Builtin.Tuple.tupleExact _) (wpAny_newObj_type (wpAny_pure ⟨_, rfl, wpAny_pure h⟩) htake)
    | exact wpAny_bind (m := Builtin.Tuple.tupleExact _) (wpAny_newObj_type (wpAny_bind (wpAny_pure (wpAny_pure ⟨_, rfl, wpAny_pure h⟩))) htake)
    | exact wpAny_bind (wpAny_bind (m := Builtin.Tuple.tupleExact _) (wpAny_newObj_type (wpAny_pure (wpAny_pure ⟨_, rfl, wpAny_pure h⟩)) htake))
    | exact wpAny_bind (wpAny_bind (m := Builtin.Tuple.tupleExact _) (wpAny_newObj_type (wpAny_pure ⟨_, rfl, wpAny_pure h⟩) htake))
end
theorem adj_rev (n : Nat) : Builtin.Slice.sliceAdjust none none (-1) (n : Int) = ((n : Int) - 1, -1) := rfl
theorem adj_two (n : Nat) : Builtin.Slice.sliceAdjust none none 2 (n : Int) = (0, (n : Int)) := rfl
theorem plc_rev (n : Nat) : Builtin.Slice.slicePlaces ((n : Int) - 1) (-1) (-1) = n := by
  unfold Builtin.Slice.slicePlaces
  have h1 : ¬ ((-1 : Int) > 0) := by decide
  simp only [h1, if_false, Int.neg_neg, Int.ediv_one]
  split <;> omega
theorem plc_two (n : Nat) : Builtin.Slice.slicePlaces 0 (n : Int) 2 = (n + 1) / 2 := by
  unfold Builtin.Slice.slicePlaces
  have h1 : (2 : Int) > 0 := by decide
  simp only [h1, if_true]
  split <;> omega
section
variable {prog : Program} {w : World} {A : Around} {E : Value → Shared → Prop} {s : Shared}
open PySem.W in
theorem kdlH {K : Type} {d : Addr} {xs : List (K × Addr × Value)} {es : Array DictEntry} {ep : Nat} (lo : (d == sysModules) = false) (hx : ∀ i (hi : i < es.size), ∃ y, xs[i]? = some y ∧ es[i].key = .ref y.2.1 ∧ es[i].val = y.2.2) :
    KdlSrc prog w "dict" d d es.size (fun i v => ∃ y, xs[i]? = some y ∧ v = .ref y.2.1) (fun h => h.DictRaw d es ep) where
  type := fun _ hm => hm.typeIs
  there := fun _ hm => ⟨let ⟨_, ho, _⟩ := hm; Heap.lt_size ho, let ⟨_, ho, _⟩ := hm; Heap.lt_size ho⟩
  keep := fun _ _ hm hk => hm.at fun o e => hk d (.inl rfl) o e
  notList := by decide
  notTuple := by decide
  hint := fun _ _ _ _ hm hq => kdl_hint_dict hm.typeIs hq
  iter := fun _ s hh hm => ⟨_, _, (fun _ _ hq => wpAny_pyIter_dict_raw lo hm hq), Walks.keysH hh _ d (Nat.ne_of_lt (let ⟨_, ho, _⟩ := hm; Heap.lt_size ho)) es ep hx, ⟨⟨_, Heap.get?_push_size _ rfl, rfl, rfl⟩, hm.at fun o e => Heap.get?_push_of_some _ e⟩⟩
end
end HT
namespace L2.DN
open PySem PySem.Spec PyProof.Rows L2
theorem step2_len {α : Type} : ∀ l : List α, (step2 l).length ≤ l.length
  | [] => Nat.le_refl _
  | [x] => Nat.le_refl _
  | x :: y :: r => by
    have := step2_len r
    show (step2 r).length + 1 ≤ r.length + 1 + 1
    omega
theorem Vals.step2 : ∀ {xs : List V} {us : List Value}, Vals xs us → Vals (DN.step2 xs) (DN.step2 us)
  | _, _, .nil => .nil
  | _, _, .cons r .nil => .cons r .nil
  | _, _, .cons r (.cons _ t) => .cons r (Vals.step2 t)
theorem Reps.step2 {K : PySem.W.Frag} {F : Hp} : ∀ {xs : List V} {us : List D}, Reps K F xs us → Reps K F (DN.step2 xs) (DN.step2 us)
  | _, _, .nil => .nil
  | _, _, .cons r .nil => .cons r .nil
  | _, _, .cons r (.cons _ t) => .cons r (Reps.step2 t)
def stE (k : Int) : E := if k = -1 then .neg (.c (.int 1)) else .c (.int k)
section
variable {X : Cx} {C : Cfg} {W : Exs}
def tSt (r : V → Int → Hp → VK → Prop) (k : Int) (te : TE) (tt : TO) : TE := fun σ H Q => te σ H fun x H1 => tt σ H1 fun o H2 => o = some k ∧ r x k H2 Q
def rSt (K : PySem.W.Frag) : V → Int → Hp → VK → Prop := fun x k H Q => ∃ F a r, Sub F H ∧ Opn K F H x a ∧ slK a k = .ok r ∧ ∀ v F' H', Grow F H F' H' → Rep K F' v r → Q v H'
theorem pe_step {e st : Expr} {te : TE} {tt : TO} {k : Int} {p2 pos : Pos} (he : PE X e te) (ht : PO X (some st) tt) : PE X (.Subscript e (.Slice none none (some st) p2) pos) (tSt (rSt X.K) k te tt) := by
  refine ⟨fun pins s σ H Q I h => ?_⟩
  refine Subscript_ (thn (he.run pins s σ H _ I h) fun v s1 ⟨x, H1, I1, r1, q1⟩ => ?_)
  refine wpAny_Slice ?_
  rw [evalPart_none]
  refine wpAny_pure ?_
  refine wpAny_pure ?_
  refine thn (ht.run pins s1 σ H1 _ I1 q1) fun vk s2 ⟨o, H2, I2, pk, eo, q2⟩ => ?_
  subst eo
  obtain ⟨F, a, r, sF, ga, hf, q⟩ := q2
  cases pk with
  | int _ tk =>
    have I4 : Inv X pins σ H2 { s2 with heap := s2.heap.push { cls := .type "slice", data := .fields #[.none, .none, .int k tk] } } := I2.kept (t' := s2.toks) fun b ob q => Heap.get?_push_of_some _ q
    have hsl := Heap.IsSliceOf.new s2.heap .none .none (.int k tk)
    unfold slK at hf
    split at hf <;> try (cases hf; done)
    · obtain ⟨p, vs, rfl, e1, g1⟩ := ga.tup'
      cases r1
      obtain ⟨its, rv, ht, hz⟩ := I4.tuple (SqT.of (sF _ _ e1))
      have hsz : its.toArray.size = its.length := List.size_toArray
      have hlv : vs.length = its.length := rv.length
      have fin : ∀ (ys : List Value) (vy : List V) (dy : List D), Vals vy ys → ys.length ≤ sizeLine → Reps X.K F vy dy → D.tup dy = r → EP X pins σ Q (.ref (s2.heap.push { cls := .type "slice", data := .fields #[.none, .none, .int k tk] }).objs.size) { s2 with heap := (s2.heap.push { cls := .type "slice", data := .fields #[.none, .none, .int k tk] }).push { cls := .type "tuple", data := .seq ys.toArray } } := by
        rintro ys vy dy hv hl hr rfl
        refine ⟨.ref _, _, I4.laid (t' := s2.toks) (o := .tup vy) (fun b ob q => Heap.get?_push_of_some _ q) (Nat.le_refl _) ?_, rfl, ?_⟩
        · exact ⟨by rw [hv.length]; exact hl, _, hv, IsTup.new _ _⟩
        · have hn := I4.hok.fresh (Nat.le_refl _)
          exact q _ _ _ (Grow.new sF hn) (.tup upd_same (hr.mono (Grow.new sF hn).f))
      show wpAny (model X.prog X.w) X.A (subscriptTail e (.Slice none none (some st) p2) (.ref p) (.ref s2.heap.objs.size)) (EP X pins σ Q) X.xe { s2 with heap := s2.heap.push { cls := .type "slice", data := .fields #[.none, .none, .int k tk] } }
      refine tail_any (ops := [.ref p, .ref s2.heap.objs.size]) ht.typeIs PyProof.Rows.slot_tuple_getitem.lookup ?_ (by unfold subscripted; rfl)
      split at hf
      · rename_i hk
        subst hk
        refine HT.getItem_tuple_step ht hsl (by decide) (by decide) (ys := its.reverse) ?_ (by rw [List.length_reverse, ← hlv]; exact hz) ?_
        · rw [hsz, HT.adj_rev, HT.plc_rev]
          have := HT.pick_rev its
          simpa using this
        · exact fin _ _ _ rv.reverse (by rw [List.length_reverse, ← hlv]; exact hz) g1.reverse (ok_inj hf)
      · split at hf
        · rename_i _ hk
          subst hk
          refine HT.getItem_tuple_step ht hsl (by decide) (by decide) (ys := step2 its) ?_ (Nat.le_trans (step2_len its) (by rw [← hlv]; exact hz)) ?_
          · rw [hsz, HT.adj_two, HT.plc_two]
            have := HT.pick_two its
            simpa using this
          · exact fin _ _ _ (Vals.step2 rv) (Nat.le_trans (step2_len its) (by rw [← hlv]; exact hz)) g1.step2 (ok_inj hf)
        · cases hf
theorem den_st (k : Int) (hk : k = -1 ∨ k = 2) (env : Env) : den C (stE k) env = .ok (.int k, env) := by
  rcases hk with rfl | rfl
  · rfl
  · rfl
theorem snd_slk {a : E} {pa st : Expr} {k : Int} {p2 pos : Pos} (hk : k = -1 ∨ k = 2) (ha : PE X pa (rdO X.K C W a)) (hs : PE X st (rdE X.K C W (stE k))) : PE X (.Subscript pa (.Slice none none (some st) p2) pos) (rdE X.K C W (.slk a k)) := by
  refine (pe_step (k := k) ha (snd_part hs (by rcases hk with rfl | rfl <;> rfl))).imp fun σ H Q ⟨F, env, R, o⟩ => ?_
  simp only [den, ← deno_eq] at o
  refine ⟨F, env, R, o.bind.mono (fun ⟨x, env1⟩ o v F1 H1 w1 o1 => ?_) fun _ h => h⟩
  obtain ⟨r, h1, h2⟩ := OutM.pure (m := (do slK (← val env1 x) k)) o exw_stuck
  obtain ⟨dx, h3, h4⟩ := bind_ok h1
  have h2 : ∀ v F' H', Went X.K σ env F H env1 F' H' → Rep X.K F' v r → Q v H' := h2
  refine ⟨F1, env1, w1.rel, ?_⟩
  rw [den_st k hk]
  have hi : noX (ioF (isNonC (stE k)) (.int k)) = .ok (some k) := by rcases hk with rfl | rfl <;> rfl
  show OutM (noX (ioF (isNonC (stE k)) (.int k)) >>= fun l => (.ok (l, env1) : M (Option Int × Env))) _ _
  rw [hi]
  intro F2 H2 w2
  exact ⟨rfl, F2, dx, r, w2.rel.sub, (o1.mono w2.step.mono).opn w2.rel h3, h4, fun v F' H' g rv => h2 v F' H' ((w1.trans w2).trans (Went.grow w2.rel g)) rv⟩
end
/-! ### sorting -/
section
variable {α : Type} {lt : α → α → Bool}
theorem insB_perm (x : α) : ∀ ys : List α, (insB lt x ys).Perm (x :: ys)
  | [] => .refl _
  | y :: ys => by
    unfold insB
    split
    · exact (List.Perm.cons y (insB_perm x ys)).trans (List.Perm.swap x y ys)
    · exact .refl _
theorem srtB_perm : ∀ xs : List α, (srtB lt xs).Perm xs
  | [] => .refl _
  | x :: xs => (insB_perm x _).trans (List.Perm.cons x (srtB_perm xs))
theorem insB_srtd (O : SrtO.Swo lt) (x : α) : ∀ {ys : List α}, SrtO.Srtd lt ys → SrtO.Srtd lt (insB lt x ys)
  | [], _ => SrtO.srtd_one x
  | y :: ys, h => by
    unfold insB
    obtain ⟨h1, h2⟩ := List.pairwise_cons.mp h
    split
    · rename_i hy
      refine List.pairwise_cons.mpr ⟨fun z hz => ?_, insB_srtd O x h2⟩
      rcases List.mem_cons.mp ((insB_perm x ys).mem_iff.mp hz) with rfl | hz
      · exact O.asym y z hy
      · exact h1 z hz
    · rename_i hy
      have hy : lt y x = false := by simpa using hy
      refine List.pairwise_cons.mpr ⟨fun z hz => ?_, h⟩
      rcases List.mem_cons.mp hz with rfl | hz
      · exact hy
      · exact O.tr x y z hy (h1 z hz)
theorem srtB_srtd (O : SrtO.Swo lt) : ∀ xs : List α, SrtO.Srtd lt (srtB lt xs)
  | [] => List.Pairwise.nil
  | x :: xs => insB_srtd O x (srtB_srtd O xs)
theorem perm_uniq (anti : ∀ x y, lt x y = false → lt y x = false → x = y) : ∀ {l m : List α}, SrtO.Srtd lt l → SrtO.Srtd lt m → l.Perm m → l = m
  | [], m, _, _, p => (List.Perm.nil_eq p)
  | x :: l, [], _, _, p => absurd p.symm.nil_eq (by simp)
  | x :: l, y :: m, h1, h2, p => by
    obtain ⟨a1, a2⟩ := List.pairwise_cons.mp h1
    obtain ⟨b1, b2⟩ := List.pairwise_cons.mp h2
    have e : x = y := by
      rcases List.mem_cons.mp (p.mem_iff.mp List.mem_cons_self) with e | hx
      · exact e
      · rcases List.mem_cons.mp (p.mem_iff.mpr List.mem_cons_self) with e | hy
        · exact e.symm
        · exact anti x y (b1 x hx) (a1 y hy)
    subst e
    rw [perm_uniq anti a2 b2 p.cons_inv]
end
theorem ltI_swo : SrtO.Swo ltI := ⟨fun x y h => by simp [ltI] at *; omega, fun x y z h1 h2 => by simp [ltI] at *; omega⟩
theorem lexP_iff {p q : Int × Int} : lexP p q = true ↔ p.1 < q.1 ∨ (p.1 = q.1 ∧ p.2 < q.2) := by simp [lexP]
theorem lexP_no {p q : Int × Int} : lexP p q = false ↔ ¬ (p.1 < q.1 ∨ (p.1 = q.1 ∧ p.2 < q.2)) := by rw [← lexP_iff]; simp
theorem lexP_swo : SrtO.Swo lexP := ⟨fun x y h => by rw [lexP_iff] at h; rw [lexP_no]; omega, fun x y z h1 h2 => by rw [lexP_no] at *; omega⟩
theorem lexP_anti (x y : Int × Int) (h1 : lexP x y = false) (h2 : lexP y x = false) : x = y := by
  rw [lexP_no] at *
  refine Prod.ext ?_ ?_ <;> omega
theorem lexP_eq (p q : Int × Int) : SrtO.lexB p q = lexP p q := by
  rw [Bool.eq_iff_iff, SrtO.lexB_iff, lexP_iff]
theorem allPr_ok : ∀ {ds : List D} {ps : List (Int × Int)}, allPr ds = some ps → ds = ps.map prD
  | [], ps, h => by cases h; rfl
  | d :: r, ps, h => by
    unfold allPr at h
    split at h
    · rename_i e
      cases e
    · rename_i i j r' e
      cases e
      cases q : allPr r with
      | none => rw [q] at h; cases h
      | some ms => rw [q] at h; cases h; rw [allPr_ok q]; rfl
    · cases h
/-- which pair a value shows -/
def kOf (xs : List V) (ps : List (Int × Int)) (x : V) : Int × Int := match xs, ps with
  | y :: ys, p :: qs => if y = x then p else kOf ys qs x
  | _, _ => (0, 0)
theorem rep_pr {K : PySem.W.Frag} {F : Hp} {v : V} {p : Int × Int} (r : Rep K F v (prD p)) : ∃ t, v = .ref t ∧ F t = some (.tup [.int p.1, .int p.2]) := by
  cases r with
  | @tup a vs _ e g =>
    cases g with
    | cons g1 g =>
      cases g with
      | cons g2 g =>
        cases g
        cases g1
        cases g2
        exact ⟨a, rfl, e⟩
theorem kOf_at {K : PySem.W.Frag} {F : Hp} : ∀ {xs : List V} {ps : List (Int × Int)} {x : V} {p : Int × Int}, Reps K F xs (ps.map prD) → (∃ i : Nat, xs[i]? = some x ∧ ps[i]? = some p) → kOf xs ps x = p
  | [], ps, x, p, g, ⟨i, h1, h2⟩ => by simp at h1
  | y :: ys, [], x, p, g, ⟨i, h1, h2⟩ => by simp at h2
  | y :: ys, q :: qs, x, p, g, ⟨i, h1, h2⟩ => by
    cases g with
    | cons g1 g2 =>
      unfold kOf
      by_cases hy : y = x
      · rw [if_pos hy]
        subst hy
        cases i with
        | zero => simpa using h2
        | succ i =>
          obtain ⟨v, hv, rv⟩ := g2.get (i := i) (d := prD p) (by simp at h2; rw [List.getElem?_map, h2]; rfl)
          have : v = y := by
            have : ys[i]? = some y := by simpa using h1
            rw [this] at hv
            exact (Option.some.inj hv).symm
          subst this
          obtain ⟨t1, e1, f1⟩ := rep_pr g1
          obtain ⟨t2, e2, f2⟩ := rep_pr rv
          rw [e1] at e2
          cases e2
          rw [f1] at f2
          injection f2 with f2
          injection f2 with f2
          injection f2 with a1 a2
          injection a2 with a2 a3
          injection a1 with a1
          injection a2 with a2
          exact Prod.ext a1 a2
      · rw [if_neg hy]
        cases i with
        | zero => simp at h1; exact absurd h1 hy
        | succ i => exact kOf_at g2 ⟨i, by simpa using h1, by simpa using h2⟩
theorem kOf_map {K : PySem.W.Frag} {F : Hp} {xs : List V} {ps : List (Int × Int)} (g : Reps K F xs (ps.map prD)) : xs.map (kOf xs ps) = ps := by
  have hl : xs.length = ps.length := by rw [g.length, List.length_map]
  refine List.ext_getElem? fun i => ?_
  rw [List.getElem?_map]
  cases hx : xs[i]? with
  | none =>
    rw [List.getElem?_eq_none (by have := List.getElem?_eq_none_iff.mp hx; omega)]
    rfl
  | some x =>
    obtain ⟨p, hp⟩ : ∃ p, ps[i]? = some p := ⟨ps[i]'(by have := (List.getElem?_eq_some_iff.mp hx).1; omega), by rw [List.getElem?_eq_getElem]⟩
    rw [hp]
    show some (kOf xs ps x) = some p
    rw [kOf_at g ⟨i, hx, hp⟩]
theorem reps_of {K : PySem.W.Frag} {F : Hp} {k : V → Int × Int} : ∀ {ys : List V}, (∀ y ∈ ys, Rep K F y (prD (k y))) → Reps K F ys ((ys.map k).map prD)
  | [], _ => .nil
  | y :: ys, h => .cons (h y List.mem_cons_self) (reps_of fun z hz => h z (List.mem_cons_of_mem _ hz))
section
variable {X : Cx}
theorem pairG {α β : Type} {G : α → β → Prop} : ∀ {l : List α} {m : List β} {j : Nat} {y : β}, Paired G l m → m[j]? = some y → ∃ x, l[j]? = some x ∧ G x y
  | _, _, j, y, .nil, e => by simp at e
  | _, _, 0, y, .cons h _, e => by cases e; exact ⟨_, rfl, h⟩
  | _, _, j + 1, y, .cons _ t, e => by
    obtain ⟨x, h1, h2⟩ := pairG t (j := j) (by simpa using e)
    exact ⟨x, by simpa using h1, h2⟩
/-- the pair a key tuple of the heap shows -/
def kH (H : Hp) : V → Int × Int
  | .ref t => (match H t with
    | some (.tup [.int i, .int j]) => (i, j)
    | _ => (0, 0))
  | _ => (0, 0)
theorem kH_at {H : Hp} {t : Addr} {i j : Int} (h : H t = some (.tup [.int i, .int j])) : kH H (.ref t) = (i, j) := by
  show (match H t with
    | some (.tup [.int i, .int j]) => (i, j)
    | _ => (0, 0)) = (i, j)
  rw [h]
def vbk : Value → V
  | .ref a => .ref a
  | _ => .non
theorem pair_raw {pins : List (Addr × Obj)} {σ : St} {H : Hp} {s : Shared} {t : Addr} {i j : Int} (I : Inv X pins σ H s) (h : H t = some (.tup [.int i, .int j])) : Srt.IsPair s.heap (.ref t) i j := by
  obtain ⟨_, its2, r2, o, ho, hc, n, hd⟩ := I.hok _ _ h
  obtain ⟨u1, u2, rfl, ri, rj⟩ := vals2 r2
  obtain ⟨t1, rfl⟩ := ri
  obtain ⟨t2, rfl⟩ := rj
  exact ⟨t, o, t1, t2, n, rfl, ho, hc, hd⟩
def prK (p : Int × Int) : List Key := [Sum.inl p.1, Sum.inl p.2]
def rSortDT : List V → Hp → VK → Prop := fun vs H Q => ∃ (a : Addr) (kvs : List (List Key × V)) (ps : List (Int × Int)), vs = [.ref a] ∧ Rd H a (.dT kvs) ∧ kvs.map (·.1) = ps.map prK ∧
  ∀ (ys : List V) (p : Addr), (∀ y ∈ ys, ∃ t, y = V.ref t ∧ H t = some (.tup [.int (kH H y).1, .int (kH H y).2])) → ys.map (kH H) = srtB lexP ps → H p = none → Q (.ref p) (upd H p (.lst ys))
theorem cr_sortedDT (hc : X.calm = true) : CallR X (.builtin "sorted") rSortDT := by
  intro pins s σ H xs us Q I r h
  obtain ⟨a, kvs, ps, rfl, hd, hk, q⟩ := h
  rw [Vals.ref1 r]
  obtain ⟨z, lo, es0, rel, dd⟩ := dt_rd I.hok hd
  obtain ⟨es, ep, raw, hsz, hx⟩ := dd.raw
  have l0 : kvs.length = es0.length := Paired.length rel
  have lp : kvs.length = ps.length := by
    have := congrArg List.length hk
    rwa [List.length_map, List.length_map] at this
  have hent : ∀ (i : Nat) (y : List Key × Addr × Value), es0[i]? = some y → ∃ p, ps[i]? = some p ∧ H y.2.1 = some (.tup [.int p.1, .int p.2]) := fun i y hy => by
    obtain ⟨e0, he0, r1, r2, r3⟩ := pairG rel hy
    have e3 : (kvs.map (·.1))[i]? = some e0.1 := by rw [List.getElem?_map, he0]; rfl
    rw [hk, List.getElem?_map] at e3
    obtain ⟨p, hp, e4⟩ := Option.map_eq_some_iff.mp e3
    refine ⟨p, hp, ?_⟩
    rw [← e4] at r2
    exact r2
  refine Calls.call_function_entry PyProof.Rows.kind_sorted PyProof.Rows.plain_sorted PyProof.Rows.entry_sorted (PyProof.Rows.args_sorted1 _) ?_
  unfold Builtin.«sorted»
  refine wpAny_bind (m := checkCount "sorted" 1 1 _) (wpAny_pure ?_)
  refine wpAny_bind (PySem.W.kdu_collect (A := X.A.in1) (HT.kdlH (xs := es0) lo fun i hi => ?_) (I.ok.hd hc) raw (by omega) fun h' tk acc hkp hacc => ?_)
  · obtain ⟨y, y1, y2, y3, _⟩ := hx i hi
    exact ⟨y, y1, y2, y3⟩
  have I1 : Inv X pins σ H { s with heap := h', toks := tk } := I.kept hkp
  have hal : acc.toList.length = es0.length := by rw [Array.length_toList, hacc.1, hsz]
  have ha2 : ∀ (i : Nat) (v : Value), acc.toList[i]? = some v → ∃ t p, v = Value.ref t ∧ ps[i]? = some p ∧ H t = some (.tup [.int p.1, .int p.2]) := fun i v hv => by
    obtain ⟨y, hy, e⟩ := hacc.2 i v (by rw [← Array.getElem?_toList]; exact hv)
    obtain ⟨p, hp, ht⟩ := hent i y hy
    exact ⟨_, p, e, hp, ht⟩
  have hz : acc.toList.length ≤ sizeLine := by omega
  have hmem : ∀ v ∈ acc.toList, ∃ t, v = Value.ref t ∧ H t = some (.tup [.int (kH H (vbk v)).1, .int (kH H (vbk v)).2]) := fun v hv => by
    obtain ⟨i, hi⟩ := List.getElem?_of_mem hv
    obtain ⟨t, p, rfl, _, ht⟩ := ha2 i v hi
    refine ⟨t, rfl, ?_⟩
    show H t = some (.tup [.int (kH H (.ref t)).1, .int (kH H (.ref t)).2])
    rw [kH_at ht]
    exact ht
  have hmap : (acc.toList.map vbk).map (kH H) = ps := by
    refine List.ext_getElem? fun i => ?_
    rw [List.getElem?_map, List.getElem?_map]
    cases hv : acc.toList[i]? with
    | none =>
      rw [List.getElem?_eq_none (by have := List.getElem?_eq_none_iff.mp hv; omega)]
      rfl
    | some v =>
      obtain ⟨t, p, rfl, hp, ht⟩ := ha2 i v hv
      rw [hp]
      show some (kH H (.ref t)) = some p
      rw [kH_at ht]
  generalize acc.toList = L at hal ha2 hz hmem hmap ⊢
  refine wpAny_bind (wpAny_newList ?_ hz)
  have hoL : (h'.push (seqObj "list" L.toArray 0)).get? h'.objs.size = some (seqObj "list" L.toArray 0) := Heap.get?_push_size _ rfl
  show wpAny _ _ _ _ _ { s with heap := h'.push (seqObj "list" L.toArray 0), toks := tk }
  refine wpAny_bind (wpAny_holding (wpAny_call_entry PyProof.Rows.slot_list_sort ⟨_, hoL, rfl⟩ PyProof.Rows.entry_list_sort
    (SrtO.list_sort_ord (s := { s with heap := h'.push (seqObj "list" L.toArray 0), toks := tk }) (SrtO.swo_lex fun v => kH H (vbk v)) hoL hz (fun h2 => SrtO.pairs_sortableO (by omega) (fun v hv => ?_) fun o e => ?_) fun out hs hb => ⟨_, rfl, ?_⟩) (PyProof.Rows.args_list_sort _)))
  · obtain ⟨t, e, ht⟩ := hmem v hv
    have := pair_raw I1 ht
    rw [← e] at this
    exact this.keeps fun b o e _ => Heap.get?_push_of_some _ e
  · rw [hoL] at e
    cases e
    intro c
    exact absurd (Value.type.inj c) (by decide)
  · obtain ⟨e', he'⟩ := PyProof.Rows.sortedHeap_at (vs := L) (out := out.toArray) hoL
    have h3 : ∀ u ∈ out, ∃ a, u = Value.ref a := fun u hu => by
      obtain ⟨t, e, _⟩ := hmem u (hb.perm.mem_iff.mp hu)
      exact ⟨t, e⟩
    have hvo : Vals (out.map vbk) out := by
      clear hs hb he' q
      induction out with
      | nil => exact .nil
      | cons u us ih =>
        obtain ⟨a, rfl⟩ := h3 u List.mem_cons_self
        exact .cons (show RelV (.ref a) (.ref a) from rfl) (ih fun y hy => h3 y (List.mem_cons_of_mem _ hy))
    have hlen : (out.map vbk).length ≤ sizeLine := by
      rw [List.length_map, hb.perm.length_eq]
      exact hz
    have hpm : ((out.map vbk).map (kH H)).Perm ps := by
      have := (hb.perm.map vbk).map (kH H)
      rwa [hmap] at this
    have hso : SrtO.Srtd lexP ((out.map vbk).map (kH H)) := by
      rw [List.map_map]
      have h4 : List.Pairwise (fun v u => SrtO.lexB (kH H (vbk u)) (kH H (vbk v)) = false) out := hs
      exact List.pairwise_map.mpr (h4.imp fun h => by rw [← lexP_eq]; exact h)
    have e2 : (out.map vbk).map (kH H) = srtB lexP ps := perm_uniq lexP_anti hso (srtB_srtd lexP_swo ps) (hpm.trans (srtB_perm ps).symm)
    refine wpAny_pure ⟨_, rfl, .ref h'.objs.size, upd H h'.objs.size (.lst (out.map vbk)), I1.laid (t' := tk) (fun b u e => ?_) (Nat.le_refl _) ⟨hlen, out, e', hvo, he'⟩, rfl, q _ _ (fun y hy => ?_) e2 (I1.hok.fresh (Nat.le_refl _))⟩
    · have hb : b < h'.objs.size := Heap.lt_size e
      rw [PyProof.Rows.sortedHeap_old (Nat.ne_of_lt hb) (by rw [size_push']; exact Nat.lt_succ_of_lt hb)]
      exact Heap.get?_push_of_some _ e
    · obtain ⟨v, hv, rfl⟩ := List.mem_map.mp hy
      obtain ⟨t, e, ht⟩ := hmem v (hb.perm.mem_iff.mp hv)
      refine ⟨t, by rw [e]; rfl, ht⟩
theorem keyD_ints : ∀ {ks : List Key} {ns : List Int}, ks.map keyD = ns.map D.int → ks = ns.map Sum.inl
  | [], [], _ => rfl
  | [], _ :: _, h => by cases h
  | _ :: _, [], h => by cases h
  | k :: ks, n :: ns, h => by
    injection h with h1 h2
    rw [List.map_cons, keyD_ints h2]
    cases k with
    | inl i => injection h1 with h1; rw [h1]
    | inr x => cases h1
theorem keyD_prs : ∀ {kss : List (List Key)} {ps : List (Int × Int)}, kss.map (fun k => D.tup (k.map keyD)) = ps.map prD → kss = ps.map prK
  | [], [], _ => rfl
  | [], _ :: _, h => by cases h
  | _ :: _, [], h => by cases h
  | k :: ks, p :: ps, h => by
    injection h with h1 h2
    rw [List.map_cons, keyD_prs h2]
    injection h1 with h1
    have := keyD_ints (ks := k) (ns := [p.1, p.2]) h1
    rw [this]
    rfl
theorem allInt_of {ks : List D} {ns : List Int} (h : allInt ks = some ns) : ks = ns.map D.int := allInt_ok h
theorem cr_sortedD (hc : X.calm = true) {F H : Hp} {x : V} {ks vs rs : List D} {pins : List (Addr × Obj)} {s : Shared} {σ : St} {us : List Value} {Q : VK} (I : Inv X pins σ H s) (sF : Sub F H) (gx : Opn X.K F H x (.dct ks vs)) (ru : Vals [x] us) (h : srtKF ks = .ok rs)
    (q : ∀ p ys, H p = none → (∀ F', Sub F F' → (∀ b vs, H b = some (.tup vs) → F' b = some (.tup vs)) → Reps X.K F' ys rs) → Q (.ref p) (upd H p (.lst ys))) : wpAny (model X.prog X.w) X.A (call (.builtin "sorted") us) (EP X pins σ Q) X.xe s := by
  have go : ∀ {a : Addr} {kvs : List (Key × V)}, x = .ref a → H a = some (.dK kvs) → (kvs.map fun p => keyD p.1) = ks → wpAny (model X.prog X.w) X.A (call (.builtin "sorted") us) (EP X pins σ Q) X.xe s := by
    rintro a kvs rfl e hk
    unfold srtKF at h
    split at h
    · rename_i ns hn
      obtain ⟨h64, e2⟩ := ite_ok h
      subst e2
      have hd := allInt_ok hn
      have hk' : (kvs.map fun p => p.1).map keyD = ns.map D.int := by rw [List.map_map, ← hd, ← hk]; rfl
      refine call_sortedDI hc pins s σ H _ us Q I ru ⟨a, kvs, ns, rfl, .inl e, keyD_ints hk', h64, fun ys p hp ho hnew => ?_⟩
      have e2 : ys = srtB ltI ns := perm_uniq (lt := ltI) (fun x y h1 h2 => by simp [ltI] at h1 h2; omega) (ho.imp fun h => by simp [ltI]; omega) (srtB_srtd ltI_swo ns) (hp.trans (srtB_perm ns).symm)
      subst e2
      exact q _ _ hnew fun F' _ _ => scr_reps _
    · split at h
      · rename_i hn _ ps hp
        have hd := allPr_ok hp
        rw [hd] at hk
        cases kvs with
        | nil =>
          cases ps with
          | nil => rw [hd] at hn; cases hn
          | cons p ps => cases hk
        | cons kv kvs =>
          cases ps with
          | nil => cases hk
          | cons p ps =>
            injection hk with hk _
            have hk : keyD kv.1 = prD p := hk
            cases hq : kv.1 <;> rw [hq] at hk <;> cases hk
      · cases h
  have go2 : ∀ {a : Addr} {kvs : List (List Key × V)}, x = .ref a → H a = some (.dT kvs) → (kvs.map fun p => D.tup (p.1.map keyD)) = ks → wpAny (model X.prog X.w) X.A (call (.builtin "sorted") us) (EP X pins σ Q) X.xe s := by
    rintro a kvs rfl e hk
    have fin : ∀ ps : List (Int × Int), ks = ps.map prD → rs = (srtB lexP ps).map prD → wpAny (model X.prog X.w) X.A (call (.builtin "sorted") us) (EP X pins σ Q) X.xe s := by
      intro ps hd hr
      have hk' : (kvs.map fun p => p.1).map (fun k => D.tup (k.map keyD)) = ps.map prD := by rw [List.map_map, ← hd, ← hk]; rfl
      refine cr_sortedDT hc pins s σ H _ us Q I ru ⟨a, kvs, ps, rfl, .inl e, keyD_prs hk', fun ys p hy hm hnew => ?_⟩
      refine q _ _ hnew fun F' _ sH => ?_
      rw [hr, ← hm]
      exact reps_of fun y hy' => by
        obtain ⟨t, rfl, ht⟩ := hy y hy'
        exact .tup (sH _ _ ht) (.cons (.int _) (.cons (.int _) .nil))
    unfold srtKF at h
    split at h
    · rename_i ns hn
      obtain ⟨h64, e2⟩ := ite_ok h
      have hd := allInt_ok hn
      cases ns with
      | nil => exact fin [] hd e2.symm
      | cons n ns =>
        rw [hd] at hk
        cases kvs with
        | nil => cases hk
        | cons kv kvs => cases hk
    · split at h
      · rename_i ps hp
        exact fin ps (allPr_ok hp) (ok_inj h).symm
      · cases h
  cases gx with
  | v gx =>
    cases gx with
    | dK e r => exact go rfl (sF _ _ e) rfl
    | dT e r => exact go2 rfl (sF _ _ e) rfl
  | dK e r => exact go rfl e rfl
  | dT e r => exact go2 rfl e rfl
end
section
variable {X : Cx}
/-! sorted(..) of tuples that read as data -/
theorem depthAll_le {n : Nat} : ∀ (xs : List D), (∀ x ∈ xs, (encD x).depth ≤ n) → PyData.depthAll (encDs xs) ≤ n
  | [], _ => Nat.zero_le _
  | x :: r, h => by
    show max (encD x).depth (PyData.depthAll (encDs r)) ≤ n
    have h1 := h x List.mem_cons_self
    have h2 := depthAll_le r fun y hy => h y (List.mem_cons_of_mem _ hy)
    omega
theorem dat_depth : ∀ (n : Nat) (d : D), datF n d = true → (encD d).depth ≤ n
  | n, .int i, _ => by show 0 ≤ n; exact Nat.zero_le _
  | n + 1, .tup xs, h => by
    show PyData.depthAll (encDs xs) + 1 ≤ n + 1
    have h : xs.all (datF n) = true := h
    rw [List.all_eq_true] at h
    have := depthAll_le xs fun x hx => dat_depth n x (h x hx)
    omega
  | 0, .tup xs, h => by cases h
  | 0, .non, h => by cases h
  | 0, .bl _, h => by cases h
  | 0, .str _, h => by cases h
  | 0, .lst _, h => by cases h
  | 0, .dct _ _, h => by cases h
  | 0, .st _, h => by cases h
  | 0, .rng _ _, h => by cases h
  | 0, .scr _, h => by cases h
  | n + 1, .non, h => by cases h
  | n + 1, .bl _, h => by cases h
  | n + 1, .str _, h => by cases h
  | n + 1, .lst _, h => by cases h
  | n + 1, .dct _ _, h => by cases h
  | n + 1, .st _, h => by cases h
  | n + 1, .rng _ _, h => by cases h
  | n + 1, .scr _, h => by cases h
theorem reads_all {h : Heap} {K : PySem.W.Frag} {F : Hp} {n : Nat} (ih : ∀ (d : D) (v : V) (u : Value), datF n d = true → Rep K F v d → RelV v u → ∃ as, Reads h u (encD d) as) : ∀ {xs : List D} {vs : List V} {us : List Value}, (∀ x ∈ xs, datF n x = true) → Reps K F vs xs → Vals vs us → ∃ as, ReadsAll h us (encDs xs) as
  | [], _, _, _, .nil, .nil => ⟨[], .nil⟩
  | x :: r, _, _, hx, .cons r1 r2, .cons u1 u2 => by
    obtain ⟨as, h1⟩ := ih x _ _ (hx x List.mem_cons_self) r1 u1
    obtain ⟨bs, h2⟩ := reads_all ih (fun y hy => hx y (List.mem_cons_of_mem _ hy)) r2 u2
    exact ⟨as ++ bs, .cons h1 h2⟩
theorem rep_reads {pins : List (Addr × Obj)} {σ : L2.St} {F H : Hp} {s : Shared} (I : Inv X pins σ H s) (sF : Sub F H) : ∀ (n : Nat) (d : D) (v : V) (u : Value), datF n d = true → Rep X.K F v d → RelV v u → ∃ as, Reads s.heap u (encD d) as
  | n, .int i, v, u, _, r, ru => by
    cases r
    obtain ⟨k, rfl⟩ := ru
    exact ⟨[], .int i k⟩
  | n + 1, .tup xs, v, u, h, r, ru => by
    have h : xs.all (datF n) = true := h
    rw [List.all_eq_true] at h
    cases r with
    | tup e r =>
      cases ru
      obtain ⟨its, rv, p, hz⟩ := I.tuple (SqT.of (sF _ _ e))
      obtain ⟨as, ra⟩ := reads_all (rep_reads I sF n) h r rv
      obtain ⟨o, ho, hc, m, hd⟩ := p
      exact ⟨as, .tuple ho hc hd (by simpa using ra)⟩
  | 0, .tup xs, _, _, h, _, _ => by cases h
  | 0, .non, _, _, h, _, _ => by cases h
  | 0, .bl _, _, _, h, _, _ => by cases h
  | 0, .str _, _, _, h, _, _ => by cases h
  | 0, .lst _, _, _, h, _, _ => by cases h
  | 0, .dct _ _, _, _, h, _, _ => by cases h
  | 0, .st _, _, _, h, _, _ => by cases h
  | 0, .rng _ _, _, _, h, _, _ => by cases h
  | 0, .scr _, _, _, h, _, _ => by cases h
  | n + 1, .non, _, _, h, _, _ => by cases h
  | n + 1, .bl _, _, _, h, _, _ => by cases h
  | n + 1, .str _, _, _, h, _, _ => by cases h
  | n + 1, .lst _, _, _, h, _, _ => by cases h
  | n + 1, .dct _ _, _, _, h, _, _ => by cases h
  | n + 1, .st _, _, _, h, _, _ => by cases h
  | n + 1, .rng _ _, _, _, h, _, _ => by cases h
  | n + 1, .scr _, _, _, h, _, _ => by cases h
theorem each_vals {K : PySem.W.Frag} {F : Hp} : ∀ {xs : List D} {vs : List V} {us : List Value}, Reps K F vs xs → Vals vs us → PySem.W.EachIs (fun u d => ∃ v, RelV v u ∧ Rep K F v d) us xs
  | [], _, _, .nil, .nil => .nil
  | x :: r, _, _, .cons r1 r2, .cons u1 u2 => .cons ⟨_, u1, r1⟩ (each_vals r2 u2)
theorem each_back {K : PySem.W.Frag} {F : Hp} : ∀ {xs : List D} {us : List Value}, PySem.W.EachIs (fun u d => ∃ v, RelV v u ∧ Rep K F v d) us xs → ∃ vs, Vals vs us ∧ Reps K F vs xs
  | [], _, .nil => ⟨[], .nil, .nil⟩
  | x :: r, _, .cons ⟨v, h1, h2⟩ t => by
    obtain ⟨vs, h3, h4⟩ := each_back t
    exact ⟨v :: vs, .cons h1 h3, .cons h2 h4⟩
theorem sort_dat (hu : X.A.units + dep < cLine) {pins : List (Addr × Obj)} {σ : L2.St} {F H : Hp} {s : Shared} {us0 : List Value} {Q : VK} (I : Inv X pins σ H s) (sF : Sub F H) {p : Addr} {vs : List V} {xs : List D} (e : H p = some (.lst vs)) (g : Reps X.K F vs xs) (hok : srtOk xs = true) (ru : Vals [V.ref p] us0)
    (q : ∀ d ys, H d = none → Reps X.K F ys (xs.mergeSort leD) → Q (.ref d) (upd H d (.lst ys))) : wpAny (model X.prog X.w) X.A (call (.builtin "sorted") us0) (EP X pins σ Q) X.xe s := by
  obtain ⟨u, hu0, rr⟩ := vals1 ru
  subst hu0
  obtain rfl : u = Value.ref p := rr
  obtain ⟨its, rv, hl, hz⟩ := I.list (SqL.of e)
  simp only [srtOk, Bool.and_eq_true, List.all_eq_true] at hok
  obtain ⟨⟨h1, h2⟩, h3⟩ := hok
  have hz2 : xs.length ≤ sizeLine := by rw [← g.length]; exact hz
  have e0 := each_vals g rv
  have er : PySem.W.EachIs (fun u d => ∃ as, Reads s.heap u (encD d) as) its xs := (PySem.W.each_mem e0).mono fun u d ⟨⟨v, h4, h5⟩, hd⟩ => rep_reads I sF 30 d v u (h2 d hd) h5 h4
  have hal : PySem.W.AllAlike (xs.map encD) := by
    intro d hd d' hd'
    obtain ⟨b, hb, rfl⟩ := List.mem_map.mp hd
    obtain ⟨b', hb', rfl⟩ := List.mem_map.mp hd'
    exact h3 b hb b' hb'
  have hk : PySem.W.Sortable (xs.map encD) := .inl fun d hd => by
    obtain ⟨b, hb, rfl⟩ := List.mem_map.mp hd
    have := h1 b hb
    cases b with
    | tup ys =>
      cases ys with
      | nil => cases this
      | cons y r => exact ⟨encD y, encDs r, rfl⟩
    | _ => cases this
  refine PySem.W.sorted_data hl.isList e0 er hal hk hz2 (fun b hb => ?_) fun out hlen ho => ?_
  · have := dat_depth 30 b (h2 b hb)
    have hu' : X.A.units + 40 < cLine := hu
    omega
  · obtain ⟨ys, hy1, hy2⟩ := each_back ho
    obtain ⟨n, hn⟩ := sortedAll_at s.heap its (List.toArray out)
    refine ⟨.ref (s.heap.objs.size + 1), upd H (s.heap.objs.size + 1) (.lst ys), I.laid (t' := s.toks) (fun b o e => sortedAll_old e) (Nat.le_succ _) ⟨?_, out, n, hy1, hn⟩, rfl, q _ ys (I.hok.fresh (Nat.le_succ _)) hy2⟩
    rw [hy2.length, List.length_mergeSort]
    exact hz2
end
section
variable {X : Cx}
theorem cr_sorted' (hc : X.calm = true) (hu : X.A.units + dep < cLine) : CallR X (.builtin "sorted") (rBi X.K .sorted) := by
  intro pins s σ H xs us Q I rs h
  obtain ⟨F, ds, r, sF, g, hf, q⟩ := h
  obtain ⟨d, rfl⟩ := bi_one hf (by simp)
  obtain ⟨x, rfl, gx⟩ := g.one
  cases d <;> simp only [biF] at hf <;> try (cases hf; done)
  rotate_left
  · obtain ⟨rs', h1, h2⟩ := bind_ok hf
    have := ok_inj h2
    subst this
    exact cr_sortedD hc I sF gx rs h1 fun p ys hp hr => q _ _ _ ((Grow.tups sF).trans (Grow.new (Grow.tups sF).s hp)) (.lst upd_same (hr _ ((Grow.tups sF).trans (Grow.new (Grow.tups sF).s hp)).f fun b vs e => by rw [upd_ne (ne_of_none e hp)]; exact tupF_at sF e))
  obtain ⟨p, vs, rfl, e, g⟩ := gx.lst' sF
  obtain ⟨rs', h1, h2⟩ := bind_ok hf
  have := ok_inj h2
  subst this
  unfold srtF at h1
  split at h1
  · rename_i ns hn
    have hd := allInt_ok hn
    subst hd
    have := ok_inj h1
    subst this
    have hv := Reps.ints g
    subst hv
    refine cr_sortedI pins s σ H _ us Q I rs ⟨p, ns, rfl, SqL.of e, fun ns' p' hp ho hnew => ?_⟩
    have e2 : ns' = srtB ltI ns := perm_uniq (lt := ltI) (fun x y h1 h2 => by simp [ltI] at h1 h2; omega) (ho.imp fun h => by simp [ltI]; omega) (srtB_srtd ltI_swo ns) (hp.trans (srtB_perm ns).symm)
    subst e2
    exact q _ _ _ (Grow.new sF hnew) (.lst upd_same (scr_reps _))
  · split at h1
    · rename_i ps hp
      have hd := allPr_ok hp
      subst hd
      have := ok_inj h1
      subst this
      have hmem : ∀ x ∈ vs, Rep X.K F x (prD (kOf vs ps x)) := fun x hx => by
        obtain ⟨i, hi⟩ := List.getElem?_of_mem hx
        have hl : vs.length = ps.length := by rw [g.length, List.length_map]
        obtain ⟨p0, hp0⟩ : ∃ p, ps[i]? = some p := ⟨ps[i]'(by have := (List.getElem?_eq_some_iff.mp hi).1; omega), by rw [List.getElem?_eq_getElem]⟩
        obtain ⟨v, hv, rv⟩ := g.get (i := i) (d := prD p0) (by rw [List.getElem?_map, hp0]; rfl)
        rw [hi] at hv
        cases hv
        rw [kOf_at g ⟨i, hi, hp0⟩]
        exact rv
      refine cr_sortedPO pins s σ H _ us Q I rs ⟨p, vs, kOf vs ps, rfl, SqL.of e, fun x hx => ?_, fun ys p' ho hst hnew => ?_⟩
      · obtain ⟨t, e1, e2⟩ := rep_pr (hmem x hx)
        exact ⟨t, e1, sF _ _ e2⟩
      · have hpm : (ys.map (kOf vs ps)).Perm ps := by
          have := hst.perm.map (kOf vs ps)
          rw [kOf_map g] at this
          exact this
        have hso : SrtO.Srtd lexP (ys.map (kOf vs ps)) := by
          have : SrtO.Srtd SrtO.lexB (ys.map (kOf vs ps)) := SrtO.srtd_map ho
          exact this.imp fun h => by rw [← lexP_eq]; exact h
        have e2 : ys.map (kOf vs ps) = srtB lexP ps := perm_uniq lexP_anti hso (srtB_srtd lexP_swo ps) (hpm.trans (srtB_perm ps).symm)
        have rp := reps_of (k := kOf vs ps) fun y hy => hmem y (hst.perm.mem_iff.mp hy)
        rw [e2] at rp
        exact q _ _ _ (Grow.new sF hnew) (.lst upd_same (rp.mono (Grow.new sF hnew).f))
    · obtain ⟨hok, e3⟩ := ite_ok h1
      subst e3
      exact sort_dat hu I sF e g hok rs fun d ys hd hr => q _ _ _ (Grow.new sF hd) (.lst upd_same (hr.mono (Grow.new sF hd).f))
theorem insU_mem (x : Int) : ∀ {ys : List Int} {z : Int}, z ∈ insU x ys ↔ z = x ∨ z ∈ ys
  | [], z => by simp [insU]
  | y :: ys, z => by
    unfold insU
    split
    · simp
    · split
      · rename_i h
        subst h
        simp
      · rw [List.mem_cons, insU_mem x, List.mem_cons]
        constructor
        · rintro (h | h | h)
          · exact .inr (.inl h)
          · exact .inl h
          · exact .inr (.inr h)
        · rintro (h | h | h)
          · exact .inr (.inl h)
          · exact .inl h
          · exact .inr (.inr h)
theorem insU_up (x : Int) : ∀ {ys : List Int}, ys.Pairwise (· < ·) → (insU x ys).Pairwise (· < ·)
  | [], _ => List.pairwise_singleton _ _
  | y :: ys, h => by
    unfold insU
    obtain ⟨h1, h2⟩ := List.pairwise_cons.mp h
    split
    · rename_i hx
      refine List.pairwise_cons.mpr ⟨fun z hz => ?_, h⟩
      rcases List.mem_cons.mp hz with rfl | hz
      · exact hx
      · exact Int.lt_trans hx (h1 z hz)
    · split
      · exact h
      · rename_i a1 a2
        refine List.pairwise_cons.mpr ⟨fun z hz => ?_, insU_up x h2⟩
        rcases (insU_mem x).mp hz with rfl | hz
        · omega
        · exact h1 z hz
theorem srtU_mem : ∀ {xs : List Int} {z : Int}, z ∈ srtU xs ↔ z ∈ xs
  | [], z => by simp [srtU]
  | x :: xs, z => by
    show z ∈ insU x (srtU xs) ↔ _
    rw [insU_mem, srtU_mem, List.mem_cons]
theorem srtU_up : ∀ xs : List Int, (srtU xs).Pairwise (· < ·)
  | [] => List.Pairwise.nil
  | x :: xs => insU_up x (srtU_up xs)
theorem up_uniq : ∀ {l m : List Int}, l.Pairwise (· < ·) → m.Pairwise (· < ·) → (∀ z, z ∈ l ↔ z ∈ m) → l = m
  | [], [], _, _, _ => rfl
  | [], y :: m, _, _, h => absurd ((h y).mpr List.mem_cons_self) (by simp)
  | x :: l, [], _, _, h => absurd ((h x).mp List.mem_cons_self) (by simp)
  | x :: l, y :: m, h1, h2, h => by
    obtain ⟨a1, a2⟩ := List.pairwise_cons.mp h1
    obtain ⟨b1, b2⟩ := List.pairwise_cons.mp h2
    have e : x = y := by
      rcases List.mem_cons.mp ((h x).mp List.mem_cons_self) with e | hx
      · exact e
      · rcases List.mem_cons.mp ((h y).mpr List.mem_cons_self) with e | hy
        · exact e.symm
        · have := b1 x hx
          have := a1 y hy
          omega
    subst e
    rw [up_uniq a2 b2 fun z => ?_]
    constructor
    · intro hz
      rcases List.mem_cons.mp ((h z).mp (List.mem_cons_of_mem _ hz)) with e | q
      · have := a1 z hz; omega
      · exact q
    · intro hz
      rcases List.mem_cons.mp ((h z).mpr (List.mem_cons_of_mem _ hz)) with e | q
      · have := b1 z hz; omega
      · exact q
end
/-! ### xs.pop(i) -/
theorem Reps.erase {K : PySem.W.Frag} {F : Hp} : ∀ {vs : List V} {ds : List D} (j : Nat), Reps K F vs ds → Reps K F (vs.eraseIdx j) (ds.eraseIdx j)
  | _, _, _, .nil => by simp; exact .nil
  | _, _, 0, .cons _ r => r
  | _, _, j + 1, .cons h r => .cons h (Reps.erase j r)
section
variable {X : Cx} {C : Cfg} {W : Exs}
theorem snd_popAt {i : Nat} {e : E} {po pe : Expr} {apos cpos : Pos} (ho : PE X po (tVar i)) (he : PE X pe (rdE X.K C W e)) (hb : isName po = true) (hs : notStar pe = true) (hline : (apos.endLine == cpos.line) = true) (hp : PlainAttrs "list") (sl : PySem.Slot "list" "pop" "list.pop") (ht : typeOf (.builtin "list.pop") = pure (.type "method_descriptor")) :
    PE X (.Call (.Attribute po "pop" apos) [pe] [] cpos) (rdE X.K C W (.popAt i e)) := by
  have hA : PA X [pe] (tCons (rdE X.K C W e) tNil) := pa_cons he pa_nil (star_cons hs)
  refine (pe_bm hp sl ht mt_popAt ho hA (base_name hb) ?_ hline (star_cons hs) rfl).imp fun σ H Q ⟨F, env, R, o⟩ => ?_
  · rw [star_all (es := [pe]) (by rw [List.all_cons, hs]; rfl)]
    rfl
  simp only [den] at o
  obtain ⟨u, hu, o⟩ := OutM.pure o exw_stuck
  obtain ⟨a, xs, vs, hd, ea, n, ha, r⟩ := ownL_at R hu
  refine ⟨.ref a, ea, .inl ⟨rfl, vs, SqL.of ha⟩, F, env, R, OutM.mono (OutM.bind o) (fun ⟨dv, env1⟩ o v F1 H1 w1 r1 => ?_) fun _ h => h⟩
  obtain ⟨p, hq, o⟩ := OutM.noX o exw_stuck
  unfold popAtF at hq
  simp only at hq
  split at hq
  · rename_i ys k hd1
    cases r1
    split at hq
    · rename_i j hj
      obtain ⟨hz, e2⟩ := ite_ok hq
      subst e2
      obtain ⟨a', ea', n1, ow⟩ := w1.rel.own hd1
      rw [ea] at ea'
      cases ea'
      cases ow with
      | @lst us _ e1 r2 =>
        have hl := r2.length
        obtain ⟨s1, s2, s3, s4⟩ := ixN_seq (show ixN ys.length k = some j from hj)
        obtain ⟨w, hw, rw⟩ := r2.get (i := j) (d := ys.getD j .non) (by rw [List.getD_eq_getElem?_getD, List.getElem?_eq_getElem s2]; rfl)
        have hz' : ys.length ≤ 16777216 := hz
        exact ⟨a, us, k, j, w, rfl, rfl, e1, by omega, by omega, by rw [hl]; exact s1, hw, o w F1 _ (w1.trans (Went.write w1.rel hd1 ea n1 (.lst upd_same (Reps.erase j r2)))) rw⟩
    · cases hq
  · cases hq
/-! ### new lists of built-in functions -/
def rBiN (K : PySem.W.Frag) (f : Bi) : List V → Hp → VK → Prop := fun xs H Q => ∃ F ds ys, Sub F H ∧ Opns K F H xs ds ∧ biF f ds = .ok (.lst ys) ∧ ∀ p vs, H p = none → Reps K F vs ys → Q (.ref p) (upd H p (.lst vs))
theorem cr_listN : CallR X (.type "list") (rBiN X.K .list) := by
  intro pins s σ H xs us Q I rs h
  obtain ⟨F, ds, r, sF, g, hf, q⟩ := h
  obtain ⟨d, rfl⟩ := bi_one hf (by simp)
  obtain ⟨x, rfl, gx⟩ := g.one
  obtain ⟨ys, h1, h2⟩ := bind_ok (show (iterD d >>= fun ys => (.ok (.lst ys) : M D)) = .ok (.lst r) from hf)
  have h2 := ok_inj h2
  injection h2 with h2
  subst h2
  cases d <;> simp only [iterD] at h1 <;> try (cases h1; done)
  · obtain ⟨p, vs, rfl, e, g⟩ := gx.tup'
    have := ok_inj h1
    subst this
    exact call_list_of pins s σ H _ us Q I rs ⟨_, _, rfl, .inr (SqT.of (sF _ _ e)), fun l hl => q l vs hl g⟩
  · obtain ⟨p, vs, rfl, e, g⟩ := gx.lst' sF
    have := ok_inj h1
    subst this
    exact call_list_of pins s σ H _ us Q I rs ⟨_, _, rfl, .inl (SqL.of e), fun l hl => q l vs hl g⟩
  · cases gx with
    | v gx =>
      cases gx with
      | scr e =>
        have := ok_inj h1
        subst this
        exact call_list_of pins s σ H _ us Q I rs ⟨_, _, rfl, .inl (sF.sqL e), fun l hl => q l _ hl (scr_reps _)⟩
theorem sndN_bi {f : Bi} {es : Es} {pes : List Expr} {pe : Expr} (hl : ∀ ds r, biF f ds = .ok r → ∃ ys, r = .lst ys) (he : ∀ {t : TA}, PA X pes t → PE X pe (tCB (rBiN X.K f) t)) (h : PA X pes (rdA X.K C W es)) : PE X pe (rdR X.K C W true (.bi f es)) := by
  refine (he h).imp fun σ H Q ⟨F, env, R, o⟩ => ?_
  simp only [den, ← deno_eq] at o
  refine ⟨F, env, R, o.bind.mono (fun ⟨as, env1⟩ o vs F1 H1 w1 ok => ?_) fun _ h => h⟩
  obtain ⟨r, h1, h2⟩ := o.pure exw_stuck
  obtain ⟨ds, h3, h4⟩ := bind_ok h1
  obtain ⟨ys, rfl⟩ := hl _ _ h4
  have h2 : ∀ v F' H', Went X.K σ env F H env1 F' H' → NewOk X.K F' H H' v (.lst ys) → Q v H' := h2
  exact ⟨F1, ds, ys, w1.rel.sub, ok.opns w1.rel h3, h4, fun p us hp hr => h2 _ F1 _ (w1.trans (Went.push w1.rel hp)) ⟨p, rfl, none_sub w1.rel.sub hp, w1.step.dom p hp, .lst upd_same hr⟩⟩
theorem list_lst {ds : List D} {r : D} (h : biF .list ds = .ok r) : ∃ ys, r = .lst ys := by
  obtain ⟨d, rfl⟩ := bi_one h (by simp)
  obtain ⟨ys, h1, h2⟩ := bind_ok (show (iterD d >>= fun ys => (.ok (.lst ys) : M D)) = .ok r from h)
  exact ⟨ys, (ok_inj h2).symm⟩
end
end L2.DN

/-! DenT: sets of ints and of pairs that are made where they stand -/
namespace HT
open PySem PySem.Spec PyProof.Rows L2
def noSet (w : World) : Obj := { cls := .type "set", dict := none, data := .set #[] 0 (.fresh 0 0 (!w.params.followText "set-order")) }
section
variable {P : Program} {w : World} {A : Around} {E : Value → Shared → Prop} {s : Shared}
set_option maxHeartbeats 3200000 in
/-- set(x), x a list or a tuple: the loop alone is left -/
theorem call_set_any {x : Addr} {items : Array Value} {Q : Value → Shared → Prop} {Post : Shared → Prop} (hh : A.handled = none) (hx : s.heap.IsList x items ∨ s.heap.IsTuple x items)
    (loop : ∀ (o : Obj) (St : Nat → Shared → Prop) (R : Result → Shared → Prop), WalksS P w A.in1.in1.in1 (s.heap.push (noSet w)).objs.size [(s.heap.push (noSet w)).objs.size, x] [(s.heap.push (noSet w)).objs.size] (fun a b => b = a) items.size (fun i v => items[i]? = some v) St →
      St 0 { s with heap := (s.heap.push (noSet w)).push o } → (∀ s', Post s' → R (.ok (.ret .none)) s') →
      codeAny (model P w) A.in1.in1 (.builtin "set.update.loop" ⟨[.ref s.heap.objs.size, .ref (s.heap.push (noSet w)).objs.size], []⟩) R { s with heap := (s.heap.push (noSet w)).push o })
    (h : ∀ s', Post s' → Q (.ref s.heap.objs.size) s') : wpAny (model P w) A (call (.type "set") [.ref x]) Q E s := by
  have old : ∀ {y : Addr} {u : Obj}, s.heap.get? y = some u → (s.heap.push (noSet w)).get? y = some u := fun e => Heap.get?_push_of_some _ e
  have ne : x ≠ (s.heap.push (noSet w)).objs.size := by
    rw [Heap.size_push]
    rcases hx with ⟨_, e, _⟩ | ⟨_, e, _⟩ <;> exact Nat.ne_of_lt (Nat.lt_succ_of_lt (Heap.lt_size e))
  have f1 := F.called_set.notType
  have f2 := F.called_set.canCreate
  have f3 := F.typeCall_set_1 (.ref x)
  have f4 := F.called_set.made
  have f5 := F.called_set.sub
  obtain ⟨c0, c1, f6⟩ := F.called_set.mro
  refine wpAny_call (codeAny_of_tree (show wpAny _ _ (callAny (.type "set") _) _ _ _ from wpAny_pure ⟨Code.quiet_builtin _ (by decide +kernel), codeAny_builtin F.entry_type_call ?_⟩))
  rw [Around.under_plain (weight_type_call_type "set" [.ref x] []) rfl]
  repeat (any_goals (first | assumption | wp_step))
  refine codeAny_mono (code_set_led1 (.ref x) (E := E) (Q₁ := fun v s1 => v = .ref s.heap.objs.size ∧ s1 = { s with heap := s.heap.push (noSet w) }) ⟨rfl, rfl⟩) fun r s1 hr => ?_
  cases r with
  | error e => exact hr
  | ok fl =>
    cases fl with
    | ret v =>
      obtain ⟨rfl, rfl⟩ := hr
      have hT : Shared.TypeIs { s with heap := s.heap.push (noSet w) } (.ref s.heap.objs.size) "set" := ⟨_, Heap.get?_push_size _ rfl, rfl⟩
      have f7 := F.called_set.init.lookup
      have f8 := F.called_set.init.bind (.ref s.heap.objs.size)
      repeat (any_goals (first | assumption | wp_step))
      refine codeAny_mono (codeAny_call_builtin (R := wants (fun r s2 => r = .none ∧ Post s2) E) F.called_set.init.plain F.entry_set_init (check_set_init_1 hT ?_)) fun r2 s2 hr2 => ?_
      · unfold Builtin.«set.__init__» noKeywords Builtin.Frozenset.updateFrom
        have hh3 : A.in1.in1.in1.handled = none := by simp [hh]
        rcases hx with hx | hx
        · obtain ⟨⟨oc, od, oa, os⟩, hox, hcl, nl, hdl⟩ := id hx
          simp only at hcl hdl
          subst hcl hdl
          have g1 := old hox
          have g2 := F.sub_list_set
          have g3 := F.sub_list_frozenset
          have g4 : (Value.type "list" == Value.type "dict") = false := by decide
          generalize hPI : pyIter = PI
          wp_walk
          subst hPI
          refine wpAny_pyIter_list (hx.push _) ?_
          refine wpAny_bind (wpAny_runValue (loop _ _ _ (Walks.list hh3 _ x ne items).toS ⟨⟨_, Heap.get?_push_size _ rfl, rfl, rfl⟩, (hx.push _).push _⟩ fun s' hp => ?_))
          show wpAny _ _ _ _ _ _
          exact wpAny_pure (show wpAny _ _ (ret Value.none) _ _ _ from wpAny_pure ⟨rfl, hp⟩)
        · obtain ⟨⟨oc, od, oa, os⟩, hox, hcl, nl, hdl⟩ := id hx
          simp only at hcl hdl
          subst hcl hdl
          have g1 := old hox
          have g2 := F.sub_tuple_set
          have g3 := F.sub_tuple_frozenset
          have g4 : (Value.type "tuple" == Value.type "dict") = false := by decide
          generalize hPI : pyIter = PI
          wp_walk
          subst hPI
          refine wpAny_pyIter_tuple (hx.push _) ?_
          refine wpAny_bind (wpAny_runValue (loop _ _ _ (Walks.tuple hh3 _ x ne items).toS ⟨⟨_, Heap.get?_push_size _ rfl, rfl, rfl⟩, (hx.push _).push _⟩ fun s' hp => ?_))
          show wpAny _ _ _ _ _ _
          exact wpAny_pure (show wpAny _ _ (ret Value.none) _ _ _ from wpAny_pure ⟨rfl, hp⟩)
      · cases r2 with
        | error e => exact hr2
        | ok fl2 =>
          cases fl2 with
          | ret r =>
            obtain ⟨rfl, hp⟩ := hr2
            repeat (any_goals (first | assumption | wp_step))
            exact h _ hp
          | _ => exact hr2.elim
    | _ => exact hr.elim
end
end HT

/-! DenU: sorted(set(..)), len(set(..)) -/
namespace L2.DN
open PySem PySem.Spec PyProof.Rows L2
theorem insUP_mem (x : Int × Int) : ∀ {ys : List (Int × Int)} {z : Int × Int}, z ∈ insUP x ys ↔ z = x ∨ z ∈ ys
  | [], z => by simp [insUP]
  | y :: ys, z => by
    unfold insUP
    split
    · simp
    · split
      · rename_i h
        subst h
        simp
      · rw [List.mem_cons, insUP_mem x, List.mem_cons]
        exact ⟨fun h => h.elim (fun h => .inr (.inl h)) (fun h => h.elim .inl fun h => .inr (.inr h)), fun h => h.elim (fun h => .inr (.inl h)) (fun h => h.elim .inl fun h => .inr (.inr h))⟩
theorem lexP_tr {x y z : Int × Int} (h1 : lexP x y = true) (h2 : lexP y z = true) : lexP x z = true := by
  rw [lexP_iff] at *
  omega
theorem insUP_up (x : Int × Int) : ∀ {ys : List (Int × Int)}, ys.Pairwise (fun p q => lexP p q = true) → (insUP x ys).Pairwise (fun p q => lexP p q = true)
  | [], _ => List.pairwise_singleton _ _
  | y :: ys, h => by
    unfold insUP
    obtain ⟨h1, h2⟩ := List.pairwise_cons.mp h
    split
    · rename_i hx
      refine List.pairwise_cons.mpr ⟨fun z hz => ?_, h⟩
      rcases List.mem_cons.mp hz with rfl | hz
      · exact hx
      · exact lexP_tr hx (h1 z hz)
    · split
      · exact h
      · rename_i a1 a2
        refine List.pairwise_cons.mpr ⟨fun z hz => ?_, insUP_up x h2⟩
        rcases (insUP_mem x).mp hz with rfl | hz
        · cases e : lexP y z with
          | true => rfl
          | false => exact absurd (lexP_anti _ _ e (by simpa using a1)).symm a2
        · exact h1 z hz
theorem srtUP_mem : ∀ {xs : List (Int × Int)} {z : Int × Int}, z ∈ srtUP xs ↔ z ∈ xs
  | [], z => by simp [srtUP]
  | x :: xs, z => by
    show z ∈ insUP x (srtUP xs) ↔ _
    rw [insUP_mem, srtUP_mem, List.mem_cons]
theorem srtUP_up : ∀ xs : List (Int × Int), (srtUP xs).Pairwise (fun p q => lexP p q = true)
  | [] => List.Pairwise.nil
  | x :: xs => insUP_up x (srtUP_up xs)
theorem lexP_irr (x : Int × Int) : lexP x x = false := by
  rw [lexP_no]
  omega
theorem srtUP_nd (xs : List (Int × Int)) : (srtUP xs).Nodup := (srtUP_up xs).imp fun {a b} h e => by
  subst e
  rw [lexP_irr] at h
  cases h
theorem srtU_nd (xs : List Int) : (srtU xs).Nodup := (srtU_up xs).imp fun {a b} h e => by omega
section
variable {X : Cx}
theorem seq_raw {pins : List (Addr × Obj)} {σ : St} {H : Hp} {s : Shared} {l : Addr} {vs : List V} (I : Inv X pins σ H s) (h : SqL X.K H l vs ∨ SqT X.K H l vs) : ∃ its : List Value, Vals vs its ∧ (s.heap.IsList l its.toArray ∨ s.heap.IsTuple l its.toArray) := by
  rcases h with h | h
  · obtain ⟨its, rv, pl, _⟩ := I.list h
    exact ⟨its, rv, .inl pl.isList⟩
  · obtain ⟨its, rv, pt, _⟩ := I.tuple h
    exact ⟨its, rv, .inr pt⟩
theorem cr_setI (hc : X.calm = true) : CallR X (.type "set") (fun xs H Q => ∃ (l : Addr) (ns : List Int), xs = [V.ref l] ∧ (SqL X.K H l (ns.map V.int) ∨ SqT X.K H l (ns.map V.int)) ∧ ns.length < 64 ∧
    ∀ a, H a = none → Q (.ref a) (upd H a (SetO X.w a (fun j => decide (j ∈ ns)) (srtU ns).length))) := by
  intro pins s σ H xs us Q I r h
  obtain ⟨l, ns, rfl, hl, hf, q⟩ := h
  rw [Vals.ref1 r]
  obtain ⟨its, rv, hx⟩ := seq_raw I hl
  have hi : IntsAre its ns := rv.ints
  have hsz : its.toArray.size = ns.length := by rw [List.size_toArray]; exact IntsAre.length hi
  have hn : H s.heap.objs.size = none := I.hok.fresh (Nat.le_refl _)
  have hlt : l < s.heap.objs.size := by
    rcases hx with ⟨_, e, _⟩ | ⟨_, e, _⟩ <;> exact Heap.lt_size e
  have zz : (s.heap.push (HT.noSet X.w)).objs.size = s.heap.objs.size + 1 := Heap.size_push ..
  refine HT.call_set_any (P := X.prog) (w := X.w) (I.ok.hd hc) hx (Post := fun s' => ∃ h' tk c, s' = { s with heap := h', toks := tk } ∧ SetR X.w h' s.heap.objs.size (fun j => decide (j ∈ ns)) c ∧ ∀ b o, s.heap.get? b = some o → h'.get? b = some o) (fun o St R W st hR => ?_) ?_
  · refine set_update_ints W s.heap.objs.size ?_ ns hsz (by unfold scanBound; omega) (fun i v hv => ?_) (its.toArray.size - 0) 0 _ (by omega) (Nat.zero_le _) st ⟨0, Nat.le_refl 0, setR_new_at (Heap.get?_push_of_some _ (Heap.get?_push_size _ rfl))⟩ fun s' c' hm hc' hS' => hR _ ?_
    · rw [zz]
      simp only [List.mem_cons, List.not_mem_nil, or_false, not_or]
      exact ⟨Nat.ne_of_lt (Nat.lt_succ_self _), Nat.ne_of_gt hlt⟩
    · have hv : its[i]? = some v := by simpa using hv
      have hi2 : i < ns.length := by
        rw [← IntsAre.length hi]
        exact (List.getElem?_eq_some_iff.mp hv).1
      obtain ⟨t, e⟩ := PyProof.Rows.IntsAre.int_at hi i v hv
      refine ⟨ns[i], t, List.getElem?_eq_getElem hi2, ?_⟩
      rw [e, List.getD_eq_getElem?_getD, List.getElem?_eq_getElem hi2]
      rfl
    · obtain ⟨h', g2, d', tk', os'⟩ := s'
      have eg : g2 = s.gens := hm.gens
      have ed : d' = s.drawn := hm.drawn
      have eo : os' = s.os := hm.os
      subst eg ed eo
      refine ⟨h', tk', c', rfl, hS', fun b o e => hm.heap b o ?_ (Heap.get?_push_of_some _ (Heap.get?_push_of_some _ e))⟩
      have hb := Heap.lt_size e
      simp only [List.mem_cons, List.not_mem_nil, or_false, not_or]
      exact ⟨Nat.ne_of_lt hb, by rw [zz]; exact Nat.ne_of_lt (Nat.lt_succ_of_lt hb)⟩
  · rintro s' ⟨h', tk, c, rfl, hS, k⟩
    have hcn : c = (srtU ns).length := by
      obtain ⟨o, es, ep, t, ho, hex, hdt, g, nd, hm2, hb, hf, hn, hr, hl2⟩ := hS
      have hp : (es.toList.map keyOf).Perm (srtU ns) := (List.perm_ext_iff_of_nodup nd (srtU_nd ns)).mpr fun z => by rw [← hm2, srtU_mem, decide_eq_true_eq]
      have := hp.length_eq
      rw [List.length_map, Array.length_toList] at this
      omega
    subst hcn
    exact ⟨.ref _, upd H _ (SetO X.w s.heap.objs.size (fun j => decide (j ∈ ns)) (srtU ns).length), I.laid (t' := tk) k (Nat.le_refl _) (setO_new hS), rfl, q _ hn⟩
theorem cr_setP (hc : X.calm = true) (hu : X.A.units + 64 < cLine) : CallR X (.type "set") (fun xs H Q => ∃ (l : Addr) (ks : List (Addr × List Int)), xs = [V.ref l] ∧ (SqL X.K H l (ks.map fun p => V.ref p.1) ∨ SqT X.K H l (ks.map fun p => V.ref p.1)) ∧ (∀ p ∈ ks, SqT X.K H p.1 (p.2.map V.int)) ∧ ks.length < 64 ∧
    ∀ a L, H a = none → (∀ p ∈ L, p ∈ ks) → (∀ p ∈ ks, p.2 ∈ L.map (·.2)) → (L.map (·.2)).Nodup → Q (.ref a) (upd H a (SetTO X.prog X.w a L))) := by
  intro pins s σ H xs us Q I r h
  obtain ⟨l, ks, rfl, hl, hk, hf, q⟩ := h
  rw [Vals.ref1 r]
  obtain ⟨its, rv, hx⟩ := seq_raw I hl
  have hi : its = ks.map fun p => Value.ref p.1 := refs_of_vals rv
  have hsz : its.toArray.size = ks.length := by rw [List.size_toArray, hi, List.length_map]
  have hn : H s.heap.objs.size = none := I.hok.fresh (Nat.le_refl _)
  have hlt : l < s.heap.objs.size := by
    rcases hx with ⟨_, e, _⟩ | ⟨_, e, _⟩ <;> exact Heap.lt_size e
  have zz : (s.heap.push (HT.noSet X.w)).objs.size = s.heap.objs.size + 1 := Heap.size_push ..
  have none_of : ∀ b, s.heap.objs.size ≤ b → s.heap.get? b = none := fun b hb => by
    cases e : s.heap.get? b with
    | none => rfl
    | some o => exact absurd (Nat.lt_of_lt_of_le (Heap.lt_size e) hb) (Nat.lt_irrefl _)
  refine HT.call_set_any (P := X.prog) (w := X.w) (I.ok.hd hc) hx (Post := fun s' => ∃ h' tk L es ep t, s' = { s with heap := h', toks := tk } ∧ SetTR X.prog X.w h' s.heap.objs.size L es ep t ∧ Got ks ks.length L ∧ ∀ b o, s.heap.get? b = some o → h'.get? b = some o) (fun o St R W st hR => ?_) ?_
  · refine set_update_tups W s.heap.objs.size ?_ ks hsz hf (fun i v hv => ?_) s.heap (fun p hp => I.isT (hk p hp)) (none_of _ (Nat.le_refl _)) (fun b hb => none_of b ?_) (by show X.A.units + 3 < cLine; omega) (its.toArray.size - 0) 0 _ (by omega) (Nat.zero_le _) st (fun b o e => Heap.get?_push_of_some _ (Heap.get?_push_of_some _ e)) ⟨[], #[], 0, _, setTR_fresh (Heap.get?_push_of_some _ (Heap.get?_push_size _ rfl)), Got.zero ks⟩ fun s' L es ep t hm hS' g' hkp => hR _ ?_
    · rw [zz]
      simp only [List.mem_cons, List.not_mem_nil, or_false, not_or]
      exact ⟨Nat.ne_of_lt (Nat.lt_succ_self _), Nat.ne_of_gt hlt⟩
    · have hv : its[i]? = some v := by simpa using hv
      rw [hi, List.getElem?_map] at hv
      obtain ⟨p, hp, e⟩ := Option.map_eq_some_iff.mp hv
      exact ⟨p, hp, e.symm⟩
    · rw [List.mem_singleton.mp hb, zz]
      exact Nat.le_succ _
    · obtain ⟨h', g2, d', tk', os'⟩ := s'
      have eg : g2 = s.gens := hm.gens
      have ed : d' = s.drawn := hm.drawn
      have eo : os' = s.os := hm.os
      subst eg ed eo
      rw [hsz] at g'
      exact ⟨h', tk', L, es, ep, t, rfl, hS', g', hkp⟩
  · rintro s' ⟨h', tk, L, es, ep, t, rfl, hS, g, k⟩
    exact ⟨.ref _, upd H _ (SetTO X.prog X.w s.heap.objs.size L), I.laid (t' := tk) k (Nat.le_refl _) (setTO_new hS.t0), rfl, q _ L hn (fun p hp => List.mem_of_mem_take (g.sub p hp)) (fun p hp => g.all p (by rw [List.take_length]; exact hp)) hS.nd⟩
theorem cr_lenI : CallR X (.builtin "len") (fun xs H Q => ∃ (a : Addr) (S : Int → Bool) (n : Nat), xs = [V.ref a] ∧ H a = some (SetO X.w a S n) ∧ Q (.int n) H) := by
  intro pins s σ H xs us Q I r h
  obtain ⟨a, S, n, rfl, ha, q⟩ := h
  rw [Vals.ref1 r]
  obtain ⟨o, es, ep, t, ho, hex, hdt, g, nd, hm2, hb, hf, hn, hr, hl2⟩ := setO_get I ha
  refine call_len_set ho hex hdt hf (by unfold scanBound at hb; omega) ⟨.int n, H, I.tok _, ⟨_, by rw [hn]⟩, q⟩
theorem cr_lenP : CallR X (.builtin "len") (fun xs H Q => ∃ (a : Addr) (L : List (Addr × List Int)), xs = [V.ref a] ∧ H a = some (SetTO X.prog X.w a L) ∧ (∀ p ∈ L, SqT X.K H p.1 (p.2.map V.int)) ∧ Q (.int L.length) H) := by
  intro pins s σ H xs us Q I r h
  obtain ⟨a, L, rfl, ha, hk, q⟩ := h
  rw [Vals.ref1 r]
  have R0 : SetT0 X.prog X.w s.heap a L := (I.hok a _ ha).1
  obtain ⟨es, ep, t, R⟩ := R0.full fun p hp => I.isT (hk p hp)
  obtain ⟨o, ho, hex, hd⟩ := R.ob
  have hs := R.size
  have hf := R.few
  exact call_len_set ho hex hd R.fits (by omega) ⟨.int L.length, H, I.tok _, ⟨_, by rw [hs]⟩, q⟩
end

def prL (p : Int × Int) : List Int := [p.1, p.2]
def toP : List Int → Int × Int
  | [i, j] => (i, j)
  | _ => (0, 0)
theorem ks_of {K : PySem.W.Frag} {F : Hp} : ∀ {ps : List (Int × Int)} {vs : List V}, Reps K F vs (ps.map prD) → ∃ ks : List (Addr × List Int), vs = ks.map (fun p => V.ref p.1) ∧ ks.map (·.2) = ps.map prL ∧ ∀ p ∈ ks, F p.1 = some (.tup (p.2.map V.int))
  | [], _, .nil => ⟨[], rfl, rfl, fun _ h => nomatch h⟩
  | p :: ps, _, .cons h r => by
    obtain ⟨ks, rfl, h2, h3⟩ := ks_of r
    obtain ⟨t, rfl, ht⟩ := rep_pr h
    refine ⟨(t, [p.1, p.2]) :: ks, rfl, by rw [List.map_cons, h2]; rfl, fun q hq => ?_⟩
    rcases List.mem_cons.mp hq with rfl | hq
    · exact ht
    · exact h3 q hq
theorem insU_len (x : Int) : ∀ ys : List Int, (insU x ys).length ≤ ys.length + 1
  | [] => by simp [insU]
  | y :: ys => by
    unfold insU
    have := insU_len x ys
    split
    · simp
    · split <;> simp <;> omega
theorem srtU_len : ∀ xs : List Int, (srtU xs).length ≤ xs.length
  | [] => Nat.le_refl _
  | x :: xs => by
    have h1 := insU_len x (srtU xs)
    have h2 := srtU_len xs
    show (insU x (srtU xs)).length ≤ xs.length + 1
    omega
theorem seq_opn {K : PySem.W.Frag} {F H : Hp} {x : V} {dx : D} {xs : List D} (s : Sub F H) (g : Opn K F H x dx) (h : dx = .tup xs ∨ dx = .lst xs) : ∃ l vs, x = .ref l ∧ (SqL K H l vs ∨ SqT K H l vs) ∧ Reps K F vs xs := by
  rcases h with rfl | rfl
  · obtain ⟨p, vs, rfl, e, g⟩ := g.tup'
    exact ⟨p, vs, rfl, .inr (SqT.of (s _ _ e)), g⟩
  · obtain ⟨p, vs, rfl, e, g⟩ := g.lst' s
    exact ⟨p, vs, rfl, .inl (SqL.of e), g⟩
theorem sstF_seq {dx : D} {r : List D} (h : sstF dx = .ok r) : ∃ xs, (dx = .tup xs ∨ dx = .lst xs) ∧ sstL xs = .ok r := by
  unfold sstF at h
  split at h
  · exact ⟨_, .inl rfl, h⟩
  · exact ⟨_, .inr rfl, h⟩
  · cases h
theorem lseF_seq {dx : D} {r : Int} (h : lseF dx = .ok r) : ∃ xs, (dx = .tup xs ∨ dx = .lst xs) ∧ lseL xs = .ok r := by
  unfold lseF at h
  split at h
  · exact ⟨_, .inl rfl, h⟩
  · exact ⟨_, .inr rfl, h⟩
  · cases h
theorem prL_toP (p : Int × Int) : toP (prL p) = p := rfl
theorem prL_inj : ∀ {p q : Int × Int}, prL p = prL q → p = q := fun {p q} h => by
  have := congrArg toP h
  exact this
theorem uni_len {ps : List (Int × Int)} {L ks : List (Addr × List Int)} (hk : ks.map (·.2) = ps.map prL) (h1 : ∀ p ∈ L, p ∈ ks) (h2 : ∀ p ∈ ks, p.2 ∈ L.map (·.2)) (nd : (L.map (·.2)).Nodup) : (L.map (·.2)).Perm ((srtUP ps).map prL) := by
  have nd2 : ((srtUP ps).map prL).Nodup := by
    refine List.pairwise_map.mpr ((srtUP_nd ps).imp fun h e => h (prL_inj e))
  refine (List.perm_ext_iff_of_nodup nd nd2).mpr fun z => ?_
  have hz : z ∈ (srtUP ps).map prL ↔ z ∈ ps.map prL := by
    rw [List.mem_map, List.mem_map]
    exact ⟨fun ⟨p, h, e⟩ => ⟨p, srtUP_mem.mp h, e⟩, fun ⟨p, h, e⟩ => ⟨p, srtUP_mem.mpr h, e⟩⟩
  rw [hz, ← hk]
  constructor
  · intro h
    obtain ⟨p, hp, rfl⟩ := List.mem_map.mp h
    exact List.mem_map.mpr ⟨p, h1 p hp, rfl⟩
  · intro h
    obtain ⟨p, hp, rfl⟩ := List.mem_map.mp h
    exact h2 p hp
theorem reps_ks {K : PySem.W.Frag} {F : Hp} : ∀ {L : List (Addr × List Int)}, (∀ q ∈ L, ∃ z, q.2 = prL z ∧ F q.1 = some (.tup (q.2.map V.int))) → Reps K F (L.map fun q => V.ref q.1) ((L.map fun q => toP q.2).map prD)
  | [], _ => .nil
  | q :: L, h => by
    obtain ⟨z, e1, e2⟩ := h q List.mem_cons_self
    refine .cons ?_ (reps_ks fun y hy => h y (List.mem_cons_of_mem _ hy))
    rw [e1] at e2
    show Rep K F (V.ref q.1) (prD (toP q.2))
    rw [e1]
    exact .tup e2 (.cons (.int _) (.cons (.int _) .nil))
section
variable {X : Cx} {C : Cfg} {W : Exs}
def rSetI (X : Cx) : List V → Hp → VK → Prop := fun xs H Q => ∃ (l : Addr) (ns : List Int), xs = [V.ref l] ∧ (SqL X.K H l (ns.map V.int) ∨ SqT X.K H l (ns.map V.int)) ∧ ns.length < 64 ∧
    ∀ a, H a = none → Q (.ref a) (upd H a (SetO X.w a (fun j => decide (j ∈ ns)) (srtU ns).length))
def rSetP (X : Cx) : List V → Hp → VK → Prop := fun xs H Q => ∃ (l : Addr) (ks : List (Addr × List Int)), xs = [V.ref l] ∧ (SqL X.K H l (ks.map fun p => V.ref p.1) ∨ SqT X.K H l (ks.map fun p => V.ref p.1)) ∧ (∀ p ∈ ks, SqT X.K H p.1 (p.2.map V.int)) ∧ ks.length < 64 ∧
    ∀ a L, H a = none → (∀ p ∈ L, p ∈ ks) → (∀ p ∈ ks, p.2 ∈ L.map (·.2)) → (L.map (·.2)).Nodup → Q (.ref a) (upd H a (SetTO X.prog X.w a L))
theorem cr_setX (hc : X.calm = true) (hu : X.A.units + 64 < cLine) : CallR X (.type "set") (fun xs H Q => rSetI X xs H Q ∨ rSetP X xs H Q) := by
  intro pins s σ H xs us Q I r h
  rcases h with h | h
  · exact cr_setI hc pins s σ H xs us Q I r h
  · exact cr_setP hc hu pins s σ H xs us Q I r h
def rLenI (X : Cx) : List V → Hp → VK → Prop := fun xs H Q => ∃ (a : Addr) (S : Int → Bool) (n : Nat), xs = [V.ref a] ∧ H a = some (SetO X.w a S n) ∧ Q (.int n) H
def rLenP (X : Cx) : List V → Hp → VK → Prop := fun xs H Q => ∃ (a : Addr) (L : List (Addr × List Int)), xs = [V.ref a] ∧ H a = some (SetTO X.prog X.w a L) ∧ (∀ p ∈ L, SqT X.K H p.1 (p.2.map V.int)) ∧ Q (.int L.length) H
theorem cr_lenX : CallR X (.builtin "len") (fun xs H Q => rLenI X xs H Q ∨ rLenP X xs H Q) := by
  intro pins s σ H xs us Q I r h
  rcases h with h | h
  · exact cr_lenI pins s σ H xs us Q I r h
  · exact cr_lenP pins s σ H xs us Q I r h
theorem cr_sortX (hc : X.calm = true) : CallR X (.builtin "sorted") (fun xs H Q => rSortedSet X.w xs H Q ∨ rSortedT X.K X.prog X.w xs H Q) := by
  intro pins s σ H xs us Q I r h
  rcases h with h | h
  · exact cr_sortedSet hc pins s σ H xs us Q I r h
  · exact cr_sortedT hc pins s σ H xs us Q I r h
theorem pe_setX {a : E} {pa : Expr} {p2 q : Pos} (hc : X.calm = true) (hu : X.A.units + 64 < cLine) (hg2 : Gl X "set") (hm2 : X.mg "set" = none) (hs : notStar pa = true) (ha : PE X pa (rdO X.K C W a)) :
    PE X (.Call (.Name "set" p2) [pa] [] q) (tCB (fun xs H Q => rSetI X xs H Q ∨ rSetP X xs H Q) (tCons (rdO X.K C W a) tNil)) :=
  pe_callTy (cr_setX hc hu) hg2 hm2 PyProof.Rows.boot_set (pa_cons ha pa_nil (star_cons hs)) (by decide) (by decide) (star_cons hs)
theorem snd_sst {a : E} {pa : Expr} {p p2 q pos : Pos} (hc : X.calm = true) (hu : X.A.units + 64 < cLine) (hg : Gl X "sorted") (hm : X.mg "sorted" = none) (hg2 : Gl X "set") (hm2 : X.mg "set" = none) (hs : notStar pa = true) (ha : PE X pa (rdO X.K C W a)) :
    PE X (.Call (.Name "sorted" p) [.Call (.Name "set" p2) [pa] [] q] [] pos) (rdE X.K C W (.sst a)) := by
  refine (pe_callB (cr_sortX hc) hg hm PyProof.Rows.boot_sorted (pa_cons (pe_setX hc hu hg2 hm2 hs ha) pa_nil) (by decide) (by decide)).imp fun σ H Q ⟨F, env, R, o⟩ => ?_
  simp only [den, ← deno_eq] at o
  refine ⟨F, env, R, o.bind.mono (fun ⟨x, env1⟩ o v F1 H1 w1 o1 => ?_) fun _ h => h⟩
  obtain ⟨r, h1, h2⟩ := OutM.pure (m := (do sstF (← val env1 x))) o exw_stuck
  obtain ⟨dx, h3, h4⟩ := bind_ok h1
  have h2 : ∀ v F' H', Went X.K σ env F H env1 F' H' → Rep X.K F' v (.lst r) → Q v H' := h2
  obtain ⟨xs, hxs, h4⟩ := sstF_seq h4
  obtain ⟨l, vs, rfl, hl, g⟩ := seq_opn w1.rel.sub (o1.opn w1.rel h3) hxs
  unfold sstL at h4
  split at h4
  · rename_i ns hn
    obtain ⟨hlen, e⟩ := ite_ok h4
    subst e
    have hd := allInt_ok hn
    subst hd
    have hv := Reps.ints g
    subst hv
    refine .inl ⟨l, ns, rfl, hl, hlen, fun b hb => .inl ⟨b, _, _, rfl, upd_same, Nat.lt_of_le_of_lt (srtU_len ns) hlen, fun ns' pp ho hm' _ hnew => ?_⟩⟩
    have e2 : ns' = srtU ns := up_uniq ho (srtU_up ns) fun z => by rw [hm', srtU_mem, decide_eq_true_eq]
    subst e2
    have w2 := w1.trans (Went.push (o := SetO X.w b (fun j => decide (j ∈ ns)) (srtU ns).length) w1.rel hb)
    exact h2 _ _ _ (w2.trans (Went.grow w2.rel (Grow.new w2.rel.sub hnew))) (.lst upd_same (scr_reps _))
  · split at h4
    · rename_i ps hp
      obtain ⟨⟨hlen, h64⟩, e⟩ := ite_ok h4
      subst e
      have hd := allPr_ok hp
      subst hd
      obtain ⟨ks, rfl, hk2, hk3⟩ := ks_of g
      have hkl : ks.length = ps.length := by
        have := congrArg List.length hk2
        rwa [List.length_map, List.length_map] at this
      refine .inr ⟨l, ks, rfl, hl, fun p hp => SqT.of (w1.rel.sub _ _ (hk3 p hp)), by omega, fun b L hb c1 c2 c3 => .inr ⟨b, L, 2, 64, rfl, upd_same, fun p hp => SqT.of ?_, by decide, fun p hp => ?_, fun L' pp hpm hnd hl' hpw hnew => ?_⟩⟩
      · have := w1.rel.sub _ _ (hk3 p (c1 p hp))
        rw [upd_ne (ne_of_none this hb)]
        exact this
      · have hm' : p.2 ∈ ps.map prL := by rw [← hk2]; exact List.mem_map.mpr ⟨p, c1 p hp, rfl⟩
        obtain ⟨z, hz, e⟩ := List.mem_map.mp hm'
        have hz := List.all_eq_true.mp h64 z hz
        simp only [in64, Bool.and_eq_true, decide_eq_true_eq] at hz
        rw [← e]
        refine ⟨rfl, fun m hm' => ?_⟩
        simp only [prL, List.mem_cons, List.not_mem_nil, or_false] at hm'
        rcases hm' with rfl | rfl <;> omega
      · have w2 := w1.trans (Went.push (o := SetTO X.prog X.w b L) w1.rel hb)
        have hP : (L'.map (·.2)).Perm ((srtUP ps).map prL) := (hpm.map (·.2)).trans (uni_len hk2 c1 c2 c3)
        have hmem : ∀ q ∈ L', ∃ z ∈ ps, q.2 = prL z ∧ in64 z = true ∧ F1 q.1 = some (.tup (q.2.map V.int)) := fun q hq => by
          have hq2 := c1 q (hpm.mem_iff.mp hq)
          have : q.2 ∈ ps.map prL := by rw [← hk2]; exact List.mem_map.mpr ⟨q, hq2, rfl⟩
          obtain ⟨z, hz, e⟩ := List.mem_map.mp this
          exact ⟨z, hz, e.symm, List.all_eq_true.mp h64 z hz, hk3 q hq2⟩
        have hmap : L'.map (fun q => toP q.2) = srtUP ps := by
          refine perm_uniq lexP_anti ?_ ((srtUP_up ps).imp fun {a b} h => ?_) ?_
          · refine List.pairwise_map.mpr ((hpw.and (List.pairwise_map.mp hnd)).imp_of_mem fun {q r} hq hr h => ?_)
            obtain ⟨z, _, e1, b1, _⟩ := hmem q hq
            obtain ⟨y, _, e2, b2, _⟩ := hmem r hr
            obtain ⟨h5, h6⟩ := h
            rw [e1, e2] at h5 h6
            rw [e1, e2, prL_toP, prL_toP, lexP_no]
            simp only [in64, Bool.and_eq_true, decide_eq_true_eq] at b1 b2
            have := pair_lt (x := z.1) (y := z.2) (x' := y.1) (y' := y.2) h5 h6 (by omega) (by omega) (by omega) (by omega)
            omega
          · rw [lexP_no]
            rw [lexP_iff] at h
            omega
          · have := hP.map toP
            rw [List.map_map, List.map_map] at this
            have e : (srtUP ps).map (toP ∘ prL) = srtUP ps := by
              rw [show toP ∘ prL = id from rfl, List.map_id]
            rw [e] at this
            exact this
        refine h2 _ _ _ (w2.trans (Went.grow w2.rel (Grow.new w2.rel.sub hnew))) (.lst upd_same ?_)
        rw [← hmap]
        have gr := (Grow.new (o := .lst (L'.map fun q => V.ref q.1)) w2.rel.sub hnew).f
        exact reps_ks fun q hq => by
          obtain ⟨z, hz, e1, _, e2⟩ := hmem q hq
          exact ⟨z, e1, gr _ _ e2⟩
    · cases h4
theorem snd_lse {a : E} {pa : Expr} {p p2 q pos : Pos} (hc : X.calm = true) (hu : X.A.units + 64 < cLine) (hg : Gl X "len") (hm : X.mg "len" = none) (hg2 : Gl X "set") (hm2 : X.mg "set" = none) (hs : notStar pa = true) (ha : PE X pa (rdO X.K C W a)) :
    PE X (.Call (.Name "len" p) [.Call (.Name "set" p2) [pa] [] q] [] pos) (rdE X.K C W (.lse a)) := by
  refine (pe_callB cr_lenX hg hm PySem.boot_len (pa_cons (pe_setX hc hu hg2 hm2 hs ha) pa_nil) (by decide) (by decide)).imp fun σ H Q ⟨F, env, R, o⟩ => ?_
  simp only [den, ← deno_eq] at o
  refine ⟨F, env, R, o.bind.mono (fun ⟨x, env1⟩ o v F1 H1 w1 o1 => ?_) fun _ h => h⟩
  obtain ⟨r, h1, h2⟩ := OutM.pure (m := (do lseF (← val env1 x))) o exw_stuck
  obtain ⟨dx, h3, h4⟩ := bind_ok h1
  have h2 : ∀ v F' H', Went X.K σ env F H env1 F' H' → Rep X.K F' v (.int r) → Q v H' := h2
  obtain ⟨xs, hxs, h4⟩ := lseF_seq h4
  obtain ⟨l, vs, rfl, hl, g⟩ := seq_opn w1.rel.sub (o1.opn w1.rel h3) hxs
  unfold lseL at h4
  split at h4
  · rename_i ns hn
    obtain ⟨hlen, e⟩ := ite_ok h4
    subst e
    have hd := allInt_ok hn
    subst hd
    have hv := Reps.ints g
    subst hv
    refine .inl ⟨l, ns, rfl, hl, hlen, fun b hb => .inl ⟨b, _, _, rfl, upd_same, ?_⟩⟩
    exact h2 _ _ _ (w1.trans (Went.push (o := SetO X.w b (fun j => decide (j ∈ ns)) (srtU ns).length) w1.rel hb)) (.int _)
  · split at h4
    · rename_i ps hp
      obtain ⟨hlen, e⟩ := ite_ok h4
      subst e
      have hd := allPr_ok hp
      subst hd
      obtain ⟨ks, rfl, hk2, hk3⟩ := ks_of g
      have hkl : ks.length = ps.length := by
        have := congrArg List.length hk2
        rwa [List.length_map, List.length_map] at this
      refine .inr ⟨l, ks, rfl, hl, fun p hp => SqT.of (w1.rel.sub _ _ (hk3 p hp)), by omega, fun b L hb c1 c2 c3 => .inr ⟨b, L, rfl, upd_same, fun p hp => SqT.of ?_, ?_⟩⟩
      · have := w1.rel.sub _ _ (hk3 p (c1 p hp))
        rw [upd_ne (ne_of_none this hb)]
        exact this
      · have e := (uni_len hk2 c1 c2 c3).length_eq
        rw [List.length_map, List.length_map] at e
        rw [e]
        exact h2 _ _ _ (w1.trans (Went.push (o := SetTO X.prog X.w b L) w1.rel hb)) (.int _)
    · cases h4
end
end L2.DN

/-! DenV: enumerate(list), enumerate(tuple) -/
namespace HV
open PySem PySem.Spec PyProof.Rows L2
set_option maxHeartbeats 1000000 in
theorem meets_enum_newT (t : Addr) (items : Array Value) :
    Meets (Builtin.«enumerate.__new__» ⟨[.type "enumerate", .ref t], []⟩) (fun _ R s => s.heap.IsTuple t items ∧
      R (.ok (.ret (.ref (s.heap.push { cls := .type "tuple_iterator", data := .fields #[.ref t, .int 0 0] }).objs.size))) { s with heap := (s.heap.push { cls := .type "tuple_iterator", data := .fields #[.ref t, .int 0 0] }).push { cls := .type "enumerate", data := .fields #[.none, .bool false, .ref s.heap.objs.size, rawInt 0, .none, .none] } }) :=
  .of_wp fun prog w A R s h => by
    obtain ⟨hp, g, d, tk, os⟩ := s; obtain ⟨h1, h⟩ := h
    have hsub := sub_enumerate
    have q1 : ∀ {A' : Around} {E : Value → Shared → Prop} {Q : Value → Shared → Prop}, Q (.ref hp.objs.size) ⟨hp.push { cls := .type "tuple_iterator", data := .fields #[.ref t, .int 0 0] }, g, d, tk, os⟩ → wpAny (model prog w) A' (pyIter (.ref t)) Q E ⟨hp, g, d, tk, os⟩ :=
      fun q => wpAny_pyIter_tuple (s := ⟨hp, g, d, tk, os⟩) h1 q
    wp_walk using q1
    refine wpAny_stack_any fun st => wpAny_pure ?_
    split
    · rename_i c _ _ _ _ _
      cases (c == Value.type "enumerate")
      · wp_walk using q1
        exact ⟨_, rfl, h⟩
      · wp_walk using q1
        exact ⟨_, rfl, h⟩
    · wp_walk using q1
      exact ⟨_, rfl, h⟩
section
variable {prog : Program} {w : World} {A : Around} {E : Value → Shared → Prop} {s : Shared}
theorem call_enum_tuple {l : Addr} {items : Array Value} {Q : Value → Shared → Prop} (hL : s.heap.IsTuple l items)
    (h : ∀ h', IsEnum h' (s.heap.objs.size + 1) s.heap.objs.size 0 .none → h'.IsTupleIter s.heap.objs.size l 0 → h'.objs.size = s.heap.objs.size + 2 →
      (∀ b o, s.heap.get? b = some o → h'.get? b = some o) → Q (.ref (s.heap.objs.size + 1)) { s with heap := h' }) :
    wpAny (model prog w) A (call (.type "enumerate") [.ref l]) Q E s := by
  refine callType_new F.called_enumerate (by decide) (F.typeCall_enumerate_1 _) (F.newCall_enumerate_1 _) (fun obj => F.args_object_init_2 obj _) F.entry_enumerate_new
    (meets_enum_newT l items) ⟨hL, ?_⟩
  have hz : (s.heap.push { cls := .type "tuple_iterator", data := .fields #[.ref l, .int 0 0] }).objs.size = s.heap.objs.size + 1 := Heap.size_push ..
  show _ ∧ _
  rw [hz]
  have he : IsEnum ((s.heap.push { cls := .type "tuple_iterator", data := .fields #[.ref l, .int 0 0] }).push
      { cls := .type "enumerate", data := .fields #[.none, .bool false, .ref s.heap.objs.size, rawInt 0, .none, .none] }) (s.heap.objs.size + 1) s.heap.objs.size 0 .none := by
    have := Heap.get?_push_size (s.heap.push { cls := .type "tuple_iterator", data := .fields #[.ref l, .int 0 0] })
      (o := { cls := .type "enumerate", data := .fields #[.none, .bool false, .ref s.heap.objs.size, rawInt 0, .none, .none] }) rfl
    rw [hz] at this; exact this
  refine ⟨⟨_, he, rfl⟩, h _ he ⟨_, Heap.get?_push_of_some _ (Heap.get?_push_size _ rfl), rfl, rfl⟩ (by rw [Heap.size_push, hz]) fun b o x => Heap.get?_push_of_some _ (Heap.get?_push_of_some _ x)⟩
theorem next_enumT_end {e it l : Addr} {i : Nat} {items : Array Value} {old : Value} {Q : Option Value → Shared → Prop} (hh : A.handled = none)
    (he : IsEnum s.heap e it i old) (hit : s.heap.IsTupleIter it l i) (hl : s.heap.IsTuple l items) (hx : items[i]? = none)
    (hQ : ∀ h', Heap.ExtBut it s.heap h' → Q none { s with heap := h' }) : wpAny (model prog w) A (pyNext (.ref e)) Q E s := by
  have hT : s.TypeIs (.ref e) "enumerate" := ⟨_, he, rfl⟩
  unfold pyNext
  refine wpAny_bind (wpAny_attempt (wpAny_callSpecial?_slot (name := Str.ofString "__next__") hT F.slot_enumerate_next
    (wpAny_call_entry F.slot_enumerate_next hT F.entry_enumerate_next ?_ (F.args_enumerate_next_1 _))))
  show wpAny _ _ (field (.ref e) 2 >>= _) _ _ _
  refine wpAny_bind (wpAny_field he rfl (x := .ref it) rfl ?_)
  refine wpAny_bind (wpAny_nextOf_tuple_end hh hit hl hx fun h' x he' hx' => ?_)
  obtain ⟨o, ho, hc⟩ := hx'
  refine wpAny_bind (wpAny_isInstance (T := "StopIteration") (b := true) ⟨o, ho, hc⟩ isSubtype_stop ?_)
  exact wpAny_pure (hQ _ he')
end
/-- the tuple at a, each item in a new pair -/
def Iteu (K : PySem.W.Frag) (a : Addr) : It :=
  ⟨fun i H => ∃ (xs : List V) (x : V), SqT K H a xs ∧ xs[i]? = some x, fun i H v H' => ∃ T x, v = .ref T ∧ H T = none ∧ H' = upd H T (.tup [.int (i : Nat), x]) ∧ ∀ xs, SqT K H a xs → xs[i]? = some x, fun i H => ∃ xs : List V, SqT K H a xs ∧ xs.length ≤ i⟩
theorem turn_enumT {P : Program} {w : World} {K : PySem.W.Frag} {elts : List Expr} {kk : Nat} {tpos : Pos} (a e it : Addr) :
    Turn P w K (.Tuple elts kk tpos) (Iteu K a) [e, it] e (fun i h => (∃ old, IsEnum h e it ((i : Nat) : Int) old) ∧ h.IsTupleIter it a i ∧ e ≠ it) where
  mem := by simp
  obj := fun i h st b hb => by
    obtain ⟨⟨old, he⟩, ⟨o, ho, hc, hd⟩, _⟩ := st
    have e' : b = e ∨ b = it := by simpa using hb
    rcases e' with z | z
    · rw [z]; exact ⟨_, he, fun v q => nomatch q⟩
    · rw [z]; exact ⟨o, ho, fun v q => by rw [hd] at q; cases q⟩
  keep := fun i h h' st k => let ⟨⟨old, he⟩, hi, hne⟩ := st; ⟨⟨old, k e (by simp) _ he⟩, hi.at fun o q => k it (by simp) o q, hne⟩
  item := by
    intro X hP hw hK hc i pins s σ H E I hf st hg
    subst hP hw hK
    obtain ⟨⟨old, he⟩, hit, hne⟩ := st
    obtain ⟨xs, x, hq, hx⟩ := hg
    obtain ⟨its, rv, p, hz⟩ := I.tuple hq
    obtain ⟨u, hu, ru⟩ := rv.get hx
    have p : s.heap.IsTuple a its.toArray := p
    have hel : e < s.heap.objs.size := Heap.lt_size he
    have hil : it < s.heap.objs.size := by obtain ⟨_, q, _⟩ := hit; exact Heap.lt_size q
    have hai : a ≠ it := by
      rintro rfl
      obtain ⟨o1, e1, c1, _⟩ := p
      obtain ⟨o2, e2, c2, _⟩ := hit
      rw [e1] at e2
      cases e2
      rw [c1] at c2
      simp at c2
    have hae : e ≠ a := by
      rintro rfl
      obtain ⟨o1, e1, c1, _⟩ := p
      rw [show s.heap.get? e = _ from he] at e1
      cases e1
      simp at c1
    have hlt : i < its.toArray.size := by
      have := (List.getElem?_eq_some_iff.mp hu).1
      simpa using this
    refine wpAny_pyNext_enum_itemD (Draws.tuple (A := X.A.in1) (by simp [I.ok.hd hc]) it a hai its.toArray) he ⟨hit, p⟩ hlt hne (by simp [hne, hae]) fun y h' tk hP ho hit' hT hsz hk => ?_
    have hy : y = u := by
      have : its.toArray[i]? = some u := by simpa using hu
      rw [this] at hP
      exact (Option.some.inj hP).symm
    subst hy
    refine ⟨_, rfl, wpAny_letOwnedTupleGo_enum (s := { s with heap := h', toks := tk + 1 }) ho fun h'' he' sb => ?_⟩
    have hT2 : h''.get? s.heap.objs.size = some { cls := .type "tuple", data := .seq #[.int i tk, y] } := (sb.2 _ (Nat.ne_of_gt hel)).trans hT
    have new : ObjOk X.prog X.w (upd H s.heap.objs.size (.tup [.int (i : Nat), x])) h'' s.heap.objs.size (.tup [.int (i : Nat), x]) :=
      ⟨by show 2 ≤ sizeLine; decide, [.int i tk, y], .cons ⟨_, rfl⟩ (.cons ru .nil), ⟨_, hT2, rfl, _, rfl⟩⟩
    have I1 : Inv X pins σ (upd H s.heap.objs.size (.tup [.int (i : Nat), x])) { s with heap := h'', toks := tk + 1 } :=
      I.turnedNew (ch := [e, it]) (fun b ob hb q => (sb.2 b (fun z => hb (by simp [z]))).trans (hk b ob (fun z => hb (by simp [z])) (fun z => hb (by simp [z])) q)) hf (Nat.le_refl _) new
    refine ⟨.ref s.heap.objs.size, _, I1, rfl, ⟨_, x, rfl, I.hok.fresh (Nat.le_refl _), rfl, fun ys hy => by rw [I.tuple_inj hy hq]; exact hx⟩, ⟨⟨y, ?_⟩, hit'.1.at fun o q => (sb.2 it (Ne.symm hne)).trans q, hne⟩, fun b hb => ?_⟩
    · have e1 : ((i + 1 : Nat) : Int) = (i : Int) + 1 := by omega
      rw [e1]; exact he'
    · have hb' : b < s.heap.objs.size := by
        have e' : b = e ∨ b = it := by simpa using hb
        rcases e' with z | z
        · rw [z]; exact hel
        · rw [z]; exact hil
      rw [upd_ne (Nat.ne_of_lt hb')]
      exact (hf b hb).1
  done := by
    intro X hP hw hK hc i pins s σ H E I hf st hg
    subst hP hw hK
    obtain ⟨⟨old, he⟩, hit, hne⟩ := st
    obtain ⟨xs, hq, hx⟩ := hg
    obtain ⟨its, rv, p, hz⟩ := I.tuple hq
    obtain ⟨f0, f1, f2, f3, f4, f5⟩ := hf it (by simp)
    have hl := rv.length
    exact next_enumT_end (I.ok.hd hc) he hit (show s.heap.IsTuple a its.toArray from p) (by simp; omega) fun h' eb => ⟨rfl, I.turned (t' := s.toks) (fun b o hb q => eb b o hb q) f0 f1 f3 f4 f5⟩
  self := fun A i s Q E st h => let ⟨⟨_, he⟩, _⟩ := st; wpAny_pyIter_enum he h
def iEnumA (K : PySem.W.Frag) (ta : TA) : TI := fun σ H R => ta σ H fun vs H1 => ∃ a xs, vs = [.ref a] ∧ ((SqL K H1 a xs ∧ (xs.length ≤ sizeLine → R (Ite K a) H1)) ∨ (SqT K H1 a xs ∧ (xs.length ≤ sizeLine → R (Iteu K a) H1)))
theorem pi_enumA {X : Cx} {e : Expr} {ta : TA} {p pos tpos : Pos} {elts : List Expr} {kk : Nat} (hg : Gl X "enumerate") (hm : X.mg "enumerate" = none) (ha : PA X [e] ta) (hs : starEach [e] X.env = [(false, eval e X.env)] := by rfl) :
    PI X (.Tuple elts kk tpos) (.Call (.Name "enumerate" p) [e] [] pos) (iEnumA X.K ta) := by
  refine ⟨fun pins s σ H R I h => ?_⟩
  refine Call_ (ld_blt I hg hm boot_enumerate (PyProof.Rows.callWith_type1 (thn (ha.run pos pins s σ H _ I h) fun us s1 ⟨vs, H1, I1, r1, q1⟩ => ?_) hs rfl))
  obtain ⟨a, xs, ex, q1⟩ := q1
  subst ex
  cases r1 with
  | cons r rr =>
    cases rr
    cases r
    have fresh2 : ∀ b, b ∈ [s1.heap.objs.size + 1, s1.heap.objs.size] → FpOk X pins H1 b := fun b hb => by
      have e' : b = s1.heap.objs.size + 1 ∨ b = s1.heap.objs.size := by simpa using hb
      have hle : s1.heap.objs.size ≤ b := by
        rcases e' with z | z
        · rw [z]; exact Nat.le_add_right _ _
        · rw [z]; exact Nat.le_refl _
      exact I1.fpOk hle (I1.hok.fresh hle)
    rcases q1 with ⟨hq, q⟩ | ⟨hq, q⟩
    · obtain ⟨its, rv, p', hz⟩ := I1.list hq
      refine call_enumerate_list p'.isList fun h' he hit hsz hk => wpAny_pyIter_enum he ?_
      have I2 : Inv X pins σ H1 { s1 with heap := h' } := I1.kept (t' := s1.toks) hk
      exact ⟨s1.heap.objs.size + 1, [s1.heap.objs.size + 1, s1.heap.objs.size], _, _, H1, rfl, I2, turn_enum a (s1.heap.objs.size + 1) s1.heap.objs.size, ⟨⟨.none, he⟩, hit, Nat.succ_ne_self _⟩, fresh2, q hz⟩
    · obtain ⟨its, rv, p', hz⟩ := I1.tuple hq
      refine call_enum_tuple (show s1.heap.IsTuple a its.toArray from p') fun h' he hit hsz hk => wpAny_pyIter_enum he ?_
      have I2 : Inv X pins σ H1 { s1 with heap := h' } := I1.kept (t' := s1.toks) hk
      exact ⟨s1.heap.objs.size + 1, [s1.heap.objs.size + 1, s1.heap.objs.size], _, _, H1, rfl, I2, turn_enumT a (s1.heap.objs.size + 1) s1.heap.objs.size, ⟨⟨.none, he⟩, hit, Nat.succ_ne_self _⟩, fresh2, q hz⟩
end HV
namespace L2.DN
open PySem PySem.Spec PyProof.Rows L2
section
variable {K : PySem.W.Frag} {F H : Hp} {O : Addr → Prop} {X : Cx}
theorem enumL_get : ∀ {xs : List D} {lo : Int} {i : Nat} {d : D}, (enumL lo xs)[i]? = some d → ∃ x, xs[i]? = some x ∧ d = .tup [.int (lo + i), x]
  | [], _, _, _, h => by simp [enumL] at h
  | x :: xs, lo, 0, d, h => by
    simp [enumL] at h
    exact ⟨x, rfl, by rw [← h]; simp⟩
  | x :: xs, lo, i + 1, d, h => by
    simp only [enumL, List.getElem?_cons_succ] at h ⊢
    obtain ⟨y, h1, h2⟩ := enumL_get h
    refine ⟨y, h1, ?_⟩
    rw [h2, show lo + 1 + (i : Int) = lo + ((i + 1 : Nat) : Int) by omega]
theorem enumL_len : ∀ (xs : List D) (lo : Int), (enumL lo xs).length = xs.length
  | [], _ => rfl
  | x :: xs, lo => by show (enumL (lo + 1) xs).length + 1 = _; rw [enumL_len xs, List.length_cons]
theorem walks_enm {a : Addr} {vs : List V} {xs : List D} (h1 : ∀ F2 H2, Step O F H F2 H2 → Sub F2 H2 → H2 a = some (.lst vs)) (r1 : Reps K F vs xs) : WalksD K O F H (enumL 0 xs) (Ite K a) := by
  intro F2 H2 st sb
  have e1 := h1 F2 H2 st sb
  refine ⟨⟨vs, SqL.of e1, by rw [r1.length, enumL_len]; exact Nat.le_refl _⟩, fun i d hd => ?_⟩
  obtain ⟨x, hx, rfl⟩ := enumL_get hd
  obtain ⟨v, hv, rv⟩ := r1.get hx
  refine ⟨⟨vs, v, SqL.of e1, hv⟩, fun z H3 hz => ?_⟩
  obtain ⟨T, x', rfl, hT, rfl, q1⟩ := hz
  have q1 := q1 _ (SqL.of e1)
  rw [hv] at q1
  cases q1
  have g := Grow.new (o := .tup [.int (i : Nat), v]) sb hT
  rw [Int.zero_add]
  exact ⟨_, g, .tup upd_same (.cons (.int _) (.cons ((rv.mono st.mono).mono g.f) .nil))⟩
theorem walks_enmT {a : Addr} {vs : List V} {xs : List D} (h1 : F a = some (.tup vs)) (r1 : Reps K F vs xs) : WalksD K O F H (enumL 0 xs) (HV.Iteu K a) := by
  intro F2 H2 st sb
  have e1 := sb _ _ (st.mono _ _ h1)
  refine ⟨⟨vs, SqT.of e1, by rw [r1.length, enumL_len]; exact Nat.le_refl _⟩, fun i d hd => ?_⟩
  obtain ⟨x, hx, rfl⟩ := enumL_get hd
  obtain ⟨v, hv, rv⟩ := r1.get hx
  refine ⟨⟨vs, v, SqT.of e1, hv⟩, fun z H3 hz => ?_⟩
  obtain ⟨T, x', rfl, hT, rfl, q1⟩ := hz
  have q1 := q1 _ (SqT.of e1)
  rw [hv] at q1
  cases q1
  have g := Grow.new (o := .tup [.int (i : Nat), v]) sb hT
  rw [Int.zero_add]
  exact ⟨_, g, .tup upd_same (.cons (.int _) (.cons ((rv.mono st.mono).mono g.f) .nil))⟩
theorem snd_ienm {C : Cfg} {W : Exs} {a : E} {tg : List Expr} {kk : Nat} {pa : Expr} {p pos tpos : Pos} (hg : Gl X "enumerate") (hm : X.mg "enumerate" = none) (hs : notStar pa = true) (ha : PE X pa (rdO X.K C W a)) :
    PI X (.Tuple tg kk tpos) (.Call (.Name "enumerate" p) [pa] [] pos) (rdI X.K C W (.enm a)) := by
  have hA : PA X [pa] (rdA X.K C W (.cons a .nil)) := snd_cons ha snd_nil hs
  refine (HV.pi_enumA hg hm hA (by rw [star_cons hs]; rfl)).imp fun σ H Q ⟨F, env, R, o⟩ => ?_
  simp only [deni, ← deno_eq] at o
  refine ⟨F, env, R, ?_⟩
  simp only [dens, ← deno_eq]
  cases e1 : deno C a env with
  | error e => rw [e1] at o; exact o
  | ok p1 =>
    obtain ⟨x, env1⟩ := p1
    rw [e1] at o
    have o : OutM (op1 enumF env1 x >>= fun r => (.ok (r, env1) : M (List D × Env))) _ _ := o
    simp only [bind, Except.bind]
    obtain ⟨r, h1, h2⟩ := OutM.pure (m := (do enumF (← val env1 x))) o exw_stuck
    obtain ⟨dx, h3, h4⟩ := bind_ok h1
    have h2 : ∀ J F' H', Went X.K σ env F H env1 F' H' → r.length ≤ sizeLine → WalksD X.K (WO (hideE a) env1 σ) F' H' r J → Q J H' := h2
    intro vs F1 H1 w1 o1
    cases o1 with
    | cons ox o1 =>
      cases o1
      have gx := ox.opn w1.rel h3
      cases dx <;> simp only [enumF] at h4 <;> try (cases h4; done)
      · have := ok_inj h4
        subst this
        obtain ⟨p, vs, rfl, e, r⟩ := gx.tup'
        refine ⟨_, _, rfl, .inr ⟨SqT.of (w1.rel.sub _ _ e), fun hz => ?_⟩⟩
        exact h2 _ F1 H1 w1 (by rw [enumL_len, ← r.length]; exact hz) (walks_enmT e r)
      · have := ok_inj h4
        subst this
        obtain ⟨p, vs, rfl, e, r, kp⟩ := opd_lst (is := hideE a) w1.rel ox (fun i hi => hides e1 i hi) h3
        refine ⟨_, _, rfl, .inl ⟨SqL.of e, fun hz => ?_⟩⟩
        exact h2 _ F1 H1 w1 (by rw [enumL_len, ← r.length]; exact hz) (walks_enm kp r)
end
end L2.DN

/-! DenJ: the checker -/
namespace L2.DN
open PySem PySem.Spec PyProof.Rows L2

structure Ck where
  N : List Str
  sc : Scope
  own : Scope
  fs : List Str
  nw : List Bool
  cs : List (Str × Int)
  bl : List Str
  gb : List (Str × String)
structure Ctx (X : Cx) (C : Cfg) (W : Exs) (k : Nat) (ck : Ck) : Prop where
  N : X.N = ck.N
  sc : X.env.scope = ck.sc
  nd : X.N.Nodup
  calm : X.calm = true
  room : Room k X.A
  fn : ∀ x, ck.own.names.lookup x = some .cell → X.fn x = true
  fs : ∀ f x, ck.fs[f]? = some x → FnAt X C W.cls k f x
  cs : ∀ x i, ck.cs.lookup x = some i → ∃ t, X.mg x = some (.int i t)
  bl : ∀ x ∈ ck.bl, X.mg x = none
  gb : ∀ x i, ck.gb.lookup x = some i → X.mg x = some (.builtin i)
  nw : ∀ f, C.nw f = (ck.nw[f]?).getD false
  pass : Passes (L2.CX X.prog X.w) X W.wish
def visB (sc : Scope) (x : Str) : Bool := match sc.names.lookup x with
  | some .local => true
  | some .cell => true
  | some .free => true
  | _ => false
def locB (sc : Scope) (x : Str) : Bool := match sc.names.lookup x with
  | some .local => true
  | _ => false
def celB (sc own : Scope) (x : Str) : Bool := match sc.names.lookup x, own.names.lookup x with
  | some .cell, some .cell => true
  | _, _ => false
def glB (sc : Scope) (x : Str) : Bool := match sc.names.lookup x with
  | some .globalImplicit => true
  | _ => false
def nameB (x : Str) : Bool := !(x == ("__debug__" : Str)) && !(x == ("__classdict__" : Str))
def ckV (ck : Ck) (i : Nat) : Expr → Bool
  | .Name x _ => decide (ck.N[i]? = some x) && visB ck.sc x && nameB x
  | _ => false
def ckC (ck : Ck) (d : D) : Expr → Bool
  | .Constant (.int j) _ _ => (match d with | .int i => decide (i = j) | _ => false)
  | .Constant (.bool j) _ _ => (match d with | .bl i => decide (i = j) | _ => false)
  | .Constant .none _ _ => (match d with | .non => true | _ => false)
  | .Constant (.str j) _ _ => (match d with | .str i => decide (i = j) | _ => false)
  | .Name x _ => (match d with | .int i => decide (ck.cs.lookup x = some i) && glB ck.sc x && nameB x | _ => false)
  | _ => false
def biN : Bi → Str
  | .len => "len" | .tuple => "tuple" | .list => "list" | .all => "all" | .any => "any" | .sum => "sum" | .sorted => "sorted" | .min => "min" | .max => "max" | .abs => "abs" | .int => "int" | .set => "set" | .range => "range" | .dict => "dict"
  | _ => "isinstance"
def isTyN : Bi → Str
  | .isInt => "int" | .isBool => "bool" | .isTuple => "tuple" | .isStr => "str" | _ => "list"
def biOk : Bi → Bool
  | .len => true | .tuple => true | .list => true | .all => true | .any => true | .sum => true | .sorted => true | .min => true | .max => true | .abs => true | .int => true
  | _ => false
def gbB (ck : Ck) (x : Str) : Bool := glB ck.sc x && decide (x ∈ ck.bl)
def plainIx : Expr → Bool
  | .Slice .. => false
  | _ => true
def bIx : Es → List Nat
  | .nil => []
  | .cons (.b i) r => i :: bIx r
  | .cons _ r => bIx r
def noSet : Expr → Bool
  | .Set .. => false
  | _ => true
def noStarT : Expr → Bool
  | .Starred .. => false
  | _ => true
mutual
def ckG (ck : Ck) : T → Expr → Bool
  | .n i, pe => match pe with
    | .Name x _ => decide (ck.N[i]? = some x) && (locB ck.sc x || celB ck.sc ck.own x)
    | _ => false
  | .p ts, pe => match pe with
    | .Tuple es _ _ => ckGs ck ts es
    | _ => false
def ckGs (ck : Ck) : Ts → List Expr → Bool
  | .nil, [] => true
  | .cons t r, e :: es => noStarT e && ckG ck t e && ckGs ck r es
  | _, _ => false
end
def newE (ck : Ck) : E → Bool
  | .comp .. => true
  | .comp2 .. => true
  | .call f _ => (ck.nw[f]?).getD false
  | .lst _ => true
  | .lrg _ => true
  | .bi f _ => decide (f = .list)
  | .emp => true
  | _ => false
inductive Md where | val | opd | tst
  deriving DecidableEq
/-- the text of a slice's step -/
def stC (k : Int) : Expr → Bool
  | .UnaryOp .USub (.Constant (.int j) _ _) _ => decide (k = -1) && decide (j = 1)
  | .Constant (.int j) _ _ => decide (k = 2) && decide (j = 2)
  | _ => false
def ownP (ck : Ck) (own : List Nat) : List (Str × Nat) := own.map fun i => ((ck.N[i]?).getD "", i)
def inB (ck : Ck) (scope : Scope) : Ck := { ck with sc := relS scope ck.sc, own := scope }
mutual
def ckQ (ck : Ck) (m : Md) : E → Expr → Bool
  | .nvr, _ => true
  | .b i, pe => m != .val && ckV ck i pe
  | .c d, pe => ckC ck d pe
  | .v i, pe => ckV ck i pe
  | .tup es, pe => match pe with
    | .Tuple pes _ _ => noB es && decide (lenE es ≤ 1000) && ckA ck es pes
    | _ => false
  | .lst es, pe => match pe with
    | .List pes _ => noB es && decide (lenE es ≤ 1000) && ckA ck es pes
    | _ => false
  | .emp, pe => match pe with
    | .Dict [] [] _ => true
    | _ => false
  | .neg a, pe => match pe with
    | .UnaryOp .USub pa _ => m != .tst && ckQ ck .opd a pa
    | _ => false
  | .nt a, pe => match pe with
    | .UnaryOp .Not pa _ => ckQ ck (if m = .tst then .tst else .opd) a pa
    | _ => false
  | .bin o a b, pe => match pe with
    | .BinOp pa op pb _ => decide (op = bopM o) && ckQ ck .opd a pa && ckQ ck .opd b pb
    | _ => false
  | .cmp o a b, pe => match pe with
    | .Compare pa [op] [pb] _ => decide (op = copM o) && !behindInMarks (copM o) pb && ckQ ck .opd a pa && ckQ ck .opd b pb
    | _ => false
  | .cmp2 o a b o' c, pe => match pe with
    | .Compare pa [op, op'] [pb, pc] _ => decide (op = copM o) && decide (op' = copM o') && !lastMarks [copM o, copM o'] [pb, pc] && ckQ ck .opd a pa && ckQ ck .opd b pb && ckQ ck .opd c pc
    | _ => false
  | .and a b, pe => match pe with
    | .BoolOp .And (pa :: pb :: rest) p => !isB a && !isB b && ckQ ck (if m = .tst then .tst else .val) a pa && (match rest with
      | [] => ckQ ck (if m = .tst then .tst else .val) b pb
      | pc :: rest => ckQ ck (if m = .tst then .tst else .val) b (.BoolOp .And (pb :: pc :: rest) p))
    | _ => false
  | .or a b, pe => match pe with
    | .BoolOp .Or (pa :: pb :: rest) p => !isB a && !isB b && ckQ ck (if m = .tst then .tst else .val) a pa && (match rest with
      | [] => ckQ ck (if m = .tst then .tst else .val) b pb
      | pc :: rest => ckQ ck (if m = .tst then .tst else .val) b (.BoolOp .Or (pb :: pc :: rest) p))
    | _ => false
  | .ife t a b, pe => match pe with
    | .IfExp pt pa pb _ => m != .tst && ckQ ck .tst t pt && ckQ ck .val a pa && ckQ ck .val b pb
    | _ => false
  | .ix a i, pe => match pe with
    | .Subscript pa pi _ => plainIx pi && ckQ ck .opd a pa && ckQ ck .opd i pi
    | _ => false
  | .sl a lo hi, pe => match pe with
    | .Subscript pa (.Slice plo phi none _) _ => ckQ ck .opd a pa && (match plo with
      | none => isNonC lo
      | some plo => !isNonC lo && ckQ ck .val lo plo) && (match phi with
      | none => isNonC hi
      | some phi => !isNonC hi && ckQ ck .val hi phi)
    | _ => false
  | .slk a k, pe => match pe with
    | .Subscript pa (.Slice none none (some st) _) _ => (decide (k = -1) || decide (k = 2)) && ckQ ck .opd a pa && stC k st
    | _ => false
  | .call f es, pe => match pe with
    | .Call (.Name x _) [] [] _ => decide (ck.fs[f]? = some x) && glB ck.sc x && nameB x && decide (lenE es = 0)
    | .Call (.Name x _) (pa :: pes) [] _ => decide (ck.fs[f]? = some x) && glB ck.sc x && nameB x && ckA ck es (pa :: pes) && decide (bIx es).Nodup
    | _ => false
  | .bi f es, pe => match pe with
    | .Call (.Name x _) (pa :: pes) [] _ => if isBi f then
        decide (x = "isinstance") && gbB ck x && decide (lenE es = 1) && notStar pa && (match pes with
          | [.Name y _] => decide (y = isTyN f) && gbB ck y && ckA ck es [pa]
          | _ => false)
      else if f = .gcd then decide (ck.gb.lookup x = some "math.gcd") && glB ck.sc x && nameB x && ckA ck es (pa :: pes)
      else biOk f && decide (x = biN f) && gbB ck x && ckA ck es (pa :: pes)
    | _ => false
  | .meth mt a es, pe => match pe with
    | .Call (.Attribute pa name apos) (pb :: pes) [] cpos => ((decide (mt = .dget) && decide (name = "get")) || (decide (mt = .lcount) && decide (name = "count"))) && isName pa && noB es && decide (pes.length < 20) && (apos.endLine == cpos.line) && ckQ ck .opd a pa && ckA ck es (pb :: pes)
    | _ => false
  | .pop i, pe => match pe with
    | .Call (.Attribute po name apos) [] [] cpos => decide (name = "pop") && isName po && (apos.endLine == cpos.line) && ckV ck i po
    | _ => false
  | .popAt i e, pe => match pe with
    | .Call (.Attribute po name apos) [pa] [] cpos => decide (name = "pop") && isName po && (apos.endLine == cpos.line) && notStar pa && ckV ck i po && ckQ ck .val e pa
    | _ => false
  | .lse a, pe => match pe with
    | .Call (.Name y _) [.Call (.Name x _) [pa] [] _] [] _ => decide (y = "len") && gbB ck y && decide (x = "set") && gbB ck x && notStar pa && ckQ ck .opd a pa
    | _ => false
  | .sst a, pe => match pe with
    | .Call (.Name y _) [.Call (.Name x _) [pa] [] _] [] _ => decide (y = "sorted") && gbB ck y && decide (x = "set") && gbB ck x && notStar pa && ckQ ck .opd a pa
    | _ => false
  | .lrg es, pe => match pe with
    | .Call (.Name y _) [.Call (.Name x _) [pa] [] _] [] _ => decide (y = "list") && gbB ck y && decide (x = "range") && gbB ck x && notStar pa && decide (lenE es = 1) && ckA ck es [pa]
    | .Call (.Name y _) [.Call (.Name x _) [pa, pb] [] _] [] _ => decide (y = "list") && gbB ck y && decide (x = "range") && gbB ck x && notStar pa && notStar pb && decide (lenE es = 2) && ckA ck es [pa, pb]
    | _ => false
  | .comp own t it ifs e, pe => match pe with
    | .ListComp elt [⟨tg, iter, pifs, 0⟩] scope _ => blkC ck.N ck.sc scope (ownP ck own) && (tix t).all (fun i => decide (i ∈ own)) && noSet iter && ckI ck it tg iter && ckG (inB ck scope) t tg && ckF (inB ck scope) ifs pifs && ckQ (inB ck scope) .val e elt
    | _ => false
  | .comp2 own own1 t it ifs t1 it1 ifs1 e, pe => match pe with
    | .ListComp elt [⟨tg, iter, pifs, 0⟩, ⟨tg1, iter1, pifs1, 0⟩] scope _ => blkC ck.N ck.sc scope (ownP ck own) && (tix t).all (fun i => decide (i ∈ own)) && (tix t1).all (fun i => decide (i ∈ own1)) && own1.all (fun i => decide (i ∈ own)) && (hide it1).isEmpty && noSet iter && noSet iter1 && ckI ck it tg iter && ckG (inB ck scope) t tg && ckF (inB ck scope) ifs pifs && ckI (inB ck scope) it1 tg1 iter1 && ckG (inB ck scope) t1 tg1 && ckF (inB ck scope) ifs1 pifs1 && ckQ (inB ck scope) .val e elt
    | _ => false
def ckA (ck : Ck) : Es → List Expr → Bool
  | .nil, [] => true
  | .cons e r, pe :: pes => notStar pe && ckQ ck .opd e pe && ckA ck r pes
  | _, _ => false
def ckF (ck : Ck) : Es → List Expr → Bool
  | .nil, ps => ps.isEmpty
  | .cons e r, ps => (match r with
    | .nil => true
    | _ => false) && (match ps with
    | [pe] => ckQ ck .tst e pe
    | _ => false)
def ckI (ck : Ck) : It → Expr → Expr → Bool
  | .e a, _, pe => ckQ ck .opd a pe
  | .rg es, _, pe => match pe with
    | .Call (.Name x _) [pa] [] _ => decide (x = "range") && gbB ck x && notStar pa && decide (lenE es = 1) && ckA ck es [pa]
    | .Call (.Name x _) [pa, pb] [] _ => decide (x = "range") && gbB ck x && notStar pa && notStar pb && decide (lenE es = 2) && ckA ck es [pa, pb]
    | _ => false
  | .zip a b, tg, pe => match tg with
    | .Tuple _ _ _ => (match pe with
      | .Call (.Name x _) [pa, pb] [] _ => decide (x = "zip") && gbB ck x && notStar pa && notStar pb && ckQ ck .opd a pa && ckQ ck .opd b pb
      | _ => false)
    | _ => false
  | .enm a, tg, pe => match tg with
    | .Tuple _ _ _ => (match pe with
      | .Call (.Name x _) [pa] [] _ => decide (x = "enumerate") && gbB ck x && notStar pa && ckQ ck .opd a pa
      | _ => false)
    | _ => false
  | _, _, _ => false
end
end L2.DN

/-! DenK: what the checker takes is read rightly: expressions -/
namespace L2.DN
open PySem PySem.Spec PyProof.Rows L2
section
variable {X : Cx} {C : Cfg} {W : Exs} {k : Nat} {ck : Ck}
def isBoo : Expr → Bool
  | .BoolOp .. => true
  | _ => false
def Good (X : Cx) (C : Cfg) (W : Exs) (ck : Ck) (m : Md) (e : E) (pe : Expr) : Prop := match m with
  | .val => PE X pe (rdR X.K C W (newE ck e) e)
  | .opd => PE X pe (rdO X.K C W e)
  | .tst => PT X pe (rdT X.K C W e) ∧ (isBoo pe = true → PW X pe (rdT X.K C W e))
theorem Good.of {m : Md} {e : E} {pe : Expr} (hb : isB e = false) (hp : m = .tst → plainT pe = true) (h : PE X pe (rdR X.K C W (newE ck e) e)) : Good X C W ck m e pe := by
  have ho : PE X pe (rdO X.K C W e) := rd_eo (snd_old h) (fun i hi => by subst hi; cases hb)
  cases m with
  | val => exact h
  | opd => exact ho
  | tst =>
    refine ⟨sndT_plain ho (hp rfl), fun z => ?_⟩
    have := hp rfl
    cases pe <;> first | (cases z; done) | (cases this; done)
theorem Good.o {e : E} {pe : Expr} (h : Good X C W ck .opd e pe) : PE X pe (rdO X.K C W e) := h
theorem Good.v {e : E} {pe : Expr} (h : Good X C W ck .val e pe) : PE X pe (rdE X.K C W e) := snd_old h
theorem Good.t {e : E} {pe : Expr} (h : Good X C W ck .tst e pe) : PT X pe (rdT X.K C W e) := h.1
theorem vis_of {sc : Scope} {x : Str} (h : visB sc x = true) : Vis sc x := by
  unfold visB at h
  split at h <;> first | (cases h; done) | skip
  · exact .inl (by assumption)
  · exact .inr (.inl (by assumption))
  · exact .inr (.inr (by assumption))
theorem name_of {x : Str} (h : nameB x = true) : (x == ("__debug__" : Str)) = false ∧ (x == ("__classdict__" : Str)) = false := by
  unfold nameB at h
  simpa using h
theorem gl_of (c : Ctx X C W k ck) {x : Str} (h : glB ck.sc x = true) : Gl X x := by
  unfold glB at h
  split at h
  · rename_i e
    show X.env.scope.names.lookup x = _
    rw [c.sc]; exact e
  · cases h
theorem gb_of (c : Ctx X C W k ck) {x : Str} (h : gbB ck x = true) : Gl X x ∧ X.mg x = none := by
  unfold gbB at h
  rw [Bool.and_eq_true] at h
  exact ⟨gl_of c h.1, c.bl x (of_decide_eq_true h.2)⟩
theorem ckV_ok (c : Ctx X C W k ck) {i : Nat} {pe : Expr} (h : ckV ck i pe = true) : PE X pe (tVar i) := by
  unfold ckV at h
  split at h
  · rw [Bool.and_eq_true, Bool.and_eq_true] at h
    obtain ⟨⟨h1, h2⟩, h3⟩ := h
    obtain ⟨n1, n2⟩ := name_of h3
    refine pe_var (by rw [c.N]; exact of_decide_eq_true h1) (by rw [c.sc]; exact vis_of h2) n1 n2
  · cases h
theorem ckC_ok (c : Ctx X C W k ck) {d : D} {pe : Expr} (h : ckC ck d pe = true) : PE X pe (rdE X.K C W (.c d)) := by
  unfold ckC at h
  split at h
  · split at h
    · have := of_decide_eq_true h; subst this; exact snd_c pe_int fun F => .int _
    · cases h
  · split at h
    · have := of_decide_eq_true h; subst this; exact snd_c pe_bl fun F => .bl _
    · cases h
  · split at h
    · exact snd_c pe_non fun F => .non
    · cases h
  · split at h
    · have := of_decide_eq_true h; subst this; exact snd_c pe_str fun F => .str _
    · cases h
  · split at h
    · rw [Bool.and_eq_true, Bool.and_eq_true] at h
      obtain ⟨⟨h1, h2⟩, h3⟩ := h
      obtain ⟨t, ht⟩ := c.cs _ _ (of_decide_eq_true h1)
      exact snd_c (pe_glob (v := .int _) (gl_of c h2) ht ⟨t, rfl⟩ (name_of h3).1) fun F => .int _
    · cases h
  · cases h
theorem ckC_plain {d : D} {pe : Expr} (h : ckC ck d pe = true) : plainT pe = true := by
  unfold ckC at h
  split at h <;> first | rfl | (cases h; done)
theorem ckV_plain {i : Nat} {pe : Expr} (h : ckV ck i pe = true) : plainT pe = true := by
  unfold ckV at h
  split at h <;> first | rfl | (cases h; done)
/-- nothing is asked of what is never reached -/
theorem good_nvr {m : Md} {pe : Expr} : Good X C W ck m .nvr pe := by
  cases m with
  | val => exact ⟨fun pins s σ H Q I ⟨F, env, R, o⟩ => o.elim⟩
  | opd => exact ⟨fun pins s σ H Q I ⟨F, env, R, o⟩ => o.elim⟩
  | tst => exact ⟨⟨fun pins s σ H Q I ⟨F, env, R, o⟩ => o.elim⟩, fun _ => ⟨fun w pins s σ H Q I ⟨F, env, R, o⟩ => o.elim⟩⟩
theorem loc_of (c : Ctx X C W k ck) {x : Str} (h : (locB ck.sc x || celB ck.sc ck.own x) = true) : Loc X.env.scope x ∧ (X.fn x = true ∨ X.env.scope.names.lookup x = some .local) := by
  rw [Bool.or_eq_true] at h
  rw [c.sc]
  rcases h with h | h
  · unfold locB at h
    split at h
    · rename_i e; exact ⟨.inl e, .inr e⟩
    · cases h
  · unfold celB at h
    split at h
    · rename_i e1 e2; exact ⟨.inr e1, .inl (c.fn x e2)⟩
    · cases h
theorem star1 {e : Expr} {es : List Expr} {env : PySem.Env} (h : noStarT e = true) : assignEach (e :: es) env = (false, assign e env) :: assignEach es env := by
  cases e <;> first | rfl | (cases h; done)
theorem ckGs_len {ck : Ck} {env : PySem.Env} : ∀ {ts : Ts} {es : List Expr}, ckGs ck ts es = true → (assignEach es env).length = lenTs ts ∧ (assignEach es env).findIdx? (·.1) = none
  | .nil, [], _ => ⟨rfl, rfl⟩
  | .nil, _ :: _, h => by simp [ckGs] at h
  | .cons _ _, [], h => by simp [ckGs] at h
  | .cons t r, e :: es, h => by
    simp only [ckGs, Bool.and_eq_true] at h
    obtain ⟨i1, i2⟩ := ckGs_len (env := env) h.2
    rw [star1 h.1.1]
    refine ⟨by rw [List.length_cons, i1]; rfl, ?_⟩
    rw [List.findIdx?_cons, i2]
    rfl
mutual
theorem ckG_ok (c : Ctx X C W k ck) : ∀ {t : T} {pe : Expr}, ckG ck t pe = true → PG X pe (rdG X.K t)
  | .n i, pe, h => by
    simp only [ckG] at h
    split at h
    · rw [Bool.and_eq_true] at h
      obtain ⟨l, f⟩ := loc_of c h.2
      exact snd_tn c.nd (by rw [c.N]; exact of_decide_eq_true h.1) l f
    · cases h
  | .p ts, pe, h => by
    simp only [ckG] at h
    split at h
    · obtain ⟨l1, l2⟩ := ckGs_len (env := X.env) h
      exact snd_tp c.calm (ckGs_ok c h) l1 l2
    · cases h
theorem ckGs_ok (c : Ctx X C W k ck) : ∀ {ts : Ts} {es : List Expr}, ckGs ck ts es = true → PGs X es (rdGs X.K ts)
  | .nil, [], _ => snd_tsnil
  | .nil, _ :: _, h => by simp [ckGs] at h
  | .cons _ _, [], h => by simp [ckGs] at h
  | .cons t r, e :: es, h => by
    simp only [ckGs, Bool.and_eq_true] at h
    exact snd_tscons (ckG_ok c h.1.2) (ckGs_ok c h.2) (by rw [star1 h.1.1]; rfl)
end
theorem bIx_ok : ∀ {es : Es} {env env' : Env} {as : List Arg}, dens C es env = .ok (as, env') → argIx as = bIx es
  | .nil, env, env', as, h => by
    simp only [dens] at h
    have := ok_inj h
    cases this
    rfl
  | .cons e r, env, env', as, h => by
    simp only [dens, ← deno_eq] at h
    obtain ⟨⟨x, env1⟩, h1, h2⟩ := bind_ok h
    obtain ⟨⟨ys, env2⟩, h3, h4⟩ := bind_ok h2
    have := ok_inj h4
    cases this
    have ih := bIx_ok h3
    cases hb : isB e with
    | true =>
      cases e <;> simp [isB] at hb
      rename_i j
      simp only [deno, opn] at h1
      obtain ⟨d, _, e2⟩ := bind_ok (noX_ok h1)
      have := ok_inj e2
      cases this
      show j :: argIx ys = j :: bIx r
      rw [ih]
    | false =>
      obtain ⟨d, rfl⟩ := deno_v hb h1
      show argIx ys = _
      rw [ih]
      cases e <;> first | rfl | (cases hb; done)
theorem units2 {X : Cx} {k : Nat} (hr : Room k X.A) : X.A.units + 2 < cLine := by have := hr.un; omega
theorem bi_pe {f : Bi} {pa : Expr} {pes : List Expr} {p pos : Pos} (c : Ctx X C W k ck) (hf : biOk f = true) (hg : Gl X (biN f)) (hm : X.mg (biN f) = none) (hs : (pa :: pes).all notStar = true) {t : TA} (ha : PA X (pa :: pes) t) : PE X (.Call (.Name (biN f) p) (pa :: pes) [] pos) (tCB (rBi X.K f) t) := by
  have hs' := hs
  rw [List.all_cons, Bool.and_eq_true] at hs'
  have h1 := star_cons (env := X.env) (es := pes) hs'.1
  have h2 := star_any (env := X.env) (p := pos) hs'.2
  cases f <;> first | (cases hf; done) | skip
  · exact pe_callB cr_len hg hm boot_len ha (by decide) (by decide) h1 h2
  · exact pe_callTy (cr_tuple c.calm) hg hm boot_tuple ha (by decide) (by decide) h1 h2
  · exact pe_callTy (cr_list c.calm) hg hm boot_list ha (by decide) (by decide) h1 h2
  · exact pe_callB (cr_all' c.calm) hg hm (by decide +kernel) ha (by decide) (by decide) h1 h2
  · exact pe_callB (cr_any' c.calm) hg hm (by decide +kernel) ha (by decide) (by decide) h1 h2
  · exact pe_callB (cr_sum' c.calm) hg hm boot_sum ha (by decide) (by decide) h1 h2
  · exact pe_callB (cr_sorted' c.calm (units_dep c.room)) hg hm PyProof.Rows.boot_sorted ha (by decide) (by decide) h1 h2
  · exact pe_callB (cr_min' c.calm (units2 c.room)) hg hm boot_min ha (by decide) (by decide) h1 h2
  · exact pe_callB (cr_max' c.calm (units2 c.room)) hg hm boot_max ha (by decide) (by decide) h1 h2
  · exact pe_callB cr_abs hg hm (by decide +kernel) ha (by decide) (by decide) h1 h2
  · exact pe_callTy cr_int hg hm boot_int ha (by decide) (by decide) h1 h2
theorem gcd_pe {x : Str} {pa : Expr} {pes : List Expr} {p pos : Pos} (hg : Gl X x) (hm : X.mg x = some (.builtin "math.gcd")) (hd : (x == ("__debug__" : Str)) = false) (hs : (pa :: pes).all notStar = true) {t : TA} (ha : PA X (pa :: pes) t) : PE X (.Call (.Name x p) (pa :: pes) [] pos) (tCB (rBi X.K .gcd) t) := by
  have hs' := hs
  rw [List.all_cons, Bool.and_eq_true] at hs'
  refine ⟨fun pins s σ H Q I h => ?_⟩
  refine wpAny_Call_Name_kw (ld_glob I hg hm ?_ hd)
  exact PyProof.Rows.callWith_builtin1 (thn (ha.run pos pins s σ H _ I h) fun us s1 ⟨vs, H1, I1, r1, q1⟩ => cr_gcd' pins s1 σ H1 vs us Q I1 r1 q1) (star_cons hs'.1) (star_any hs'.2)
theorem is_pe {f : Bi} {a : E} {pa : Expr} {p p2 pos : Pos} (hf : isBi f = true) (hg : Gl X "isinstance") (hm : X.mg "isinstance" = none) (hg2 : Gl X (isTyN f)) (hm2 : X.mg (isTyN f) = none) (hs : notStar pa = true) (ha : PA X [pa] (rdA X.K C W (.cons a .nil))) (hpa : PE X pa (rdO X.K C W a)) :
    PE X (.Call (.Name "isinstance" p) [pa, .Name (isTyN f) p2] [] pos) (rdE X.K C W (.bi f (.cons a .nil))) := by
  have ht : PE X (.Name (isTyN f) p2) (tC (.ty (isTy f))) := by
    cases f <;> first | (cases hf; done) | exact pe_bltn hg2 hm2 (by decide +kernel) rfl (by decide) (by decide)
  have hA : PA X [pa, .Name (isTyN f) p2] (tCons (rdO X.K C W a) (tCons (tC (.ty (isTy f))) tNil)) := pa_cons hpa (pa_cons ht pa_nil) (star_cons hs)
  refine (pe_callB (cr_is hf) hg hm boot_isinstance hA (by decide) (by decide) (star_cons hs) rfl).imp fun σ H Q ⟨F, env, R, o⟩ => ?_
  simp only [den, dens, ← deno_eq] at o
  refine ⟨F, env, R, ?_⟩
  cases e1 : deno C a env with
  | error er => rw [e1] at o; exact o
  | ok q =>
    obtain ⟨x, env1⟩ := q
    rw [e1] at o
    intro v F1 H1 w1 o1
    have o : OutM (opL (biF f) env1 [x] >>= fun r => (.ok (r, env1) : M (D × Env))) _ _ := o
    obtain ⟨r, h1, h2⟩ := OutM.pure o exw_stuck
    obtain ⟨ds, h3, h4⟩ := bind_ok h1
    obtain ⟨d, h5, h6⟩ := bind_ok h3
    have := ok_inj h6
    subst this
    have h2 : ∀ v F' H', Went X.K σ env F H env1 F' H' → Rep X.K F' v r → Q v H' := h2
    exact ⟨F1, v, d, r, rfl, w1.rel.sub, o1.opn w1.rel h5, h4, fun u F' H' g ru => h2 u F' H' (w1.trans (Went.grow w1.rel g)) ru⟩
end
end L2.DN

/-! DenL: what the checker takes is read rightly: all expressions -/
namespace L2.DN
open PySem PySem.Spec PyProof.Rows L2
section
variable {X : Cx} {C : Cfg} {W : Exs} {k : Nat} {ck : Ck}
theorem Ctx.blk (c : Ctx X C W k ck) (scope : Scope) (s : Shared) (H : Hp) (A : Addr) (cl : List (Str × Addr)) (fp : List Addr) : Ctx (X.blk s H scope (compEnvC scope cl A X.env) fp) C (E0W W.cls) k (inB ck scope) :=
  ⟨c.N, by show relS scope X.env.scope = relS scope ck.sc; rw [c.sc], c.nd, c.calm, c.room, fun x h => by
    have h : scope.names.lookup x = some .cell := h
    show (scope.names.lookup x == some .cell) = true
    rw [h]; rfl, fun f x h => ⟨(c.fs f x h).ex⟩, c.cs, c.bl, c.gb, c.nw, passL⟩
theorem rdO_mono {a : E} {σ : L2.St} {H : Hp} {Q Q' : VK} {K : PySem.W.Frag} (h : rdO K C W a σ H Q) (f : ∀ v H', Q v H' → Q' v H') : rdO K C W a σ H Q' := by
  obtain ⟨F, env, R, o⟩ := h
  exact ⟨F, env, R, o.mono (fun p o v F' H' w r => f _ _ (o v F' H' w r)) fun _ h => h⟩
theorem chain_wp {K : PySem.W.Frag} {a b c : E} {o o' : Cop} {σ : L2.St} {H : Hp} {Q : VK} (h : rdE K C W (.cmp2 o a b o' c) σ H Q) : tChain (rCmp K o) (rCmp K o') (rdO K C W a) (rdO K C W b) (rdO K C W c) σ H Q := by
  obtain ⟨F, env, R, h⟩ := h
  simp only [den, ← deno_eq] at h
  refine ⟨F, env, R, h.bind.mono (fun ⟨x, env1⟩ h v F1 H1 w1 o1 => ⟨F1, env1, w1.rel, h.bind.mono (fun ⟨y, env2⟩ h u F2 H2 w2 o2 => ?_) (EXW.on w1)⟩) fun _ h => h⟩
  obtain ⟨r, h1, h2⟩ := h.pure exw_stuck
  obtain ⟨dx, h3, h4⟩ := bind_ok h1
  obtain ⟨dy, h5, h6⟩ := bind_ok h4
  refine ⟨F2, dx, dy, r, w2.rel.sub, (o1.mono w2.step.mono).opn w2.rel h3, o2.opn w2.rel h5, h6, r, rfl, ?_⟩
  cases r with
  | false => exact h2 _ F2 H2 (w1.trans w2) (.bl false)
  | true =>
    refine ⟨F2, env2, w2.rel, OutM.mono (OutM.bind h2) (fun ⟨z, env3⟩ h w F3 H3 w3 o3 => ?_) (EXW.on (w1.trans w2))⟩
    obtain ⟨r', h1, h2⟩ := h.pure exw_stuck
    obtain ⟨dy', h5', h4⟩ := bind_ok h1
    obtain ⟨dz, h7, h8⟩ := bind_ok h4
    exact ⟨F3, dy', dz, r', w3.rel.sub, (o2.mono w3.step.mono).opn w3.rel h5', o3.opn w3.rel h7, h8, h2 _ F3 H3 ((w1.trans w2).trans w3) (.bl r')⟩
theorem cmp2_bl {a b c : E} {o o' : Cop} {env : Env} {p : D × Env} (h : den C (.cmp2 o a b o' c) env = .ok p) : ∃ r, p.1 = .bl r := by
  simp only [den, ← deno_eq] at h
  obtain ⟨⟨x, env1⟩, h1, h⟩ := bind_ok h
  obtain ⟨⟨y, env2⟩, h2, h⟩ := bind_ok h
  obtain ⟨r, h3, h⟩ := bind_ok h
  cases r with
  | false => have := ok_inj h; subst this; exact ⟨_, rfl⟩
  | true =>
    obtain ⟨⟨z, env3⟩, h4, h⟩ := bind_ok h
    obtain ⟨r', h5, h⟩ := bind_ok h
    have := ok_inj h; subst this; exact ⟨_, rfl⟩
theorem rdT_bl {K : PySem.W.Frag} {e : E} {σ : L2.St} {H : Hp} {Q : Bool → Hp → Prop} (hb : isB e = false) (hd : ∀ env p, den C e env = .ok p → ∃ r, p.1 = .bl r) (h : rdT K C W e σ H Q) : rdE K C W e σ H fun x H' => ∃ k, x = .bl k ∧ Q k H' := by
  obtain ⟨F, env, R, o⟩ := h
  rw [tru_den hb] at o
  refine ⟨F, env, R, o.bind.eqn.mono (fun p ⟨e, o⟩ v F' H' w r => ?_) fun _ h => h⟩
  obtain ⟨r', hr⟩ := hd _ _ e
  rw [hr] at o r
  cases r
  have o : ∀ F' H', Went K σ env F H p.2 F' H' → Q r' H' := o
  exact ⟨_, rfl, o F' H' w⟩
theorem sndT_cmp2 {a b c : E} {pa pb pc : Expr} {pos : Pos} {o o' : Cop} (hr : Room k X.A) (ha : PE X pa (rdO X.K C W a)) (hb : PE X pb (rdO X.K C W b)) (hc : PE X pc (rdO X.K C W c)) (hm : lastMarks [copM o, copM o'] [pb, pc] = false) : PT X (.Compare pa [copM o, copM o'] [pb, pc] pos) (rdT X.K C W (.cmp2 o a b o' c)) :=
  (pt_chain (op_cmp hr o) (op_cmp hr o') ha hb hc hm).imp fun σ H Q h => chain_wp (rdT_bl rfl (fun _ _ e => cmp2_bl e) h)
theorem sndE_cmp2 {a b c : E} {pa pb pc : Expr} {pos : Pos} {o o' : Cop} (hr : Room k X.A) (ha : PE X pa (rdO X.K C W a)) (hb : PE X pb (rdO X.K C W b)) (hc : PE X pc (rdO X.K C W c)) (hm : lastMarks [copM o, copM o'] [pb, pc] = false) : PE X (.Compare pa [copM o, copM o'] [pb, pc] pos) (rdE X.K C W (.cmp2 o a b o' c)) :=
  (pe_chain (op_cmp hr o) (op_cmp hr o') ha hb hc hm).imp fun σ H Q h => chain_wp h
theorem good_both {m : Md} {e : E} {pe : Expr} (hb : isB e = false) (hn : newE ck e = false) (hv : PE X pe (rdE X.K C W e)) (ht : m = .tst → PT X pe (rdT X.K C W e)) (hk : isBoo pe = false) : Good X C W ck m e pe := by
  cases m with
  | val => show PE X pe (rdR X.K C W (newE ck e) e); rw [hn]; exact hv
  | opd => exact rd_eo hv (fun i hi => by subst hi; cases hb)
  | tst => exact ⟨ht rfl, fun z => by rw [hk] at z; cases z⟩
theorem good_val {m : Md} {e : E} {pe : Expr} (hm : m ≠ .tst) (hb : isB e = false) (hv : PE X pe (rdR X.K C W (newE ck e) e)) : Good X C W ck m e pe := Good.of hb (fun z => absurd z hm) hv
theorem good_e {m : Md} {e : E} {pe : Expr} (hb : isB e = false) (hn : newE ck e = false) (hp : m = .tst → plainT pe = true) (hv : PE X pe (rdE X.K C W e)) : Good X C W ck m e pe := Good.of hb hp (by rw [hn]; exact hv)
theorem rdR_false {e : E} {pe : Expr} (h : PE X pe (rdE X.K C W e)) (hn : newE ck e = false) : PE X pe (rdR X.K C W (newE ck e) e) := by rw [hn]; exact h
theorem lenA {ck : Ck} : ∀ {es : Es} {pes : List Expr}, ckA ck es pes = true → pes.all notStar = true
  | .nil, [], _ => rfl
  | .nil, _ :: _, h => by simp [ckA] at h
  | .cons _ _, [], h => by simp [ckA] at h
  | .cons e r, pe :: pes, h => by
    simp only [ckA, Bool.and_eq_true] at h
    rw [List.all_cons, h.1.1, lenA h.2]
    rfl
theorem nonC_ok {e : E} (h : isNonC e = true) : e = .c .non := by
  unfold isNonC at h
  split at h
  · rfl
  · cases h
/-- lists that are made where they stand: new -/
theorem sndN_lst {es : Es} {pes : List Expr} {pos : Pos} (h : PA X pes (rdA X.K C W es)) (hn : noB es = true) (hz : lenE es ≤ 1000) : PE X (.List pes pos) (rdR X.K C W true (.lst es)) := by
  refine (pe_lst h).imp fun σ H Q ⟨F, env, R, o⟩ => ?_
  simp only [den, ← deno_eq] at o
  refine rdA_eqn R (o.bind.mono (fun ⟨as, env1⟩ o eq vs F1 H1 w1 ok => ?_) fun _ h => h)
  obtain ⟨ds, h1, h2⟩ := o.pure exw_stuck
  obtain ⟨ds', h3, h4⟩ := bind_ok h1
  have := ok_inj h4
  subst this
  refine ⟨by rw [← ok.length, dens_len eq]; exact small_line hz, fun p hp => ?_⟩
  have h2 : ∀ v F' H', Went X.K σ env F H env1 F' H' → NewOk X.K F' H H' v (.lst ds') → Q v H' := h2
  refine h2 _ F1 _ (w1.trans (Went.push w1.rel hp)) ⟨p, rfl, ?_, w1.step.dom p hp, .lst upd_same (vals_v ok (dens_v hn eq) h3)⟩
  exact none_sub w1.rel.sub hp
theorem sndN_emp {pos : Pos} : PE X (.Dict [] [] pos) (rdR X.K C W true .emp) := by
  refine pe_dnewK.imp fun σ H Q ⟨F, env, R, o⟩ => ?_
  simp only [den] at o
  have o : ∀ v F' H', Went X.K σ env F H env F' H' → NewOk X.K F' H H' v (.dct [] []) → Q v H' := o
  intro p hp
  exact o _ F _ (Went.push R hp) ⟨p, rfl, none_sub R.sub hp, hp, .dK (kvs := []) upd_same .nil⟩
theorem ownP_ix (ck : Ck) (own : List Nat) : (ownP ck own).map (·.2) = own := by
  unfold ownP
  rw [List.map_map]
  exact (List.map_congr_left fun _ _ => rfl).trans (List.map_id _)
theorem noSet_ok {iter : Expr} (h : noSet iter = true) (env : PySem.Env) : ∀ x, foldedSetIterable iter env x = pure x := by
  intro x
  cases iter <;> first | rfl | (cases h; done)
theorem stC_ok {j : Int} {st : Expr} (h : stC j st = true) : PE X st (rdE X.K C W (stE j)) := by
  unfold stC at h
  split at h
  · rw [Bool.and_eq_true, decide_eq_true_eq, decide_eq_true_eq] at h
    obtain ⟨rfl, rfl⟩ := h
    exact snd_neg (rd_eo (snd_c pe_int fun F => .int _) (fun i z => by cases z))
  · rw [Bool.and_eq_true, decide_eq_true_eq, decide_eq_true_eq] at h
    obtain ⟨rfl, rfl⟩ := h
    exact snd_c pe_int fun F => .int _
  · cases h
theorem bne_of {a b : Md} (h : (a != b) = true) : a ≠ b := by
  intro e
  subst e
  cases a <;> cases h
end
mutual
theorem ckQ_ok : ∀ (e : E) {X : Cx} {C : Cfg} {W : Exs} {k : Nat} {ck : Ck} (c : Ctx X C W k ck) (m : Md) {pe : Expr}, ckQ ck m e pe = true → Good X C W ck m e pe
  | .nvr, X, C, W, k, ck, c, m, pe, h => good_nvr
  | .b i, X, C, W, k, ck, c, m, pe, h => by
    simp only [ckQ, Bool.and_eq_true] at h
    have hv := ckV_ok c h.2
    have ho : PE X pe (rdO X.K C W (.b i)) := snd_b hv
    cases m with
    | val => cases h.1
    | opd => exact ho
    | tst =>
      have hp := ckV_plain h.2
      refine ⟨sndT_plain ho hp, fun z => ?_⟩
      cases pe <;> first | (cases z; done) | (cases hp; done)
  | .c d, X, C, W, k, ck, c, m, pe, h => by
    simp only [ckQ] at h
    exact good_e rfl rfl (fun _ => ckC_plain h) (ckC_ok c h)
  | .v i, X, C, W, k, ck, c, m, pe, h => by
    simp only [ckQ] at h
    exact good_e rfl rfl (fun _ => ckV_plain h) (snd_v (ckV_ok c h))
  | .tup es, X, C, W, k, ck, c, m, pe, h => by
    simp only [ckQ] at h
    split at h <;> try (cases h; done)
    simp only [Bool.and_eq_true, decide_eq_true_eq] at h
    exact good_e rfl rfl (fun _ => rfl) (snd_tup (ckA_ok es c h.2) h.1.1 h.1.2)
  | .lst es, X, C, W, k, ck, c, m, pe, h => by
    simp only [ckQ] at h
    split at h <;> try (cases h; done)
    simp only [Bool.and_eq_true, decide_eq_true_eq] at h
    exact Good.of rfl (fun _ => rfl) (sndN_lst (ckA_ok es c h.2) h.1.1 h.1.2)
  | .emp, X, C, W, k, ck, c, m, pe, h => by
    simp only [ckQ] at h
    split at h <;> try (cases h; done)
    exact Good.of rfl (fun _ => rfl) sndN_emp
  | .neg a, X, C, W, k, ck, c, m, pe, h => by
    simp only [ckQ] at h
    split at h <;> try (cases h; done)
    simp only [Bool.and_eq_true] at h
    exact good_val (bne_of h.1) rfl (rdR_false (snd_neg (ckQ_ok a c .opd h.2).o) rfl)
  | .nt a, X, C, W, k, ck, c, m, pe, h => by
    simp only [ckQ] at h
    split at h <;> try (cases h; done)
    cases m with
    | tst => exact ⟨sndT_nt (ckQ_ok a c .tst h).t, fun z => by cases z⟩
    | val => exact rdR_false (snd_nt (ckQ_ok a c .opd h).o) rfl
    | opd => exact good_val (m := .opd) (by decide) rfl (rdR_false (snd_nt (ckQ_ok a c .opd h).o) rfl)
  | .bin o a b, X, C, W, k, ck, c, m, pe, h => by
    simp only [ckQ] at h
    split at h <;> try (cases h; done)
    simp only [Bool.and_eq_true, decide_eq_true_eq] at h
    obtain ⟨⟨rfl, h1⟩, h2⟩ := h
    exact good_e rfl rfl (fun _ => rfl) (snd_bin (ckQ_ok a c .opd h1).o (ckQ_ok b c .opd h2).o)
  | .cmp o a b, X, C, W, k, ck, c, m, pe, h => by
    simp only [ckQ] at h
    split at h <;> try (cases h; done)
    simp only [Bool.and_eq_true, decide_eq_true_eq, Bool.not_eq_true'] at h
    obtain ⟨⟨⟨rfl, h0⟩, h1⟩, h2⟩ := h
    have ga := (ckQ_ok a c .opd h1).o
    have gb := (ckQ_ok b c .opd h2).o
    exact good_both rfl rfl (snd_cmp c.room ga gb h0) (fun _ => sndT_cmp c.room ga gb h0) rfl
  | .cmp2 o a b o' d, X, C, W, k, ck, c, m, pe, h => by
    simp only [ckQ] at h
    split at h <;> try (cases h; done)
    simp only [Bool.and_eq_true, decide_eq_true_eq, Bool.not_eq_true'] at h
    obtain ⟨⟨⟨⟨⟨rfl, rfl⟩, h0⟩, h1⟩, h2⟩, h3⟩ := h
    have ga := (ckQ_ok a c .opd h1).o
    have gb := (ckQ_ok b c .opd h2).o
    have gc := (ckQ_ok d c .opd h3).o
    exact good_both rfl rfl (sndE_cmp2 c.room ga gb gc h0) (fun _ => sndT_cmp2 c.room ga gb gc h0) rfl
  | .and a b, X, C, W, k, ck, c, m, pe, h => by
    simp only [ckQ] at h
    split at h <;> try (cases h; done)
    rename_i pa pb rest p
    simp only [Bool.and_eq_true, Bool.not_eq_true'] at h
    obtain ⟨⟨⟨na, nb⟩, h1⟩, h2⟩ := h
    cases m with
    | tst =>
      have ga := (ckQ_ok a c .tst h1).t
      have gb : PW X (.BoolOp .And (pb :: rest) p) (rdT X.K C W b) := by
        cases rest with
        | nil => exact pw_and1 (ckQ_ok b c .tst h2).t
        | cons pc rest => exact (ckQ_ok b c .tst h2).2 rfl
      have := sndT_and ga gb na nb
      exact ⟨this.pt, fun _ => this⟩
    | val =>
      have ga := (ckQ_ok a c .val h1).v
      have gb : PE X (.BoolOp .And (pb :: rest) p) (rdE X.K C W b) := by
        cases rest with
        | nil => exact pe_one (ckQ_ok b c .val h2).v
        | cons pc rest => exact (ckQ_ok b c .val h2).v
      exact rdR_false (snd_and ga gb) rfl
    | opd =>
      have ga := (ckQ_ok a c .val h1).v
      have gb : PE X (.BoolOp .And (pb :: rest) p) (rdE X.K C W b) := by
        cases rest with
        | nil => exact pe_one (ckQ_ok b c .val h2).v
        | cons pc rest => exact (ckQ_ok b c .val h2).v
      exact good_val (m := .opd) (by decide) rfl (rdR_false (snd_and ga gb) rfl)
  | .or a b, X, C, W, k, ck, c, m, pe, h => by
    simp only [ckQ] at h
    split at h <;> try (cases h; done)
    rename_i pa pb rest p
    simp only [Bool.and_eq_true, Bool.not_eq_true'] at h
    obtain ⟨⟨⟨na, nb⟩, h1⟩, h2⟩ := h
    cases m with
    | tst =>
      have ga := (ckQ_ok a c .tst h1).t
      have gb : PW X (.BoolOp .Or (pb :: rest) p) (rdT X.K C W b) := by
        cases rest with
        | nil => exact pw_or1 (ckQ_ok b c .tst h2).t
        | cons pc rest => exact (ckQ_ok b c .tst h2).2 rfl
      have := sndT_or ga gb na nb
      exact ⟨this.pt, fun _ => this⟩
    | val =>
      have ga := (ckQ_ok a c .val h1).v
      have gb : PE X (.BoolOp .Or (pb :: rest) p) (rdE X.K C W b) := by
        cases rest with
        | nil => exact pe_one (ckQ_ok b c .val h2).v
        | cons pc rest => exact (ckQ_ok b c .val h2).v
      exact rdR_false (snd_or ga gb) rfl
    | opd =>
      have ga := (ckQ_ok a c .val h1).v
      have gb : PE X (.BoolOp .Or (pb :: rest) p) (rdE X.K C W b) := by
        cases rest with
        | nil => exact pe_one (ckQ_ok b c .val h2).v
        | cons pc rest => exact (ckQ_ok b c .val h2).v
      exact good_val (m := .opd) (by decide) rfl (rdR_false (snd_or ga gb) rfl)
  | .ife t a b, X, C, W, k, ck, c, m, pe, h => by
    simp only [ckQ] at h
    split at h <;> try (cases h; done)
    simp only [Bool.and_eq_true] at h
    obtain ⟨⟨⟨hm, h1⟩, h2⟩, h3⟩ := h
    exact good_val (bne_of hm) rfl (rdR_false (snd_ife (ckQ_ok t c .tst h1).t (ckQ_ok a c .val h2).v (ckQ_ok b c .val h3).v) rfl)
  | .ix a i, X, C, W, k, ck, c, m, pe, h => by
    simp only [ckQ] at h
    split at h <;> try (cases h; done)
    simp only [Bool.and_eq_true] at h
    obtain ⟨⟨h0, h1⟩, h2⟩ := h
    refine good_e rfl rfl (fun _ => rfl) (snd_ix c.room (ckQ_ok a c .opd h1).o (ckQ_ok i c .opd h2).o ?_)
    intro o i
    rename_i pi _
    cases pi <;> first | rfl | (cases h0; done)
  | .sl a lo hi, X, C, W, k, ck, c, m, pe, h => by
    simp only [ckQ] at h
    split at h <;> try (cases h; done)
    rename_i pa plo phi p1 p2
    simp only [Bool.and_eq_true] at h
    obtain ⟨⟨h1, h2⟩, h3⟩ := h
    have gl : PO X plo (rdP X.K C W lo) := by
      cases plo with
      | none =>
        have h2 : isNonC lo = true := h2
        rw [nonC_ok h2]
        exact snd_noPart
      | some plo =>
        simp only [Bool.and_eq_true, Bool.not_eq_true'] at h2
        exact snd_part (ckQ_ok lo c .val h2.2).v h2.1
    have gh : PO X phi (rdP X.K C W hi) := by
      cases phi with
      | none =>
        have h3 : isNonC hi = true := h3
        rw [nonC_ok h3]
        exact snd_noPart
      | some phi =>
        simp only [Bool.and_eq_true, Bool.not_eq_true'] at h3
        exact snd_part (ckQ_ok hi c .val h3.2).v h3.1
    exact good_e rfl rfl (fun _ => rfl) (snd_sl (ckQ_ok a c .opd h1).o gl gh)
  | .slk a j, X, C, W, k, ck, c, m, pe, h => by
    simp only [ckQ] at h
    split at h <;> try (cases h; done)
    simp only [Bool.and_eq_true, Bool.or_eq_true, decide_eq_true_eq] at h
    obtain ⟨⟨h1, h2⟩, h3⟩ := h
    exact good_e rfl rfl (fun _ => rfl) (snd_slk h1 (ckQ_ok a c .opd h2).o (stC_ok h3))
  | .call f es, X, C, W, k, ck, c, m, pe, h => by
    simp only [ckQ] at h
    split at h <;> try (cases h; done)
    · simp only [Bool.and_eq_true, decide_eq_true_eq] at h
      obtain ⟨⟨⟨h1, h2⟩, h3⟩, h4⟩ := h
      have he : es = .nil := by
        cases es with
        | nil => rfl
        | cons _ _ => cases h4
      refine Good.of rfl (fun _ => rfl) ?_
      show PE X _ (rdR X.K C W ((ck.nw[f]?).getD false) _)
      rw [← c.nw, he]
      exact snd_call0 (c.fs _ _ h1) c.room (gl_of c h2) c.pass (name_of h3).1
    · simp only [Bool.and_eq_true, decide_eq_true_eq] at h
      obtain ⟨⟨⟨⟨h1, h2⟩, h3⟩, h4⟩, h5⟩ := h
      refine Good.of rfl (fun _ => rfl) ?_
      show PE X _ (rdR X.K C W ((ck.nw[f]?).getD false) _)
      rw [← c.nw]
      exact snd_call (c.fs _ _ h1) c.room (gl_of c h2) c.pass (ckA_ok es c h4) (lenA h4) (name_of h3).1 (fun env as env' e => by rw [bIx_ok e]; exact h5)
  | .bi f es, X, C, W, k, ck, c, m, pe, h => by
    simp only [ckQ] at h
    split at h <;> try (cases h; done)
    rename_i x p pa pes pos
    split at h
    · rename_i hf
      simp only [Bool.and_eq_true, decide_eq_true_eq] at h
      obtain ⟨⟨⟨⟨rfl, h2⟩, h3⟩, h4⟩, h5⟩ := h
      split at h5 <;> try (cases h5; done)
      simp only [Bool.and_eq_true, decide_eq_true_eq] at h5
      obtain ⟨⟨rfl, h6⟩, h7⟩ := h5
      match es, h3, h7 with
      | .cons a .nil, _, h7 =>
        simp only [ckA, Bool.and_eq_true] at h7
        have ga := (ckQ_ok a c .opd h7.1.2).o
        refine good_e rfl (decide_eq_false fun z => by subst z; cases hf) (fun _ => rfl) (is_pe hf (gb_of c h2).1 (gb_of c h2).2 (gb_of c h6).1 (gb_of c h6).2 h4 (snd_cons ga snd_nil h4) ga)
    · split at h
      · rename_i hf
        subst hf
        simp only [Bool.and_eq_true, decide_eq_true_eq] at h
        obtain ⟨⟨⟨h1, h2⟩, h3⟩, h4⟩ := h
        exact good_e rfl rfl (fun _ => rfl) (snd_bi (fun ha => gcd_pe (gl_of c h2) (c.gb _ _ h1) (name_of h3).1 (lenA h4) ha) (ckA_ok es c h4))
      simp only [Bool.and_eq_true, decide_eq_true_eq] at h
      obtain ⟨⟨⟨h1, rfl⟩, h3⟩, h4⟩ := h
      by_cases hfl : f = .list
      · subst hfl
        refine Good.of rfl (fun _ => rfl) ?_
        show PE X _ (rdR X.K C W true _)
        refine sndN_bi (fun ds r => list_lst) (fun ha => ?_) (ckA_ok es c h4)
        have hs' := lenA h4
        rw [List.all_cons, Bool.and_eq_true] at hs'
        exact pe_callTy cr_listN (gb_of c h3).1 (gb_of c h3).2 boot_list ha (by decide) (by decide) (star_cons (env := X.env) (es := pes) hs'.1) (star_any (env := X.env) (p := pos) hs'.2)
      · exact good_e rfl (decide_eq_false hfl) (fun _ => rfl) (snd_bi (fun ha => bi_pe c h1 (gb_of c h3).1 (gb_of c h3).2 (lenA h4) ha) (ckA_ok es c h4))
  | .meth mt a es, X, C, W, k, ck, c, m, pe, h => by
    simp only [ckQ] at h
    split at h <;> try (cases h; done)
    simp only [Bool.and_eq_true, decide_eq_true_eq] at h
    obtain ⟨⟨⟨⟨⟨⟨h1, h3⟩, h4⟩, h5⟩, h6⟩, h7⟩, h8⟩ := h
    rw [Bool.or_eq_true, Bool.and_eq_true, Bool.and_eq_true, decide_eq_true_eq, decide_eq_true_eq, decide_eq_true_eq, decide_eq_true_eq] at h1
    rcases h1 with ⟨rfl, rfl⟩ | ⟨rfl, rfl⟩
    rotate_left
    · exact good_e rfl rfl (fun _ => rfl) (snd_meth (m := .lcount) PySem.F.plainAttrs_list PySem.F.slot_list_count PySem.F.type_list_count mt_lcount' (ckQ_ok a c .opd h7).o (ckA_ok es c h8) h4 h3 (lenA h8) h5 h6)
    exact good_e rfl rfl (fun _ => rfl) (snd_meth (m := .dget) PySem.F.plainAttrs_dict PySem.F.slot_dict_get PySem.F.type_dict_get (mt_dget c.room) (ckQ_ok a c .opd h7).o (ckA_ok es c h8) h4 h3 (lenA h8) h5 h6)
  | .pop i, X, C, W, k, ck, c, m, pe, h => by
    simp only [ckQ] at h
    split at h <;> try (cases h; done)
    simp only [Bool.and_eq_true, decide_eq_true_eq] at h
    obtain ⟨⟨⟨rfl, h2⟩, h3⟩, h4⟩ := h
    exact good_e rfl rfl (fun _ => rfl) (snd_pop (ckV_ok c h4) h2 h3 PySem.F.plainAttrs_list PySem.F.slot_list_pop PySem.F.type_list_pop)
  | .popAt i e, X, C, W, k, ck, c, m, pe, h => by
    simp only [ckQ] at h
    split at h <;> try (cases h; done)
    simp only [Bool.and_eq_true, decide_eq_true_eq] at h
    obtain ⟨⟨⟨⟨⟨rfl, h2⟩, h3⟩, h4⟩, h5⟩, h6⟩ := h
    exact good_e rfl rfl (fun _ => rfl) (snd_popAt (ckV_ok c h5) (ckQ_ok e c .val h6).v h2 h4 h3 PySem.F.plainAttrs_list PySem.F.slot_list_pop PySem.F.type_list_pop)
  | .lse a, X, C, W, k, ck, c, m, pe, h => by
    simp only [ckQ] at h
    split at h <;> try (cases h; done)
    simp only [Bool.and_eq_true, decide_eq_true_eq] at h
    obtain ⟨⟨⟨⟨⟨rfl, h2⟩, rfl⟩, h4⟩, h5⟩, h6⟩ := h
    exact good_e rfl rfl (fun _ => rfl) (snd_lse c.calm (by have := c.room.un; omega) (gb_of c h2).1 (gb_of c h2).2 (gb_of c h4).1 (gb_of c h4).2 h5 (ckQ_ok a c .opd h6).o)
  | .sst a, X, C, W, k, ck, c, m, pe, h => by
    simp only [ckQ] at h
    split at h <;> try (cases h; done)
    simp only [Bool.and_eq_true, decide_eq_true_eq] at h
    obtain ⟨⟨⟨⟨⟨rfl, h2⟩, rfl⟩, h4⟩, h5⟩, h6⟩ := h
    exact good_e rfl rfl (fun _ => rfl) (snd_sst c.calm (by have := c.room.un; omega) (gb_of c h2).1 (gb_of c h2).2 (gb_of c h4).1 (gb_of c h4).2 h5 (ckQ_ok a c .opd h6).o)
  | .lrg es, X, C, W, k, ck, c, m, pe, h => by
    simp only [ckQ] at h
    split at h <;> try (cases h; done)
    · simp only [Bool.and_eq_true, decide_eq_true_eq] at h
      obtain ⟨⟨⟨⟨⟨⟨rfl, h2⟩, rfl⟩, h4⟩, h5⟩, hl⟩, h6⟩ := h
      match es, hl, h6 with
      | .cons a .nil, _, h6 =>
        simp only [ckA, Bool.and_eq_true] at h6
        exact Good.of rfl (fun _ => rfl) (snd_lrg1 c.calm (gb_of c h4).1 (gb_of c h4).2 (gb_of c h2).1 (gb_of c h2).2 h5 (ckQ_ok a c .opd h6.1.2).o)
    · simp only [Bool.and_eq_true, decide_eq_true_eq] at h
      obtain ⟨⟨⟨⟨⟨⟨⟨rfl, h2⟩, rfl⟩, h4⟩, h5⟩, h5'⟩, hl⟩, h6⟩ := h
      match es, hl, h6 with
      | .cons a (.cons b .nil), _, h6 =>
        simp only [ckA, Bool.and_eq_true] at h6
        exact Good.of rfl (fun _ => rfl) (snd_lrg2 c.calm (gb_of c h4).1 (gb_of c h4).2 (gb_of c h2).1 (gb_of c h2).2 h5 h5' (ckQ_ok a c .opd h6.1.2).o (ckQ_ok b c .opd h6.2.1.2).o)
  | .comp own t it ifs e, X, C, W, k, ck, c, m, pe, h => by
    simp only [ckQ] at h
    split at h <;> try (cases h; done)
    simp only [Bool.and_eq_true] at h
    obtain ⟨⟨⟨⟨⟨⟨h1, h2⟩, h3⟩, h4⟩, h5⟩, h6⟩, h7⟩ := h
    refine Good.of rfl (fun _ => rfl) ?_
    refine snd_comp (ownp := ownP ck own) c.calm c.nd (ckI_ok it c h4) (by rw [c.N, c.sc]; exact blkOk_by h1) ?_ (fun i hi => ?_) (fun s H A cl fp => ckG_ok (c.blk _ s H A cl fp) h5) (fun s H A cl fp => ckF_ok ifs (c.blk _ s H A cl fp) h6) (fun s H A cl fp => (ckQ_ok e (c.blk _ s H A cl fp) .val h7).v) (fun x => ?_)
    · unfold ownP
      rw [List.map_map]
      exact (List.map_congr_left fun _ _ => rfl).trans (List.map_id _)
    · exact of_decide_eq_true (List.all_eq_true.mp h2 i hi)
    · rename_i iter _ _ _
      cases iter <;> first | rfl | (cases h3; done)
  | .comp2 own own1 t it ifs t1 it1 ifs1 e, X, C, W, k, ck, c, m, pe, h => by
    simp only [ckQ] at h
    split at h <;> try (cases h; done)
    rename_i elt tg iter pifs tg1 iter1 pifs1 scope p0
    simp only [Bool.and_eq_true] at h
    obtain ⟨⟨⟨⟨⟨⟨⟨⟨⟨⟨⟨⟨⟨h1, h2⟩, h3⟩, h4⟩, h5⟩, h6⟩, h7⟩, h8⟩, h9⟩, h10⟩, h11⟩, h12⟩, h13⟩, h14⟩ := h
    refine Good.of rfl (fun _ => rfl) ?_
    refine snd_comp2 (ownp := ownP ck own) c.calm c.nd (ckI_ok it c h8) (by rw [c.N, c.sc]; exact blkOk_by h1) (ownP_ix ck own) (fun i hi => of_decide_eq_true (List.all_eq_true.mp h2 i hi)) (fun i hi => of_decide_eq_true (List.all_eq_true.mp h3 i hi)) (fun i hi => of_decide_eq_true (List.all_eq_true.mp h4 i hi)) (List.isEmpty_iff.mp h5) (fun s H A cl fp => ckG_ok (c.blk _ s H A cl fp) h9) (fun s H A cl fp => ckF_ok ifs (c.blk _ s H A cl fp) h10) (fun s H A cl fp => ckI_ok it1 (c.blk _ s H A cl fp) h11) (fun s H A cl fp => ckG_ok (c.blk _ s H A cl fp) h12) (fun s H A cl fp => ckF_ok ifs1 (c.blk _ s H A cl fp) h13) (fun s H A cl fp => (ckQ_ok e (c.blk _ s H A cl fp) .val h14).v) (noSet_ok h6 X.env) (fun env => noSet_ok h7 env)
theorem ckA_ok : ∀ (es : Es) {X : Cx} {C : Cfg} {W : Exs} {k : Nat} {ck : Ck} (c : Ctx X C W k ck) {pes : List Expr}, ckA ck es pes = true → PA X pes (rdA X.K C W es)
  | .nil, X, C, W, k, ck, c, [], _ => snd_nil
  | .nil, X, C, W, k, ck, c, _ :: _, h => by simp [ckA] at h
  | .cons _ _, X, C, W, k, ck, c, [], h => by simp [ckA] at h
  | .cons e r, X, C, W, k, ck, c, pe :: pes, h => by
    simp only [ckA, Bool.and_eq_true] at h
    exact snd_cons (ckQ_ok e c .opd h.1.2).o (ckA_ok r c h.2) h.1.1
theorem ckF_ok : ∀ (es : Es) {X : Cx} {C : Cfg} {W : Exs} {k : Nat} {ck : Ck} (c : Ctx X C W k ck) {pes : List Expr}, ckF ck es pes = true → PTs X pes (rdIf X.K C W es)
  | .nil, X, C, W, k, ck, c, pes, h => by
    simp only [ckF] at h
    cases pes with
    | nil => exact pts_ifs (.inl ⟨rfl, rfl⟩)
    | cons _ _ => cases h
  | .cons e r, X, C, W, k, ck, c, pes, h => by
    simp only [ckF, Bool.and_eq_true] at h
    obtain ⟨h1, h2⟩ := h
    have hr : r = .nil := by
      cases r with
      | nil => rfl
      | cons _ _ => cases h1
    split at h2
    · exact pts_ifs (.inr ⟨e, _, by rw [hr], rfl, (ckQ_ok e c .tst h2).t⟩)
    · cases h2
theorem ckI_ok : ∀ (it : It) {X : Cx} {C : Cfg} {W : Exs} {k : Nat} {ck : Ck} (c : Ctx X C W k ck) {tg pe : Expr}, ckI ck it tg pe = true → PI X tg pe (rdI X.K C W it)
  | .e a, X, C, W, k, ck, c, tg, pe, h => by
    simp only [ckI] at h
    exact snd_ie (ckQ_ok a c .opd h).o
  | .rg es, X, C, W, k, ck, c, tg, pe, h => by
    simp only [ckI] at h
    split at h <;> try (cases h; done)
    · simp only [Bool.and_eq_true, decide_eq_true_eq] at h
      obtain ⟨⟨⟨⟨rfl, h2⟩, h3⟩, h4⟩, h5⟩ := h
      exact snd_irg1 h4 (gb_of c h2).1 (gb_of c h2).2 h3 (ckA_ok es c h5)
    · simp only [Bool.and_eq_true, decide_eq_true_eq] at h
      obtain ⟨⟨⟨⟨⟨rfl, h2⟩, h3⟩, h3'⟩, h4⟩, h5⟩ := h
      exact snd_irg2 h4 (gb_of c h2).1 (gb_of c h2).2 h3 h3' (ckA_ok es c h5)
  | .zip a b, X, C, W, k, ck, c, tg, pe, h => by
    simp only [ckI] at h
    split at h <;> try (cases h; done)
    split at h <;> try (cases h; done)
    simp only [Bool.and_eq_true, decide_eq_true_eq] at h
    obtain ⟨⟨⟨⟨⟨rfl, h2⟩, h3⟩, h3'⟩, h4⟩, h5⟩ := h
    exact snd_izip (gb_of c h2).1 (gb_of c h2).2 h3 h3' (ckQ_ok a c .opd h4).o (ckQ_ok b c .opd h5).o
  | .keys _, X, C, W, k, ck, c, tg, pe, h => by simp [ckI] at h
  | .enm a, X, C, W, k, ck, c, tg, pe, h => by
    simp only [ckI] at h
    split at h <;> try (cases h; done)
    split at h <;> try (cases h; done)
    simp only [Bool.and_eq_true, decide_eq_true_eq] at h
    obtain ⟨⟨⟨rfl, h2⟩, h3⟩, h4⟩ := h
    exact snd_ienm (gb_of c h2).1 (gb_of c h2).2 h3 (ckQ_ok a c .opd h4).o
  | .items _, X, C, W, k, ck, c, tg, pe, h => by simp [ckI] at h
  | .vals _, X, C, W, k, ck, c, tg, pe, h => by simp [ckI] at h
  | .rng _ _ _, X, C, W, k, ck, c, tg, pe, h => by simp [ckI] at h
end
end L2.DN

/-! DenM: the checker of statements and what it takes -/
namespace L2.DN
open PySem PySem.Spec PyProof.Rows L2

def noComp : Expr → Bool
  | .ListComp .. => false
  | .SetComp .. => false
  | .DictComp .. => false
  | _ => true
theorem noComp_ok {e : Expr} {t : Option Expr} {l : Nat} {env : PySem.Env} (h : noComp e = true) : swapsWith e t l env = pure false := by
  cases e <;> first | rfl | (cases h; done)
def swN (tg pe : Expr) : Bool := match tg with
  | .Tuple .. => (match pe with | .Tuple .. => false | _ => true)
  | .List .. => (match pe with | .Tuple .. => false | _ => true)
  | _ => true
theorem swN_ok {tg pe : Expr} {env : PySem.Env} (h : swN tg pe = true) : swappedStores [tg] pe env = pure none := by
  cases tg <;> first | rfl | skip
  all_goals cases pe <;> first | rfl | (cases h; done)
def swNames (sc : Scope) (ts : List Expr) : List Str := ts.filterMap fun
      | .Name id pos => if (sc.names.lookup id == some .local && pos.line == (ts.head?.map (·.pos.line)).getD 0) = true then some id else none
      | _ => none
def swP (sc : Scope) (ts vs : List Expr) : Option (Option (List Str)) :=
  if (!(ts.length == 2 || ts.length == 3) || vs.length != ts.length) = true then some none
  else if (vs.any fun | .Starred .. => true | _ => false) = true then some none
  else if ((swNames sc ts).length != ts.length || (swNames sc ts).eraseDups.length != (swNames sc ts).length) = true then some none
  else if (vs.all (foldedForSure 8)) = true then some none
  else if (vs.all (constantsAlone 8)) = true then none
  else some (some (swNames sc ts))
theorem swP_ok {env : PySem.Env} {ts vs : List Expr} {k k2 : Nat} {p p2 : Pos} {r : Option (List Str)} (hk : env.scope.kind = .function) (h : swP env.scope ts vs = some r) : swappedStores [.Tuple ts k p] (.Tuple vs k2 p2) env = pure r := by
  have hb : env.blockKind = .function := by unfold Env.blockKind; rw [hk]; rfl
  unfold swP at h
  unfold swappedStores
  have e0 : (env.blockKind != ScopeKind.function) = false := by rw [hb]; rfl
  simp only [e0, Bool.or_false]
  split at h
  · rename_i h1
    rw [if_pos h1]
    cases h; rfl
  rename_i h1
  rw [if_neg h1]
  split at h
  · rename_i h2
    refine (if_pos h2).trans ?_
    cases h; rfl
  rename_i h2
  refine (if_neg h2).trans ?_
  split at h
  · rename_i h3
    refine (if_pos h3).trans ?_
    cases h; rfl
  rename_i h3
  refine (if_neg h3).trans ?_
  split at h
  · rename_i h4
    refine (if_pos h4).trans ?_
    cases h; rfl
  rename_i h4
  refine (if_neg h4).trans ?_
  split at h
  · cases h
  rename_i h5
  refine (if_neg h5).trans ?_
  cases h; rfl
def tgP : Expr → Bool
  | .Name .. => true
  | .Tuple .. => true
  | .Subscript .. => true
  | _ => false
theorem tgP_ok {tg : Expr} {env : PySem.Env} (h : tgP tg = true) : (assignEach [tg] env).map (·.2) = [assign tg env] := by
  cases tg <;> first | rfl | (cases h; done)
/-- name = value: may the value's comprehension store by itself -/
def nmC (ck : Ck) (x : Str) (pe : Expr) : Bool := noComp pe || (match ck.sc.names.lookup x with
  | some .cell => true
  | _ => false)
theorem nmC_ok {ck : Ck} {x : Str} {pe : Expr} {p : Pos} {l : Nat} {env : PySem.Env} (hs : env.scope = ck.sc) (h : nmC ck x pe = true) : swapsWith pe (some (.Name x p)) l env = pure false := by
  unfold nmC at h
  rw [Bool.or_eq_true] at h
  rcases h with h | h
  · exact noComp_ok h
  · split at h
    · rename_i e
      have hk : env.kindOf x = some .cell := by show env.scope.names.lookup x = _; rw [hs]; exact e
      have hl : (env.kindOf x == some NameKind.local) = false := by rw [hk]; rfl
      cases pe <;> first | rfl | skip
      all_goals
        unfold swapsWith
        simp only [hl, Bool.and_false, Bool.false_and]
    · cases h
mutual
def ckS (ck : Ck) (RO : List Nat) (nw : Bool) : S → Stmt → Bool
  | .nvr, _ => true
  | .pas, st => match st with
    | .Pass _ => true
    | .Expr (.Constant (.str _) _ _) _ => true
    | _ => false
  | .brk, st => match st with
    | .Break _ => true
    | _ => false
  | .cont, st => match st with
    | .Continue _ => true
    | _ => false
  | .retN, st => match st with
    | .Return none _ => !nw
    | _ => false
  | .ret e, st => match st with
    | .Return (some pe) _ => (!nw || newE ck e) && ckQ ck .val e pe
    | _ => false
  | .ex e, st => match st with
    | .Expr pe _ => noComp pe && ckQ ck .val e pe
    | _ => false
  | .ife c a b, st => match st with
    | .If pc pa pb _ => ckQ ck .tst c pc && ckSs ck RO nw a pa && ckSs ck RO nw b pb
    | _ => false
  | .asg t e, st => match st with
    | .Assign [tg] pe _ => (tix t).all (fun i => decide (i ∉ RO)) && (match tg with
      | .Name x py => nmC ck x pe || (match pe with
        | .ListComp elt gs scope cpos => decide (ck.sc.kind = .function) && locB ck.sc x && (py.line == cpos.line) && !(scope.names.any fun (n, k) => n == x && (k == .local || k == .cell)) && newE ck e
        | _ => false)
      | _ => noComp pe) && swN tg pe && tgP tg && ckG ck t tg && ckQ ck .val e pe
    | _ => false
  | .own i e, st => match st with
    | .Assign [.Name x py] pe _ => decide (i ∉ RO) && (nmC ck x pe || (match pe with
        | .ListComp elt gs scope cpos => decide (ck.sc.kind = .function) && locB ck.sc x && (py.line == cpos.line) && !(scope.names.any fun (n, k) => n == x && (k == .local || k == .cell))
        | _ => false)) && ckG ck (.n i) (.Name x py) && newE ck e && ckQ ck .val e pe
    | _ => false
  | .two i j oi oj a b, st => match st with
    | .Assign [.Tuple [.Name x px, .Name y py] _ _] (.Tuple [pa, pb] _ _) _ => decide (i ∉ RO) && decide (j ∉ RO) && decide (i ≠ j) && notStar pa && notStar pb && (!oi || newE ck a) && (!oj || newE ck b) && decide (ck.sc.kind = .function) &&
      (match swP ck.sc [.Name x px, .Name y py] [pa, pb] with
        | some none => true
        | some (some l) => decide (l = [x, y]) && locB ck.sc x && locB ck.sc y
        | none => false) && ckG ck (.n i) (.Name x px) && ckG ck (.n j) (.Name y py) && ckQ ck .val a pa && ckQ ck .val b pb
    | _ => false
  | .three i j l oi oj ol a b c, st => match st with
    | .Assign [.Tuple [.Name x px, .Name y py, .Name z pz] _ _] (.Tuple [pa, pb, pc] _ _) _ => decide (i ∉ RO) && decide (j ∉ RO) && decide (l ∉ RO) && decide (i ≠ j) && decide (i ≠ l) && decide (j ≠ l) && notStar pa && notStar pb && notStar pc && (!oi || newE ck a) && (!oj || newE ck b) && (!ol || newE ck c) && decide (ck.sc.kind = .function) &&
      (match swP ck.sc [.Name x px, .Name y py, .Name z pz] [pa, pb, pc] with
        | some none => true
        | some (some l) => decide (l = [x, y, z]) && locB ck.sc x && locB ck.sc y && locB ck.sc z
        | none => false) && ckG ck (.n i) (.Name x px) && ckG ck (.n j) (.Name y py) && ckG ck (.n l) (.Name z pz) && ckQ ck .val a pa && ckQ ck .val b pb && ckQ ck .val c pc
    | _ => false
  | .aug i o e, st => match st with
    | .AugAssign (.Name x px) op pe _ => decide (i ∉ RO) && decide (augOk o = some op) && ckG ck (.n i) (.Name x px) && ckQ ck .val e pe
    | _ => false
  | .augL i e, st => match st with
    | .AugAssign (.Name x px) op pe _ => decide (op = .Add) && ckG ck (.n i) (.Name x px) && ckQ ck .val e pe
    | _ => false
  | .put i k v, st => match st with
    | .Assign [.Subscript po pk _] pv _ => noComp pv && plainIx pk && ckV ck i po && ckQ ck .val k pk && ckQ ck .val v pv
    | _ => false
  | .app i e, st => match st with
    | .Expr (.Call (.Attribute po name apos) [pe] [] cpos) _ => decide (name = "append") && isName po && notStar pe && (apos.endLine == cpos.line) && ckV ck i po && ckQ ck .val e pe
    | _ => false
  | .for t it body, st => match st with
    | .For tg iter pb [] _ => (tix t).all (fun i => decide (i ∉ RO ++ hide it)) && noSet iter && ckI ck it tg iter && ckG ck t tg && ckSs ck (RO ++ hide it) nw body pb
    | _ => false
  | .whl t body, st => match st with
    | .While pc pb [] _ => ckQ ck .tst t pc && ckSs ck RO nw body pb
    | _ => false
  | .rse _, _ => false
def ckSs (ck : Ck) (RO : List Nat) (nw : Bool) : Ss → List Stmt → Bool
  | .nil, ps => ps.isEmpty
  | .cons s r, ps => match ps with
    | st :: sts => ckS ck RO nw s st && ckSs ck RO nw r sts
    | [] => false
end
section
variable {X : Cx} {C : Cfg} {W : Exs} {k : Nat} {ck : Ck} {RO : List Nat} {nw : Bool}
theorem good_r {b : Bool} {e : E} {pe : Expr} (h : Good X C W ck .val e pe) (hb : (!b || newE ck e) = true) : PE X pe (rdR X.K C W b e) := by
  cases b with
  | false => exact snd_old h
  | true =>
    have hb : newE ck e = true := hb
    have h : PE X pe (rdR X.K C W (newE ck e) e) := h
    rw [hb] at h
    exact h
theorem name_at (c : Ctx X C W k ck) {i : Nat} {x : Str} {p : Pos} (h : ckG ck (.n i) (.Name x p) = true) : X.N[i]? = some x ∧ Loc X.env.scope x ∧ (X.fn x = true ∨ X.env.scope.names.lookup x = some .local) := by
  simp only [ckG, Bool.and_eq_true] at h
  exact ⟨by rw [c.N]; exact of_decide_eq_true h.1, loc_of c h.2⟩
theorem lc_sw (c : Ctx X C W k ck) {x : Str} {py cpos : Pos} {l : Nat} {elt : Expr} {gs : List Comprehension} {scope : Scope} (h1 : ck.sc.kind = .function) (h2 : locB ck.sc x = true) (h3 : (py.line == cpos.line) = true) (h4 : (scope.names.any fun (n, k) => n == x && (k == .local || k == .cell)) = false) :
    swapsWith (.ListComp elt gs scope cpos) (some (.Name x py)) l X.env = pure true ∧ X.env.scope.names.lookup x = some .local := by
  have hl : X.env.scope.names.lookup x = some .local := by
    rw [c.sc]
    unfold locB at h2
    split at h2
    · assumption
    · cases h2
  exact ⟨sw_true (by rw [c.sc]; exact h1) hl h3 h4, hl⟩
theorem loc1 (c : Ctx X C W k ck) {x : Str} (h : locB ck.sc x = true) : X.env.scope.names.lookup x = some .local := by
  rw [c.sc]
  unfold locB at h
  split at h
  · assumption
  · cases h
/-- name = a comprehension -/
theorem asg_lc (c : Ctx X C W k ck) {m : Md} {e : E} {elt : Expr} {gs : List Comprehension} {scope : Scope} {cpos pos py : Pos} {x : Str} {i : Nat} {b : Bool} (hRO : i ∉ RO) (hy : X.N[i]? = some x) (hyl : X.env.scope.names.lookup x = some .local)
    (hsw : swapsWith (.ListComp elt gs scope cpos) (some (.Name x py)) pos.line X.env = pure true) (hn : newE ck e = true) (h : ckQ ck m e (.ListComp elt gs scope cpos) = true) :
    PS X (.Assign [.Name x py] (.ListComp elt gs scope cpos) pos) (rdS X.K C W RO nw (if b then .own i e else .asg (.n i) e)) := by
  cases e <;> first | (cases hn; done) | (simp only [ckQ] at h; cases h; done) | skip
  · rename_i own t it ifs e'
    simp only [ckQ] at h
    split at h <;> try (cases h; done)
    rename_i he
    cases he
    simp only [Bool.and_eq_true] at h
    obtain ⟨⟨⟨⟨⟨⟨h1, h2⟩, h3⟩, h4⟩, h5⟩, h6⟩, h7⟩ := h
    exact snd_ownLc hRO c.calm c.nd hy hyl hsw (ckI_ok it c h4) (by rw [c.N, c.sc]; exact blkOk_by h1) (ownP_ix ck own) (fun i hi => of_decide_eq_true (List.all_eq_true.mp h2 i hi)) (fun s H A cl fp => ckG_ok (c.blk _ s H A cl fp) h5) (fun s H A cl fp => ckF_ok ifs (c.blk _ s H A cl fp) h6) (fun s H A cl fp => (ckQ_ok e' (c.blk _ s H A cl fp) .val h7).v) (noSet_ok h3 X.env)
  · rename_i own own1 t it ifs t1 it1 ifs1 e'
    simp only [ckQ] at h
    split at h <;> try (cases h; done)
    rename_i he
    cases he
    simp only [Bool.and_eq_true] at h
    obtain ⟨⟨⟨⟨⟨⟨⟨⟨⟨⟨⟨⟨⟨h1, h2⟩, h3⟩, h4⟩, h5⟩, h6⟩, h7⟩, h8⟩, h9⟩, h10⟩, h11⟩, h12⟩, h13⟩, h14⟩ := h
    exact snd_ownLc2 hRO c.calm c.nd hy hyl hsw (ckI_ok it c h8) (by rw [c.N, c.sc]; exact blkOk_by h1) (ownP_ix ck own) (fun i hi => of_decide_eq_true (List.all_eq_true.mp h2 i hi)) (fun i hi => of_decide_eq_true (List.all_eq_true.mp h3 i hi)) (fun i hi => of_decide_eq_true (List.all_eq_true.mp h4 i hi)) (List.isEmpty_iff.mp h5) (fun s H A cl fp => ckG_ok (c.blk _ s H A cl fp) h9) (fun s H A cl fp => ckF_ok ifs (c.blk _ s H A cl fp) h10) (fun s H A cl fp => ckI_ok it1 (c.blk _ s H A cl fp) h11) (fun s H A cl fp => ckG_ok (c.blk _ s H A cl fp) h12) (fun s H A cl fp => ckF_ok ifs1 (c.blk _ s H A cl fp) h13) (fun s H A cl fp => (ckQ_ok e' (c.blk _ s H A cl fp) .val h14).v) (noSet_ok h6 X.env) (fun env => noSet_ok h7 env)
end
end L2.DN

/-! DenN: statements that the checker takes are read rightly -/
namespace L2.DN
open PySem PySem.Spec PyProof.Rows L2
theorem all_not {l RO : List Nat} (h : l.all (fun i => decide (i ∉ RO)) = true) : ∀ i ∈ l, i ∉ RO := fun i hi => of_decide_eq_true (List.all_eq_true.mp h i hi)
theorem ps_nvr {X : Cx} {C : Cfg} {W : Exs} {RO : List Nat} {nw : Bool} {st : Stmt} : PS X st (rdS X.K C W RO nw .nvr) := ⟨fun pins s σ H D I ⟨F, env, R, o⟩ => o.elim⟩
theorem put_assign {env : PySem.Env} {po pk : Expr} {tp : Pos} (h : plainIx pk = true) (v : Value) : assign (.Subscript po pk tp) env v = (do
      let ov ← holding [v] (eval po env)
      let iv ← holding [v, ov] (eval pk env)
      standAt tp
      holding [v, ov, iv] (setItem ov iv v)
      release [v, ov, iv] []) := by
  cases pk <;> first | rfl | (cases h; done)
theorem sole_no {t e : Expr} {l : Nat} {env : PySem.Env} (h : noComp e = true) : swapsWithSole [t] e l env = pure false := noComp_ok (t := some t) (l := l) (env := env) h
theorem sole_nm {ck : Ck} {x : Str} {pe : Expr} {p : Pos} {l : Nat} {env : PySem.Env} (hs : env.scope = ck.sc) (h : nmC ck x pe = true) : swapsWithSole [.Name x p] pe l env = pure false := nmC_ok (p := p) (l := l) hs h
mutual
theorem ckS_ok : ∀ (s : S) {X : Cx} {C : Cfg} {W : Exs} {k : Nat} {ck : Ck} (c : Ctx X C W k ck) (hp : PassesOwn (model X.prog X.w) X.A X.env X.xe) {RO : List Nat} {nw : Bool} {st : Stmt}, ckS ck RO nw s st = true → PS X st (rdS X.K C W RO nw s)
  | .nvr, X, C, W, k, ck, c, hp, RO, nw, st, h => ps_nvr
  | .pas, X, C, W, k, ck, c, hp, RO, nw, st, h => by
    simp only [ckS] at h
    split at h
    · exact snd_pass
    · exact snd_doc
    · cases h
  | .brk, X, C, W, k, ck, c, hp, RO, nw, st, h => by
    simp only [ckS] at h
    split at h
    · exact snd_brk
    · cases h
  | .cont, X, C, W, k, ck, c, hp, RO, nw, st, h => by
    simp only [ckS] at h
    split at h
    · exact snd_cont
    · cases h
  | .retN, X, C, W, k, ck, c, hp, RO, nw, st, h => by
    simp only [ckS] at h
    split at h
    · cases nw with
      | true => cases h
      | false => exact snd_retN
    · cases h
  | .ret e, X, C, W, k, ck, c, hp, RO, nw, st, h => by
    simp only [ckS] at h
    split at h <;> try (cases h; done)
    rw [Bool.and_eq_true] at h
    exact snd_ret (good_r (ckQ_ok e c .val h.2) h.1)
  | .ex e, X, C, W, k, ck, c, hp, RO, nw, st, h => by
    simp only [ckS] at h
    split at h <;> try (cases h; done)
    rw [Bool.and_eq_true] at h
    exact snd_ex (ckQ_ok e c .val h.2).v (noComp_ok h.1)
  | .ife t a b, X, C, W, k, ck, c, hp, RO, nw, st, h => by
    simp only [ckS] at h
    split at h <;> try (cases h; done)
    simp only [Bool.and_eq_true] at h
    exact snd_if (ckQ_ok t c .tst h.1.1).t (ckSs_ok a c hp h.1.2) (ckSs_ok b c hp h.2)
  | .asg t e, X, C, W, k, ck, c, hp, RO, nw, st, h => by
    simp only [ckS] at h
    split at h <;> try (cases h; done)
    rename_i tg pe pos
    simp only [Bool.and_eq_true] at h
    obtain ⟨⟨⟨⟨⟨h1, h2⟩, h3⟩, h4⟩, h5⟩, h6⟩ := h
    have hRO := all_not h1
    have ge := ckQ_ok e c .val h6
    have gg := ckG_ok c h5
    have gen : swapsWithSole [tg] pe pos.line X.env = pure false → PS X (.Assign [tg] pe pos) (rdS X.K C W RO nw (.asg t e)) := fun hs => snd_asg hRO ge.v gg hs (swN_ok h3) (tgP_ok h4)
    split at h2
    · rename_i x py
      rw [Bool.or_eq_true] at h2
      rcases h2 with h2 | h2
      · exact gen (sole_nm c.sc h2)
      · split at h2 <;> try (cases h2; done)
        simp only [Bool.and_eq_true, decide_eq_true_eq, Bool.not_eq_true'] at h2
        obtain ⟨⟨⟨⟨a1, a2⟩, a3⟩, a4⟩, hn⟩ := h2
        obtain ⟨hsw, hl⟩ := lc_sw c (l := pos.line) a1 a2 a3 a4
        cases t with
        | p ts => simp [ckG] at h5
        | n i =>
          have hi := (name_at c h5).1
          exact asg_lc (b := false) c (hRO i (List.mem_singleton_self i)) hi hl hsw hn h6
    · exact gen (sole_no h2)
  | .own i e, X, C, W, k, ck, c, hp, RO, nw, st, h => by
    simp only [ckS] at h
    split at h <;> try (cases h; done)
    rename_i x py pe pos
    simp only [Bool.and_eq_true, decide_eq_true_eq] at h
    obtain ⟨⟨⟨⟨h1, h2⟩, h3⟩, h4⟩, h5⟩ := h
    obtain ⟨n1, n2, n3⟩ := name_at c h3
    have ge := good_r (b := true) (ckQ_ok e c .val h5) h4
    rw [Bool.or_eq_true] at h2
    rcases h2 with h2 | h2
    · exact snd_own h1 c.nd n1 n2 ge (nmC_ok c.sc h2) n3
    · split at h2 <;> try (cases h2; done)
      simp only [Bool.and_eq_true, decide_eq_true_eq, Bool.not_eq_true'] at h2
      obtain ⟨⟨⟨a1, a2⟩, a3⟩, a4⟩ := h2
      obtain ⟨hsw, hl⟩ := lc_sw c (l := pos.line) a1 a2 a3 a4
      exact asg_lc (b := true) c h1 n1 hl hsw h4 h5
  | .two i j oi oj a b, X, C, W, k, ck, c, hp, RO, nw, st, h => by
    simp only [ckS] at h
    split at h <;> try (cases h; done)
    simp only [Bool.and_eq_true, decide_eq_true_eq] at h
    obtain ⟨⟨⟨⟨⟨⟨⟨⟨⟨⟨⟨⟨h1, h2⟩, h3⟩, h4⟩, h5⟩, h6⟩, h7⟩, h8⟩, h9⟩, h10⟩, h11⟩, h12⟩, h13⟩ := h
    obtain ⟨m1, m2, m3⟩ := name_at c h10
    obtain ⟨n1, n2, n3⟩ := name_at c h11
    have ga := good_r (ckQ_ok a c .val h12) h6
    have gb := good_r (ckQ_ok b c .val h13) h7
    have hk : X.env.scope.kind = .function := by rw [c.sc]; exact h8
    split at h9
    · rename_i e
      exact snd_twoT h1 h2 c.calm c.nd m1 n1 m2 n2 m3 n3 ga gb h4 h5 (swP_ok hk (by rw [c.sc]; exact e))
    · rename_i l e
      simp only [Bool.and_eq_true, decide_eq_true_eq] at h9
      obtain ⟨⟨rfl, l1⟩, l2⟩ := h9
      exact snd_two h1 h2 c.calm c.nd m1 n1 h3 (loc1 c l1) (loc1 c l2) ga gb h4 h5 (swP_ok hk (by rw [c.sc]; exact e))
    · cases h9
  | .three i j l oi oj ol a b d, X, C, W, k, ck, c, hp, RO, nw, st, h => by
    simp only [ckS] at h
    split at h <;> try (cases h; done)
    simp only [Bool.and_eq_true, decide_eq_true_eq] at h
    obtain ⟨⟨⟨⟨⟨⟨⟨⟨⟨⟨⟨⟨⟨⟨⟨⟨⟨⟨⟨h1, h2⟩, h2'⟩, h3⟩, h3'⟩, h3''⟩, h4⟩, h5⟩, h5'⟩, h6⟩, h7⟩, h7'⟩, h8⟩, h9⟩, h10⟩, h11⟩, h11'⟩, h12⟩, h13⟩, h14⟩ := h
    obtain ⟨m1, m2, m3⟩ := name_at c h10
    obtain ⟨n1, n2, n3⟩ := name_at c h11
    obtain ⟨o1, o2, o3⟩ := name_at c h11'
    have ga := good_r (ckQ_ok a c .val h12) h6
    have gb := good_r (ckQ_ok b c .val h13) h7
    have gd := good_r (ckQ_ok d c .val h14) h7'
    have hk : X.env.scope.kind = .function := by rw [c.sc]; exact h8
    split at h9
    · rename_i e
      exact snd_threeT h1 h2 h2' c.calm c.nd m1 n1 o1 m2 n2 o2 m3 n3 o3 ga gb gd h4 h5 h5' (swP_ok hk (by rw [c.sc]; exact e))
    · rename_i l e
      simp only [Bool.and_eq_true, decide_eq_true_eq] at h9
      obtain ⟨⟨⟨rfl, l1⟩, l2⟩, l3⟩ := h9
      exact snd_three h1 h2 h2' c.calm c.nd m1 n1 o1 h3 h3' h3'' (loc1 c l1) (loc1 c l2) (loc1 c l3) ga gb gd h4 h5 h5' (swP_ok hk (by rw [c.sc]; exact e))
    · cases h9
  | .aug i o e, X, C, W, k, ck, c, hp, RO, nw, st, h => by
    simp only [ckS] at h
    split at h <;> try (cases h; done)
    simp only [Bool.and_eq_true, decide_eq_true_eq] at h
    obtain ⟨⟨⟨h1, h2⟩, h3⟩, h4⟩ := h
    obtain ⟨n1, n2, n3⟩ := name_at c h3
    exact snd_aug h1 h2 c.nd n1 n2 (ckQ_ok e c .val h4).v n3
  | .augL i e, X, C, W, k, ck, c, hp, RO, nw, st, h => by
    simp only [ckS] at h
    split at h <;> try (cases h; done)
    simp only [Bool.and_eq_true, decide_eq_true_eq] at h
    obtain ⟨⟨rfl, h3⟩, h4⟩ := h
    obtain ⟨n1, n2, n3⟩ := name_at c h3
    exact snd_augL c.nd n1 n2 (ckQ_ok e c .val h4).v n3
  | .put i kk v, X, C, W, k, ck, c, hp, RO, nw, st, h => by
    simp only [ckS] at h
    split at h <;> try (cases h; done)
    simp only [Bool.and_eq_true] at h
    obtain ⟨⟨⟨⟨h1, h2⟩, h3⟩, h4⟩, h5⟩ := h
    exact snd_put c.room (ckV_ok c h3) (ckQ_ok kk c .val h4).v (ckQ_ok v c .val h5).v (sole_no h1) (swN_ok rfl) rfl (put_assign h2)
  | .app i e, X, C, W, k, ck, c, hp, RO, nw, st, h => by
    simp only [ckS] at h
    split at h <;> try (cases h; done)
    simp only [Bool.and_eq_true, decide_eq_true_eq] at h
    obtain ⟨⟨⟨⟨⟨rfl, h2⟩, h3⟩, h4⟩, h5⟩, h6⟩ := h
    exact snd_app (ckV_ok c h5) (ckQ_ok e c .val h6).v h2 h3 h4 PySem.F.plainAttrs_list PySem.F.slot_list_append PySem.F.type_list_append
  | .for t it body, X, C, W, k, ck, c, hp, RO, nw, st, h => by
    simp only [ckS] at h
    split at h <;> try (cases h; done)
    rename_i tg iter pb pos
    simp only [Bool.and_eq_true] at h
    obtain ⟨⟨⟨⟨h1, h2⟩, h3⟩, h4⟩, h5⟩ := h
    refine snd_for hp c.calm (all_not h1) (ckI_ok it c h3) (ckG_ok c h4) (ckSs_ok body c hp h5) (fun x => ?_)
    cases iter <;> first | rfl | (cases h2; done)
  | .whl t body, X, C, W, k, ck, c, hp, RO, nw, st, h => by
    simp only [ckS] at h
    split at h <;> try (cases h; done)
    rw [Bool.and_eq_true] at h
    exact snd_while hp (ckQ_ok t c .tst h.1).t (ckSs_ok body c hp h.2)
  | .rse _, X, C, W, k, ck, c, hp, RO, nw, st, h => by simp [ckS] at h
theorem ckSs_ok : ∀ (s : Ss) {X : Cx} {C : Cfg} {W : Exs} {k : Nat} {ck : Ck} (c : Ctx X C W k ck) (hp : PassesOwn (model X.prog X.w) X.A X.env X.xe) {RO : List Nat} {nw : Bool} {st : List Stmt}, ckSs ck RO nw s st = true → PSs X st (rdSs X.K C W RO nw s)
  | .nil, X, C, W, k, ck, c, hp, RO, nw, st, h => by
    simp only [ckSs] at h
    cases st with
    | nil => exact snd_snil
    | cons _ _ => cases h
  | .cons s r, X, C, W, k, ck, c, hp, RO, nw, st, h => by
    simp only [ckSs] at h
    split at h
    · rw [Bool.and_eq_true] at h
      exact snd_scons (ckS_ok s c hp h.1) (ckSs_ok r c hp h.2)
    · cases h
end
end L2.DN

/-! DenO: a whole program -/
namespace L2.DN
open PySem PySem.Spec PyProof.Rows L2

structure PDef where
  name : Str
  ps : List Str
  N : List Str
  st : Stmt
  br : List Bool
  nw : Bool
  body : Ss
def PDef.fn (d : PDef) : Fn := ⟨d.br, d.nw, d.N.length, d.body⟩
def roOf (br : List Bool) : List Nat := (List.range br.length).filter fun k => br.getD k false
def scopeB (N P : List Str) (sc : Scope) : Bool := decide (sc.kind = .function) && !sc.isCoroutine && !sc.isGenerator && decide N.Nodup && decide (N.take P.length = P) && P.all (fun x => locB sc x || (match sc.names.lookup x with
  | some .cell => true
  | _ => false)) && sc.names.all fun y => decide (y.2 ≠ .free)
def ckOf (P : List PDef) (cs : List (Str × Int)) (bl : List Str) (gb : List (Str × String)) (d : PDef) : Ck := ⟨d.N, defScope d.st, defScope d.st, P.map (·.name), P.map (·.nw), cs, bl, gb⟩
def ckD (P : List PDef) (cs : List (Str × Int)) (bl : List Str) (gb : List (Str × String)) (d : PDef) : Bool := scopeB d.N d.ps (defScope d.st) && decide (d.br.length = d.ps.length) && ckSs (ckOf P cs bl gb d) (roOf d.br) d.nw d.body (defBody d.st)
theorem scopeB_ok {N P : List Str} {sc : Scope} (h : scopeB N P sc = true) : FnScope N P sc := by
  unfold scopeB at h
  simp only [Bool.and_eq_true, decide_eq_true_eq, Bool.not_eq_true', List.all_eq_true] at h
  obtain ⟨⟨⟨⟨⟨⟨h1, h2⟩, h3⟩, h4⟩, h5⟩, h6⟩, h7⟩ := h
  refine ⟨h1, h2, h3, h4, h5, fun x hx => ?_, h7⟩
  have := h6 x hx
  rw [Bool.or_eq_true] at this
  rcases this with q | q
  · unfold locB at q
    split at q
    · exact .inl (by assumption)
    · cases q
  · split at q
    · exact .inr (by assumption)
    · cases q
section
variable {K : PySem.W.Frag} {F H F' H' : Hp}
theorem getD_ext (ss : List Slot) (m j : Nat) : (ss ++ List.replicate m Slot.nil).getD j .nil = ss.getD j .nil := by
  simp only [List.getD_eq_getElem?_getD, List.getElem?_append]
  split
  · rfl
  · rename_i h
    rw [List.getElem?_eq_none (by omega : ss.length ≤ j)]
    rw [List.getElem?_replicate]
    split <;> rfl
theorem ext_get {vs : List V} {m j : Nat} {x : Option V} (h : (vs.map some ++ List.replicate m none : L2.St)[j]? = some x) (hj : j < vs.length) : (vs.map some)[j]? = some x := by
  rw [List.getElem?_append_left (by simpa using hj)] at h
  exact h
theorem ext_at {vs : List V} {m j : Nat} (hj : j < vs.length) : (vs.map some ++ List.replicate m none : L2.St)[j]? = (vs.map some)[j]? := List.getElem?_append_left (by simpa using hj)
theorem Rel.ext {ss : List Slot} {vs : List V} (R : Rel K F ss (vs.map some) H) (m : Nat) : Rel K F (ss ++ List.replicate m .nil) (vs.map some ++ List.replicate m none) H := by
  have hl : ss.length = vs.length := by simpa using R.len
  have lt : ∀ {j s}, ss.getD j .nil = s → s ≠ .nil → j < vs.length := fun h hs => by rw [← hl]; exact getD_lt h hs
  refine ⟨R.sub, by simp [hl], fun j => ?_, fun i j d e a h1 h2 e1 e2 => ?_⟩
  · rw [getD_ext]
    have hs := R.slot j
    generalize hj : ss.getD j .nil = s at hs
    cases s with
    | nil => trivial
    | v d => rw [ext_at (lt hj (fun z => nomatch z))]; exact hs
    | o d => rw [ext_at (lt hj (fun z => nomatch z))]; exact hs
  · rw [getD_ext] at h1 h2
    rw [ext_at (lt h1 (fun z => nomatch z))] at e1
    rw [ext_at (lt h2 (fun z => nomatch z))] at e2
    exact R.one _ _ _ _ _ h1 h2 e1 e2
theorem Owns.ext {ss : List Slot} {vs : List V} {m : Nat} {a : Addr} (hl : ss.length = vs.length) (h : Owns (ss ++ List.replicate m .nil) (vs.map some ++ List.replicate m none) a) : Owns ss (vs.map some) a := by
  obtain ⟨j, d, h1, h2⟩ := h
  rw [getD_ext] at h1
  have hj : j < vs.length := by rw [← hl]; exact getD_lt h1 (fun z => nomatch z)
  rw [ext_at hj] at h2
  exact ⟨j, d, h1, h2⟩
theorem outs_len : ∀ (br : List Bool) (env : Env), (outs br env).length = br.length
  | [], _ => rfl
  | _ :: br, [] => by show (outs br []).length + 1 = _; rw [outs_len br []]; rfl
  | _ :: br, s :: env => by show (outs br env).length + 1 = _; rw [outs_len br env]; rfl
theorem outs_get : ∀ {br : List Bool} {env : Env} {j : Nat} {s : Slot}, (outs br env).getD j .nil = s → s ≠ .nil → br.getD j false = true ∧ env.getD j .nil = s
  | [], _, j, s, h, hs => by
    exfalso
    apply hs
    rw [← h]
    rfl
  | b :: br, [], 0, s, h, hs => (hs h.symm).elim
  | b :: br, [], j + 1, s, h, hs => by
    have := outs_get (br := br) (env := []) (j := j) h hs
    exact ⟨this.1, this.2⟩
  | b :: br, e :: env, 0, s, h, hs => by
    cases b with
    | true => exact ⟨rfl, h⟩
    | false => exact (hs h.symm).elim
  | b :: br, e :: env, j + 1, s, h, hs => outs_get (br := br) (env := env) (j := j) h hs
theorem brOk_at : ∀ {br : List Bool} {ss : List Slot} {j : Nat}, brOk br ss = true → br.getD j false = true → ss.length = br.length → ∃ d, ss.getD j .nil = .o d
  | [], ss, j, _, h, _ => by simp at h
  | b :: br, [], j, _, _, h => by simp at h
  | b :: br, s :: ss, 0, h, hb, _ => by
    have hb : b = true := hb
    subst hb
    cases s <;> first | (cases h; done) | exact ⟨_, rfl⟩
  | b :: br, s :: ss, j + 1, h, hb, hl => by
    have hl : ss.length = br.length := by simpa using hl
    refine brOk_at (br := br) (ss := ss) (j := j) ?_ hb hl
    cases b with
    | true => cases s <;> first | (cases h; done) | exact h
    | false => exact h
theorem ro_mem {br : List Bool} {j : Nat} (h : br.getD j false = true) : j ∈ roOf br := by
  unfold roOf
  rw [List.mem_filter]
  refine ⟨List.mem_range.mpr ?_, h⟩
  by_cases hj : j < br.length
  · exact hj
  · rw [List.getD_eq_getElem?_getD, List.getElem?_eq_none (by omega)] at h
    cases h
/-- a frame's end, seen by its caller -/
theorem frame_end {ss : List Slot} {vs : List V} {br : List Bool} {m : Nat} {σ' : L2.St} {env' : Env} (R : Rel K F ss (vs.map some) H) (hb : brOk br ss = true) (hl : ss.length = br.length)
    (w : WentS K (roOf br) (vs.map some ++ List.replicate m none) (ss ++ List.replicate m .nil) F H σ' env' F' H') : Went K (vs.map some) ss F H (outs br env') F' H' := by
  have hv : ss.length = vs.length := by simpa using R.len
  have at' : ∀ {j s}, (outs br env').getD j .nil = s → s ≠ .nil → env'.getD j .nil = s ∧ σ'[j]? = (vs.map some)[j]? ∧ ∃ d, ss.getD j .nil = .o d := fun {j s} h hs => by
    obtain ⟨h1, h2⟩ := outs_get h hs
    have hj : j < vs.length := by
      by_cases q : j < br.length
      · omega
      · rw [List.getD_eq_getElem?_getD, List.getElem?_eq_none (by omega)] at h1; cases h1
    exact ⟨h2, (w.ro j (ro_mem h1)).trans (ext_at hj), brOk_at hb h1 hl⟩
  refine ⟨⟨w.rel.sub, by rw [outs_len, ← hl]; exact R.len, fun j => ?_, fun i j d e a h1 h2 e1 e2 => ?_⟩, w.step.weak fun a h => h.ext hv, fun a ⟨j, d, h, e⟩ => ?_⟩
  · generalize hs : (outs br env').getD j .nil = s
    cases s with
    | nil => trivial
    | v d =>
      obtain ⟨h1, h2, _⟩ := at' hs (fun z => nomatch z)
      rw [← h2]
      exact w.rel.val h1
    | o d =>
      obtain ⟨h1, h2, _⟩ := at' hs (fun z => nomatch z)
      rw [← h2]
      exact w.rel.own h1
  · obtain ⟨g1, s1, _⟩ := at' h1 (fun z => nomatch z)
    obtain ⟨g2, s2, _⟩ := at' h2 (fun z => nomatch z)
    exact w.rel.one _ _ _ _ _ g1 g2 (s1.trans e1) (s2.trans e2)
  · obtain ⟨g1, s1, d0, hd⟩ := at' h (fun z => nomatch z)
    exact ⟨j, d0, hd, e⟩
end
section
variable {P : Program} {w : World} {K : PySem.W.Frag} {mg : Str → Option Value} {base : Heap} {D : List PDef} {cs : List (Str × Int)} {bl : List Str} {gb : List (Str × String)} {W : Nat} {cls : Nat → Addr}
def fns (D : List PDef) : List Fn := D.map PDef.fn
theorem fns_at {i : Nat} {d : PDef} (h : D[i]? = some d) : (fns D)[i]? = some d.fn := by unfold fns; rw [List.getElem?_map, h]; rfl
theorem call_len {n i : Nat} {d : PDef} (hd : D[i]? = some d) (hb : d.br.length = d.ps.length) : ∀ vs H Q E, spF K (cfgN (fns D) W (callN (fns D) W n)) cls i vs H Q E → vs.length = d.ps.length := by
  rintro vs H Q E ⟨F, ss, R, o⟩
  have o : OutM (callN (fns D) W n i ss) _ _ := o
  cases n with
  | zero => exact o.elim
  | succ n =>
    unfold callN at o
    rw [fns_at hd] at o
    simp only at o
    split at o
    · rename_i hl
      have h1 : ss.length = d.br.length := hl.1
      have h2 : ss.length = (vs.map some).length := R.len
      rw [List.length_map] at h2
      omega
    · exact o.elim
theorem prog_ok (hF : ∀ (i : Nat) (d : PDef), D[i]? = some d → ∃ (f : Addr) (fd : FuncData), mg d.name = some (.ref f) ∧ Fun K d.name d.name d.st f fd ∧ Binds K fd d.ps [])
    (hck : ∀ d ∈ D, ckD D cs bl gb d = true) (hcs : ∀ x i, cs.lookup x = some i → ∃ t, mg x = some (.int i t)) (hbl : ∀ x ∈ bl, mg x = none) (hgb : ∀ x i, gb.lookup x = some i → mg x = some (.builtin i)) :
    ∀ (n i : Nat) (d : PDef), D[i]? = some d → ∀ (f : Addr) (fd : FuncData), Fun K d.name d.name d.st f fd → FnOk P w K mg base (L2.CX P w) n f fd d.ps (spF K (cfgN (fns D) W (callN (fns D) W n)) cls i) := by
  intro n
  induction n with
  | zero =>
    intro i d hd f fd FF
    exact ⟨fun vs H Q E ⟨F, ss, R, o⟩ => o.elim, fun A outer s H args us vs Q E hr e0 hb r ⟨F, ss, R, o⟩ => o.elim⟩
  | succ n ih =>
    intro i d hd f fd FF
    have hc := hck d (List.mem_of_getElem? hd)
    unfold ckD at hc
    simp only [Bool.and_eq_true, decide_eq_true_eq] at hc
    obtain ⟨⟨h1, h2⟩, h3⟩ := hc
    have S := scopeB_ok h1
    refine FF.okX S (call_len hd h2) fun cdv A outer s H vs Q E hr hsp => ?_
    obtain ⟨F, ss, R, o⟩ := hsp
    have ov : OutM (callN (fns D) W (n + 1) i ss) _ _ := o
    unfold callN at ov
    rw [fns_at hd] at ov
    simp only at ov
    split at ov
    · rename_i hl
      obtain ⟨hl1, hl2⟩ := hl
      have hl1 : ss.length = d.br.length := hl1
      have hl2 : brOk d.br ss = true := hl2
      have hv : ss.length = vs.length := by simpa using R.len
      have c : Ctx (cxOf (L2.CX P w) P w K mg base d.N d.name (defScope d.st) f cdv A outer s H E) (cfgN (fns D) W (callN (fns D) W n)) ⟨cls, E⟩ n (ckOf D cs bl gb d) := by
        refine ⟨rfl, rfl, S.nd, rfl, hr, fun x h => rfl, fun g x hg => ?_, hcs, hbl, hgb, fun g => ?_, ?_⟩
        · have hg : (D.map (·.name))[g]? = some x := hg
          rw [List.getElem?_map] at hg
          cases hq : D[g]? with
          | none => rw [hq] at hg; cases hg
          | some e =>
            rw [hq] at hg
            have hx : e.name = x := Option.some.inj hg
            subst hx
            obtain ⟨a, fd', hm, FG, hB⟩ := hF g e hq
            exact ⟨a, fd', e.ps, hm, FG.kp, hB, ih g e hq a fd' FG⟩
        · show (match (fns D)[g]? with | some fn => fn.nw | none => false) = ((D.map (·.nw))[g]?).getD false
          unfold fns
          rw [List.getElem?_map, List.getElem?_map]
          cases D[g]? <;> rfl
        · exact passes_call (W := fun cls d _ H => E cls d H) (takes_of rfl rfl rfl rfl) fun _ _ _ _ h => h
      refine ⟨_, ckSs_ok d.body c (passes_of rfl) h3, ?_⟩
      have hm : d.N.length - ss.length = d.N.length - vs.length := by rw [hv]
      have hst : start d.N vs = vs.map some ++ List.replicate (d.N.length - ss.length) none := by unfold start; rw [hm]
      rw [hst]
      have ov : OutM (exes (cfgN (fns D) W (callN (fns D) W n)) d.body (ss ++ List.replicate (d.N.length - ss.length) .nil) >>= fun p => match p.1 with
        | .ret r => .ok (r, outs d.br p.2)
        | .next => if d.nw = true then stk else .ok (.non, outs d.br p.2)
        | _ => stk) _ _ := ov
      refine ⟨F, _, R.ext _, ov.bind.mono (fun ⟨fl, env'⟩ q => ?_) fun e he => ?_⟩
      · have hnw : (cfgN (fns D) W (callN (fns D) W (n + 1))).nw i = d.nw := by
          show (match (fns D)[i]? with | some fn => fn.nw | none => false) = d.nw
          rw [fns_at hd]
          rfl
        rw [hnw] at q
        cases fl with
        | brk => exact q.elim
        | cont => exact q.elim
        | ret r => exact fun v σ' F' H' w' rr => q v F' H' (frame_end R hl2 hl1 w') rr
        | next =>
          cases hn : d.nw with
          | true =>
            rw [hn] at q
            exact q.elim
          | false =>
            rw [hn] at q
            exact fun σ' F' H' w' => q .non F' H' (frame_end R hl2 hl1 w') .non
      · cases e with
        | stuck => exact he
        | exc c as => exact fun F' H' st sb ea => he F' H' (st.weak fun a h => h.ext hv) sb ea
    · exact ov.elim
end
end L2.DN

/-! DenP: a law's end -/
namespace L2.DN
open PySem PySem.Spec PyProof.Rows L2
/-- a def as it stands behind the top -/
def DefIn (K : PySem.W.Frag) (x : Str) (st : Stmt) : Prop := ∃ (f : Addr) (oc : Value) (od : Option Addr) (kV doc pm : Value) (an : Option Addr) (cdv ct : Value) (osl : Array (Option Value)),
  PySem.W.nsIn K mainGlobals x = some (some (.ref f)) ∧ K.lookup f = some ⟨oc, od, .func (PySem.W.fnOf x x (defArgs st) (defBody st) (defScope st) .none kV doc pm an cdv ct), osl⟩ ∧ PySem.W.codeIn K cdv x = true ∧ PySem.W.keepIn K (.ref f) = true
theorem DefIn.of {K : PySem.W.Frag} {x : Str} {st : Stmt} {f : Addr} {oc : Value} {od an : Option Addr} {osl : Array (Option Value)} {kV doc pm cdv ct : Value} (a : PySem.W.nsIn K mainGlobals x = some (some (.ref f)))
    (l : K.lookup f = some ⟨oc, od, .func (PySem.W.fnOf x x (defArgs st) (defBody st) (defScope st) .none kV doc pm an cdv ct), osl⟩) (c : PySem.W.codeIn K cdv x = true) (k : PySem.W.keepIn K (.ref f) = true) : DefIn K x st := ⟨f, oc, od, kV, doc, pm, an, cdv, ct, osl, a, l, c, k⟩
def DefsIn (K : PySem.W.Frag) : List PDef → Prop
  | [] => True
  | d :: r => DefIn K d.name d.st ∧ DefsIn K r
/-- the parameters are plain -/
def BindIn (d : PDef) : Prop := ∀ (kV doc pm : Value) (an : Option Addr) (cdv ct : Value) (us : List Value), us.length = d.ps.length → bindArgs (PySem.W.fnOf d.name d.name (defArgs d.st) (defBody d.st) (defScope d.st) .none kV doc pm an cdv ct) ⟨us, []⟩ = pure (d.ps.zip us)
def BindsIn : List PDef → Prop
  | [] => True
  | d :: r => BindIn d ∧ BindsIn r
def NsInt (K : PySem.W.Frag) : List (Str × Int) → Prop
  | [] => True
  | p :: r => (∃ t, PySem.W.nsIn K mainGlobals p.1 = some (some (.int p.2 t))) ∧ NsInt K r
def NsNo (K : PySem.W.Frag) : List Str → Prop
  | [] => True
  | x :: r => PySem.W.nsIn K mainGlobals x = some none ∧ NsNo K r
theorem NsInt.of {K : PySem.W.Frag} {x : Str} {i : Int} {t : Tok} {r : List (Str × Int)} (h : PySem.W.nsIn K mainGlobals x = some (some (.int i t))) (hr : NsInt K r) : NsInt K ((x, i) :: r) := ⟨⟨t, h⟩, hr⟩
theorem DefsIn.at {K : PySem.W.Frag} : ∀ {D : List PDef} {i : Nat} {d : PDef}, DefsIn K D → D[i]? = some d → DefIn K d.name d.st
  | [], i, d, _, h => by simp at h
  | e :: D, 0, d, hd, h => by simp at h; subst h; exact hd.1
  | e :: D, i + 1, d, hd, h => DefsIn.at hd.2 (by simpa using h)
theorem BindsIn.at : ∀ {D : List PDef} {i : Nat} {d : PDef}, BindsIn D → D[i]? = some d → BindIn d
  | [], i, d, _, h => by simp at h
  | e :: D, 0, d, hd, h => by simp at h; subst h; exact hd.1
  | e :: D, i + 1, d, hd, h => BindsIn.at hd.2 (by simpa using h)
theorem NsInt.at {K : PySem.W.Frag} : ∀ {cs : List (Str × Int)} {x : Str} {i : Int}, NsInt K cs → cs.lookup x = some i → ∃ t, PySem.W.nsIn K mainGlobals x = some (some (.int i t))
  | [], x, i, _, h => by cases h
  | (y, j) :: r, x, i, hn, h => by
    rw [List.lookup_cons] at h
    split at h
    · rename_i e
      have e : x = y := by simpa using e
      subst e
      cases h
      exact hn.1
    · exact NsInt.at hn.2 h
def NsBi (K : PySem.W.Frag) : List (Str × String) → Prop
  | [] => True
  | p :: r => PySem.W.nsIn K mainGlobals p.1 = some (some (.builtin p.2)) ∧ NsBi K r
theorem NsBi.at {K : PySem.W.Frag} : ∀ {cs : List (Str × String)} {x : Str} {i : String}, NsBi K cs → cs.lookup x = some i → PySem.W.nsIn K mainGlobals x = some (some (.builtin i))
  | [], x, i, _, h => by cases h
  | (y, j) :: r, x, i, hn, h => by
    rw [List.lookup_cons] at h
    split at h
    · rename_i e
      have e : x = y := by simpa using e
      subst e
      cases h
      exact hn.1
    · exact NsBi.at hn.2 h
theorem NsBi.of {K : PySem.W.Frag} {x : Str} {i : String} {r : List (Str × String)} (h : PySem.W.nsIn K mainGlobals x = some (some (.builtin i))) (hr : NsBi K r) : NsBi K ((x, i) :: r) := ⟨h, hr⟩
theorem NsNo.at {K : PySem.W.Frag} : ∀ {bl : List Str} {x : Str}, NsNo K bl → x ∈ bl → PySem.W.nsIn K mainGlobals x = some none
  | [], x, _, h => by cases h
  | y :: r, x, hn, h => by
    rcases List.mem_cons.mp h with rfl | h
    · exact hn.1
    · exact NsNo.at hn.2 h
theorem den_walk {l : PySem.W.OpenLaw} {n k : Nat} {q : Program} {loose : List Str} {XP : (Str → Option Value) → Heap → Prop} {YP : World → Heap → Prop} {d : DefRec} {K : Params → PySem.W.Frag} {x : Str} {D : List PDef} {cs : List (Str × Int)} {bl : List Str} {gb : List (Str × String)} {W i : Nat} {e : PDef}
    (hn : l.most = some n) (hn2 : n ≤ sizeLine) (hdf : d.params.defaults = []) (hr : Room k callerA) (hY : ∀ (w : World) (h : Heap), YP w h → (K w.params).In h)
    (he : D[i]? = some e) (hps : e.ps = [x]) (hnm : e.name = d.name) (hnw : e.nw = false) (hck : D.all (ckD D cs bl gb) = true) (hb : BindsIn D) (hcall : ∀ ns : List Int, ns.length ≤ n → ∃ o, callN (fns D) W k i [.v (.scr ns)] = .ok (.bl true, o))
    (F : ∀ (w : World), DefsIn (K w.params) D ∧ NsInt (K w.params) cs ∧ NsNo (K w.params) bl ∧ NsBi (K w.params) gb) :
    PySem.W.WalkO q loose XP YP l.row.toRowW d [] (fun f vs => PySem.call f vs) := by
  refine L2.walk_of (K := K) (l := l) (n := n) (k := k) (x := x) (CX := fun w => L2.CX l.prog w) (sp := fun w => spF (K w.params) (cfgN (fns D) W (callN (fns D) W k)) (fun _ => 0) i) hn hn2 hdf hr hY (fun w mg fa h KX G hfa => ?_) (fun w H a ns hl hO hS => ?_) (fun w H s u s' h => ?_)
  · obtain ⟨h1, h2, h3, h4⟩ := F w
    have fd_at : ∀ (j : Nat) (g : PDef), D[j]? = some g → ∃ (f : Addr) (fd : FuncData), mg g.name = some (.ref f) ∧ Fun (K w.params) g.name g.name g.st f fd ∧ Binds (K w.params) fd g.ps [] := fun j g hg => by
      obtain ⟨f, oc, od, kV, doc, pm, an, cdv, ct, osl, a, lk, c, kp⟩ := h1.at hg
      have FF := fun_mk (st := g.st) lk c kp
      exact ⟨f, _, PySem.W.mg_of KX G a, FF, FF.binds (hb.at hg)⟩
    obtain ⟨f, oc, od, kV, doc, pm, an, cdv, ct, osl, a, lk, c, kp⟩ := h1.at he
    have FF := fun_mk (st := e.st) lk c kp
    have ea : fa = f := by
      have z := PySem.W.mg_of KX G a
      rw [hnm, hfa] at z
      cases z
      rfl
    subst ea
    refine ⟨_, fun s u => .of_eq (by
      have := (hb.at he) kV doc pm an cdv ct [u] (by rw [hps]; rfl)
      rw [hps] at this
      exact this), fun base KB GB => ?_⟩
    have main := prog_ok (P := l.prog) (w := w) (K := K w.params) (mg := mg) (base := base) (D := D) (cs := cs) (bl := bl) (gb := gb) (W := W) (cls := fun _ => 0) fd_at (fun g hg => List.all_eq_true.mp hck g hg)
      (fun y j hj => by
        obtain ⟨t, ht⟩ := h2.at hj
        exact ⟨t, PySem.W.mg_of KX G ht⟩) (fun y hy => PySem.W.mg_none_of KX G (h3.at hy)) (fun y j hj => PySem.W.mg_of KX G (h4.at hj)) k i e he fa _ FF
    rw [hps] at main
    exact main
  · obtain ⟨o, ho⟩ := hcall ns hl
    refine ⟨H, [.v (.scr ns)], ⟨Sub.refl _, rfl, fun j => ?_, fun a' b' d1 d2 c h1 h2 _ _ => ?_⟩, OutM.of (a := (.bl true, o)) (show (cfgN (fns D) W (callN (fns D) W k)).cl i [.v (.scr ns)] = .ok (.bl true, o) from ho) fun v F' H' wt r => ?_⟩
    · cases j with
      | zero => exact ⟨.ref a, rfl, .scr hS⟩
      | succ j => cases j <;> exact trivial
    · cases a' with
      | zero => cases h1
      | succ j => cases j <;> cases h1
    · have hf : (cfgN (fns D) W (callN (fns D) W k)).nw i = false := by
        show (match (fns D)[i]? with | some fn => fn.nw | none => false) = false
        rw [fns_at he]
        exact hnw
      rw [hf] at r
      have r : Rep (K w.params) F' v (.bl true) := r
      cases r
      rfl
  · obtain ⟨_, _, _, _, _, _, _, _, _, _, _, _, z⟩ := h
    exact z.elim
end L2.DN

/-! DenQ: for plain laws: how each form is reckoned; comprehensions and loops by invariants -/
namespace L2.DN
theorem den_c {X : Cfg} {env : Env} {d} : den X (.c d) env = (.ok (d, env)) := by
  first | rfl | (simp only [den])
theorem den_v {X : Cfg} {env : Env} {i} : den X (.v i) env = (noX (rd env i)) := by
  first | rfl | (simp only [den])
theorem den_tup {X : Cfg} {env : Env} {es} : den X (.tup es) env = (do
    let (as, env) ← dens X es env
    .ok (.tup (← opL .ok env as), env)) := by
  first | rfl | (simp only [den])
theorem den_lst {X : Cfg} {env : Env} {es} : den X (.lst es) env = (do
    let (as, env) ← dens X es env
    .ok (.lst (← opL .ok env as), env)) := by
  first | rfl | (simp only [den])
theorem den_emp {X : Cfg} {env : Env} : den X (.emp) env = (.ok (.dct [] [], env)) := by
  first | rfl | (simp only [den])
theorem den_neg {X : Cfg} {env : Env} {a} : den X (.neg a) env = (do
    let (x, env) ← opn a env (den X a env)
    .ok (← op1 negF env x, env)) := by
  first | rfl | (simp only [den])
theorem den_nt {X : Cfg} {env : Env} {a} : den X (.nt a) env = (do
    let (x, env) ← opn a env (den X a env)
    .ok (.bl (!(← op1 truthy env x)), env)) := by
  first | rfl | (simp only [den])
theorem den_bin {X : Cfg} {env : Env} {o}  {a}  {b} : den X (.bin o a b) env = (do
    let (x, env) ← opn a env (den X a env)
    let (y, env) ← opn b env (den X b env)
    .ok (← op2 (binF o) env x y, env)) := by
  first | rfl | (simp only [den])
theorem den_cmp {X : Cfg} {env : Env} {o}  {a}  {b} : den X (.cmp o a b) env = (do
    let (x, env) ← opn a env (den X a env)
    let (y, env) ← opn b env (den X b env)
    .ok (.bl (← op2 (cmpF o) env x y), env)) := by
  first | rfl | (simp only [den])
theorem den_cmp2 {X : Cfg} {env : Env} {o}  {a}  {b}  {o'}  {c} : den X (.cmp2 o a b o' c) env = (do
    let (x, env) ← opn a env (den X a env)
    let (y, env) ← opn b env (den X b env)
    if ← op2 (cmpF o) env x y then do
      let (z, env) ← opn c env (den X c env)
      .ok (.bl (← op2 (cmpF o') env y z), env)
    else .ok (.bl false, env)) := by
  first | rfl | (simp only [den])
theorem den_and {X : Cfg} {env : Env} {a}  {b} : den X (.and a b) env = (do
    let (x, env) ← den X a env
    if ← noX (truthy x) then den X b env else .ok (x, env)) := by
  first | rfl | (simp only [den])
theorem den_or {X : Cfg} {env : Env} {a}  {b} : den X (.or a b) env = (do
    let (x, env) ← den X a env
    if ← noX (truthy x) then .ok (x, env) else den X b env) := by
  first | rfl | (simp only [den])
theorem den_ife {X : Cfg} {env : Env} {t}  {a}  {b} : den X (.ife t a b) env = (do
    let (x, env) ← opn t env (den X t env)
    if ← op1 truthy env x then den X a env else den X b env) := by
  first | rfl | (simp only [den])
theorem den_ix {X : Cfg} {env : Env} {a}  {i} : den X (.ix a i) env = (do
    let (x, env) ← opn a env (den X a env)
    let (y, env) ← opn i env (den X i env)
    .ok (← op2 ixF env x y, env)) := by
  first | rfl | (simp only [den])
theorem den_sl {X : Cfg} {env : Env} {a}  {lo}  {hi} : den X (.sl a lo hi) env = (do
    let (x, env) ← opn a env (den X a env)
    let (l, env) ← den X lo env
    let l ← noX (ioF (isNonC lo) l)
    let (h, env) ← den X hi env
    let h ← noX (ioF (isNonC hi) h)
    .ok (← op1 (slO l h) env x, env)) := by
  first | rfl | (simp only [den])
theorem den_call {X : Cfg} {env : Env} {f}  {es} : den X (.call f es) env = (do
    let (as, env) ← dens X es env
    let ss ← noX (slotsOf env (X.br f) as)
    let (d, outs) ← X.cl f ss
    .ok (d, back env as outs)) := by
  first | rfl | (simp only [den])
theorem den_bi {X : Cfg} {env : Env} {f}  {es} : den X (.bi f es) env = (do
    let (as, env) ← dens X es env
    .ok (← opL (biF f) env as, env)) := by
  first | rfl | (simp only [den])
theorem den_sst {X : Cfg} {env : Env} {a} : den X (.sst a) env = (do
    let (x, env) ← opn a env (den X a env)
    .ok (.lst (← op1 sstF env x), env)) := by
  first | rfl | (simp only [den])
theorem den_lse {X : Cfg} {env : Env} {a} : den X (.lse a) env = (do
    let (x, env) ← opn a env (den X a env)
    .ok (.int (← op1 lseF env x), env)) := by
  first | rfl | (simp only [den])
theorem den_popAt {X : Cfg} {env : Env} {i} {e} : den X (.popAt i e) env = (do
    let _ ← noX (ownL env i)
    let (k, env) ← den X e env
    noX (popAtF env i k)) := by
  first | rfl | (simp only [den])
theorem den_slk {X : Cfg} {env : Env} {a} {k} : den X (.slk a k) env = (do
    let (x, env) ← opn a env (den X a env)
    .ok (← op1 (fun x => slK x k) env x, env)) := by
  first | rfl | (simp only [den])
theorem den_lrg {X : Cfg} {env : Env} {es} : den X (.lrg es) env = (do
    let (as, env) ← dens X es env
    .ok (.lst (← opL rgF env as), env)) := by
  first | rfl | (simp only [den])
theorem den_meth {X : Cfg} {env : Env} {m}  {a}  {es} : den X (.meth m a es) env = (do
    let (x, env) ← opn a env (den X a env)
    let _ ← op1 (mtTy m) env x
    let (as, env) ← dens X es env
    .ok (← opL (mtF m) env (x :: as), env)) := by
  first | rfl | (simp only [den])
theorem den_pop {X : Cfg} {env : Env} {i} : den X (.pop i) env = (noX (popF env i)) := by
  first | rfl | (simp only [den])
theorem exe_asg {X : Cfg} {env : Env} {t}  {e} : exe X (.asg t e) env = (do
    let (d, env) ← den X e env
    .ok (.next, ← noX (asgT t d env))) := by
  first | rfl | (simp only [exe])
theorem exe_own {X : Cfg} {env : Env} {i}  {e} : exe X (.own i e) env = (do
    let (d, env) ← den X e env
    .ok (.next, ← noX (setS env i true d))) := by
  first | rfl | (simp only [exe])
theorem exe_two {X : Cfg} {env : Env} {i}  {j}  {oi}  {oj}  {a}  {b} : exe X (.two i j oi oj a b) env = (do
    let (x, env) ← den X a env
    let (y, env) ← den X b env
    let env ← noX (setS env i oi x)
    .ok (.next, ← noX (setS env j oj y))) := by
  first | rfl | (simp only [exe])
theorem exe_three {X : Cfg} {env : Env} {i}  {j}  {k}  {oi}  {oj}  {ok}  {a}  {b}  {c} : exe X (.three i j k oi oj ok a b c) env = (do
    let (x, env) ← den X a env
    let (y, env) ← den X b env
    let (z, env) ← den X c env
    let env ← noX (setS env i oi x)
    let env ← noX (setS env j oj y)
    .ok (.next, ← noX (setS env k ok z))) := by
  first | rfl | (simp only [exe])
theorem exe_aug {X : Cfg} {env : Env} {i}  {o}  {e} : exe X (.aug i o e) env = (do
    let x ← noX (peek env i)
    let (y, env) ← den X e env
    let z ← noX (augF o x y)
    .ok (.next, ← noX (setS env i false z))) := by
  first | rfl | (simp only [exe])
theorem exe_augL {X : Cfg} {env : Env} {i}  {e} : exe X (.augL i e) env = (do
    let _ ← noX (ownL env i)
    let (y, env) ← den X e env
    .ok (.next, ← noX (augLF env i y))) := by
  first | rfl | (simp only [exe])
theorem exe_put {X : Cfg} {env : Env} {i}  {k}  {v} : exe X (.put i k v) env = (do
    let (v, env) ← den X v env
    let _ ← noX (ownD env i)
    let (k, env) ← den X k env
    .ok (.next, ← noX (putF env i k v))) := by
  first | rfl | (simp only [exe])
theorem exe_app {X : Cfg} {env : Env} {i}  {e} : exe X (.app i e) env = (do
    let _ ← noX (ownL env i)
    let (v, env) ← den X e env
    .ok (.next, ← noX (appF env i v))) := by
  first | rfl | (simp only [exe])
theorem exe_ex {X : Cfg} {env : Env} {e} : exe X (.ex e) env = (do
    let (_, env) ← den X e env
    .ok (.next, env)) := by
  first | rfl | (simp only [exe])
theorem exe_ife {X : Cfg} {env : Env} {c}  {a}  {b} : exe X (.ife c a b) env = (do
    let (x, env) ← deno X c env
    if ← op1 truthy env x then exes X a env else exes X b env) := by
  first | rfl | (simp only [exe])
theorem exe_ret {X : Cfg} {env : Env} {e} : exe X (.ret e) env = (do
    let (d, env) ← den X e env
    .ok (.ret d, env)) := by
  first | rfl | (simp only [exe])
theorem exe_retN {X : Cfg} {env : Env} : exe X (.retN) env = (.ok (.ret .non, env)) := by
  first | rfl | (simp only [exe])
theorem exe_brk {X : Cfg} {env : Env} : exe X (.brk) env = (.ok (.brk, env)) := by
  first | rfl | (simp only [exe])
theorem exe_cont {X : Cfg} {env : Env} : exe X (.cont) env = (.ok (.cont, env)) := by
  first | rfl | (simp only [exe])
theorem exe_pas {X : Cfg} {env : Env} : exe X (.pas) env = (.ok (.next, env)) := by
  first | rfl | (simp only [exe])
theorem exes_nil {X : Cfg} {env : Env} : exes X .nil env = .ok (.next, env) := by simp only [exes]
theorem exes_cons {X : Cfg} {env : Env} {s : S} {r : Ss} : exes X (.cons s r) env = (exe X s env >>= fun p => match p.1 with
    | .next => exes X r p.2
    | w => .ok (w, p.2)) := by
  simp only [exes] <;> rfl
theorem cfg_cl {P : List Fn} {W : Nat} {c : CallT} : (cfgN P W c).cl = c := rfl
theorem cfg_br {P : List Fn} {W : Nat} {c : CallT} {f : Nat} : (cfgN P W c).br f = match P[f]? with | some fn => fn.br | none => [] := rfl
theorem callN_at {P : List Fn} {W n i : Nat} {f : Fn} {ss : List Slot} (h : P[i]? = some f) (hl : ss.length = f.br.length ∧ brOk f.br ss = true) : callN P W (n + 1) i ss = (exes (cfgN P W (callN P W n)) f.body (ss ++ List.replicate (f.n - ss.length) .nil) >>= fun p => match p.1 with
    | .ret d => .ok (d, outs f.br p.2)
    | .next => if f.nw then stk else .ok (.non, outs f.br p.2)
    | _ => stk) := by
  unfold callN
  rw [h]
  simp only
  rw [if_pos hl] <;> rfl
def itemP (C : Cfg) (own : List Nat) (t : T) (ifs : Es) (e : E) (x : D) (env : Env) : M (List D × Env) := noX (asgT t x (wipe env own)) >>= fun env => denIfs C ifs env >>= fun p => if p.1 = true then (den C e p.2 >>= fun q => .ok ([q.1], q.2)) else .ok ([], p.2)
theorem den_compP {C : Cfg} {own : List Nat} {t : T} {it : It} {ifs : Es} {e : E} {env : Env} : den C (.comp own t it ifs e) env = (deni C it env >>= fun p => noX (compL (itemP C own t ifs e) p.1 (wipe p.2 (hide it))) >>= fun q => .ok (.lst q.1, unwipe p.2 q.2 (own ++ hide it))) := by
  simp only [den]
  rfl
theorem compL_map {α : Type} (f : D → Env → M (List D × Env)) (g : α → List D) (h : α → D) (I : Env → Prop) : ∀ (xs : List α), (∀ x ∈ xs, ∀ env, I env → ∃ env', f (h x) env = .ok (g x, env') ∧ I env') → ∀ env, I env → ∃ env', compL f (xs.map h) env = .ok ((xs.map g).flatten, env') ∧ I env'
  | [], _, env, hi => ⟨env, rfl, hi⟩
  | x :: r, hf, env, hi => by
    obtain ⟨e1, h1, i1⟩ := hf x List.mem_cons_self env hi
    obtain ⟨e2, h2, i2⟩ := compL_map f g h I r (fun y hy => hf y (List.mem_cons_of_mem _ hy)) e1 i1
    refine ⟨e2, ?_, i2⟩
    show (f (h x) env >>= fun p => compL f (r.map h) p.2 >>= fun q => .ok (p.1 ++ q.1, q.2)) = _
    rw [h1]
    show (compL f (r.map h) e1 >>= fun q => .ok (g x ++ q.1, q.2)) = _
    rw [h2]
    rfl
/-- a comprehension whose items are reckoned by themselves -/
theorem comp_map {α : Type} {C : Cfg} {own : List Nat} {t : T} {it : It} {ifs : Es} {e : E} {env : Env} (xs : List α) (h : α → D) (g : α → List D) (I : Env → Prop) (hit : deni C it env = .ok (xs.map h, env)) (hI : I (wipe env (hide it)))
    (hf : ∀ x ∈ xs, ∀ ev, I ev → ∃ ev', itemP C own t ifs e (h x) ev = .ok (g x, ev') ∧ I ev') (hu : ∀ ev, I ev → unwipe env ev (own ++ hide it) = env) : den C (.comp own t it ifs e) env = .ok (.lst (xs.map g).flatten, env) := by
  obtain ⟨ev, h1, h2⟩ := compL_map (itemP C own t ifs e) g h I xs hf _ hI
  rw [den_compP, hit]
  show (noX (compL (itemP C own t ifs e) (xs.map h) (wipe env (hide it))) >>= fun q => .ok (D.lst q.1, unwipe env q.2 (own ++ hide it))) = _
  rw [h1]
  show (.ok (D.lst (xs.map g).flatten, unwipe env ev (own ++ hide it)) : M (D × Env)) = _
  rw [hu ev h2]
theorem compL_inv (f : D → Env → M (List D × Env)) (I : Nat → List D → Env → Prop) : ∀ (xs : List D) (k : Nat) (acc : List D) (env : Env), (∀ x ∈ xs, ∀ k acc env, I k acc env → ∃ ys env', f x env = .ok (ys, env') ∧ I (k + 1) (acc ++ ys) env') → I k acc env → ∃ zs env', compL f xs env = .ok (zs, env') ∧ I (k + xs.length) (acc ++ zs) env'
  | [], k, acc, env, _, hi => ⟨[], env, rfl, by rw [List.append_nil]; exact hi⟩
  | x :: r, k, acc, env, hf, hi => by
    obtain ⟨ys, e1, h1, i1⟩ := hf x List.mem_cons_self k acc env hi
    obtain ⟨zs, e2, h2, i2⟩ := compL_inv f I r (k + 1) (acc ++ ys) e1 (fun y hy => hf y (List.mem_cons_of_mem _ hy)) i1
    refine ⟨ys ++ zs, e2, ?_, by rw [← List.append_assoc, List.length_cons, show k + (r.length + 1) = k + 1 + r.length by omega]; exact i2⟩
    show (f x env >>= fun p => compL f r p.2 >>= fun q => .ok (p.1 ++ q.1, q.2)) = _
    rw [h1]
    show (compL f r e1 >>= fun q => .ok (ys ++ q.1, q.2)) = _
    rw [h2]
    rfl
/-- a comprehension whose items change the slots -/
theorem comp_inv {C : Cfg} {own : List Nat} {t : T} {it : It} {ifs : Es} {e : E} {env env1 : Env} (xs : List D) (I : Nat → List D → Env → Prop) (hit : deni C it env = .ok (xs, env1)) (hI : I 0 [] (wipe env1 (hide it)))
    (hf : ∀ x ∈ xs, ∀ k acc ev, I k acc ev → ∃ ys ev', itemP C own t ifs e x ev = .ok (ys, ev') ∧ I (k + 1) (acc ++ ys) ev') : ∃ zs ev, den C (.comp own t it ifs e) env = .ok (.lst zs, unwipe env1 ev (own ++ hide it)) ∧ I xs.length zs ev := by
  obtain ⟨zs, ev, h1, h2⟩ := compL_inv (itemP C own t ifs e) I xs 0 [] _ hf hI
  refine ⟨zs, ev, ?_, by simpa using h2⟩
  rw [den_compP, hit]
  show (noX (compL (itemP C own t ifs e) xs (wipe env1 (hide it))) >>= fun q => .ok (D.lst q.1, unwipe env1 q.2 (own ++ hide it))) = _
  rw [h1]
  rfl
theorem flat_one {α β : Type} (g : α → β) (xs : List α) : (xs.map fun x => [g x]).flatten = xs.map g := by
  induction xs with
  | nil => rfl
  | cons x r ih => show g x :: (r.map fun x => [g x]).flatten = _; rw [ih]; rfl
theorem flat_if {α β : Type} (p : α → Bool) (g : α → β) (xs : List α) : (xs.map fun x => if p x = true then [g x] else []).flatten = (xs.filter p).map g := by
  induction xs with
  | nil => rfl
  | cons x r ih =>
    show (if p x = true then [g x] else []) ++ (r.map fun x => if p x = true then [g x] else []).flatten = _
    rw [ih, List.filter_cons]
    split <;> rfl
/-- a for loop that runs to its end -/
theorem for_inv {C : Cfg} {t : T} {it : It} {body : Ss} {env env1 : Env} (xs : List D) (I : Nat → Env → Prop) (hit : deni C it env = .ok (xs, env1)) (h0 : I 0 (wipe env1 (hide it)))
    (hs : ∀ i x ev, xs[i]? = some x → I i ev → ∃ ev', (noX (asgT t x ev) >>= fun e => exes C body e) = .ok (.next, ev') ∧ I (i + 1) ev') : ∃ ev, exe C (.for t it body) env = .ok (.next, unwipe env1 ev (hide it)) ∧ I xs.length ev := by
  have main : ∀ (ys : List D) (k : Nat) (ev : Env), xs.drop k = ys → I k ev → ∃ ev', forL (fun x env => do exes C body (← noX (asgT t x env))) ys ev = .ok (.next, ev') ∧ I (k + ys.length) ev' := by
    intro ys
    induction ys with
    | nil => exact fun k ev _ hi => ⟨ev, rfl, hi⟩
    | cons y r ih =>
      intro k ev hd hi
      have hy : xs[k]? = some y := by
        have := congrArg (fun l => l[0]?) hd
        simpa [List.getElem?_drop] using this
      obtain ⟨e1, h1, i1⟩ := hs k y ev hy hi
      obtain ⟨e2, h2, i2⟩ := ih (k + 1) e1 (by rw [← List.drop_drop, hd]; rfl) i1
      refine ⟨e2, ?_, by rw [List.length_cons, show k + (r.length + 1) = k + 1 + r.length by omega]; exact i2⟩
      show ((noX (asgT t y ev) >>= fun e => exes C body e) >>= fun p => match p.1 with | .next => forL _ r p.2 | .cont => forL _ r p.2 | .brk => .ok (.next, p.2) | .ret d => .ok (.ret d, p.2)) = _
      rw [h1]
      exact h2
  obtain ⟨ev, h1, h2⟩ := main xs 0 _ (by simp) h0
  refine ⟨ev, ?_, by simpa using h2⟩
  simp only [exe]
  rw [hit]
  show (forL _ xs (wipe env1 (hide it)) >>= fun p => .ok (p.1, unwipe env1 p.2 (hide it))) = _
  rw [h1]
  rfl
/-- a for loop that returns at the first item of a kind -/
theorem for_find {α : Type} {C : Cfg} {t : T} {it : It} {body : Ss} {env env1 : Env} (xs : List α) (h : α → D) (p : α → Bool) (r : α → D) (I : Env → Prop) (hit : deni C it env = .ok (xs.map h, env1)) (h0 : I (wipe env1 (hide it)))
    (hs : ∀ x ∈ xs, ∀ ev, I ev → ∃ ev', (noX (asgT t (h x) ev) >>= fun e => exes C body e) = .ok (if p x = true then .ret (r x) else .next, ev') ∧ I ev') :
    ∃ ev, exe C (.for t it body) env = .ok ((match xs.find? p with | some x => Flow.ret (r x) | none => .next), unwipe env1 ev (hide it)) ∧ I ev := by
  have main : ∀ (ys : List α) (ev : Env), (∀ x ∈ ys, x ∈ xs) → I ev → ∃ ev', forL (fun x env => do exes C body (← noX (asgT t x env))) (ys.map h) ev = .ok ((match ys.find? p with | some x => Flow.ret (r x) | none => .next), ev') ∧ I ev' := by
    intro ys
    induction ys with
    | nil => exact fun ev _ hi => ⟨ev, rfl, hi⟩
    | cons y ys ih =>
      intro ev hy hi
      obtain ⟨e1, h1, i1⟩ := hs y (hy y List.mem_cons_self) ev hi
      have eq : forL (fun x env => do exes C body (← noX (asgT t x env))) ((y :: ys).map h) ev = ((noX (asgT t (h y) ev) >>= fun e => exes C body e) >>= fun p => match p.1 with | .next => forL (fun x env => do exes C body (← noX (asgT t x env))) (ys.map h) p.2 | .cont => forL (fun x env => do exes C body (← noX (asgT t x env))) (ys.map h) p.2 | .brk => .ok (.next, p.2) | .ret d => .ok (.ret d, p.2)) := rfl
      rw [eq, h1, List.find?_cons]
      cases hp : p y with
      | true => exact ⟨e1, rfl, i1⟩
      | false =>
        obtain ⟨e2, h2, i2⟩ := ih e1 (fun x hx => hy x (List.mem_cons_of_mem _ hx)) i1
        exact ⟨e2, h2, i2⟩
  obtain ⟨ev, h1, h2⟩ := main xs _ (fun _ h => h) h0
  refine ⟨ev, ?_, h2⟩
  simp only [exe]
  rw [hit]
  show (forL _ (xs.map h) (wipe env1 (hide it)) >>= fun p => .ok (p.1, unwipe env1 p.2 (hide it))) = _
  rw [h1]
  rfl
def itemP2 (C : Cfg) (own own1 : List Nat) (t : T) (ifs : Es) (t1 : T) (it1 : It) (ifs1 : Es) (e : E) (x : D) (env : Env) : M (List D × Env) := noX (asgT t x (wipe env own)) >>= fun env => denIfs C ifs env >>= fun p => if p.1 = true then (deni C it1 p.2 >>= fun r => compL (itemP C own1 t1 ifs1 e) r.1 (wipe r.2 (hide it1)) >>= fun s => .ok (s.1, unwipe r.2 s.2 (hide it1))) else .ok ([], p.2)
theorem den_comp2P {C : Cfg} {own own1 : List Nat} {t : T} {it : It} {ifs : Es} {t1 : T} {it1 : It} {ifs1 : Es} {e : E} {env : Env} : den C (.comp2 own own1 t it ifs t1 it1 ifs1 e) env = (deni C it env >>= fun p => noX (compL (itemP2 C own own1 t ifs t1 it1 ifs1 e) p.1 (wipe p.2 (hide it))) >>= fun q => if q.1.length ≤ sz then .ok (.lst q.1, unwipe p.2 q.2 (own ++ hide it)) else stk) := by
  simp only [den]
  rfl
theorem comp2_map {α : Type} {C : Cfg} {own own1 : List Nat} {t : T} {it : It} {ifs : Es} {t1 : T} {it1 : It} {ifs1 : Es} {e : E} {env : Env} (xs : List α) (h : α → D) (g : α → List D) (I : Env → Prop) (hit : deni C it env = .ok (xs.map h, env)) (hI : I (wipe env (hide it)))
    (hf : ∀ x ∈ xs, ∀ ev, I ev → ∃ ev', itemP2 C own own1 t ifs t1 it1 ifs1 e (h x) ev = .ok (g x, ev') ∧ I ev') (hu : ∀ ev, I ev → unwipe env ev (own ++ hide it) = env) (hz : (xs.map g).flatten.length ≤ sz) : den C (.comp2 own own1 t it ifs t1 it1 ifs1 e) env = .ok (.lst (xs.map g).flatten, env) := by
  obtain ⟨ev, h1, h2⟩ := compL_map (itemP2 C own own1 t ifs t1 it1 ifs1 e) g h I xs hf _ hI
  rw [den_comp2P, hit]
  show (noX (compL (itemP2 C own own1 t ifs t1 it1 ifs1 e) (xs.map h) (wipe env (hide it))) >>= fun q => if q.1.length ≤ sz then .ok (D.lst q.1, unwipe env q.2 (own ++ hide it)) else stk) = _
  rw [h1]
  show (if (xs.map g).flatten.length ≤ sz then (.ok (D.lst (xs.map g).flatten, unwipe env ev (own ++ hide it)) : M (D × Env)) else stk) = _
  rw [if_pos hz, hu ev h2]
/-- one item of a comprehension of two clauses -/
theorem item2_map {α : Type} {C : Cfg} {own own1 : List Nat} {t : T} {t1 : T} {it1 : It} {ifs1 : Es} {e : E} {env env2 : Env} {x : D} (ys : List α) (h : α → D) (g : α → List D) (I : Env → Prop) (ha : asgT t x (wipe env own) = .ok env2) (hit : deni C it1 env2 = .ok (ys.map h, env2)) (hh : hide it1 = []) (hI : I env2)
    (hf : ∀ y ∈ ys, ∀ ev, I ev → ∃ ev', itemP C own1 t1 ifs1 e (h y) ev = .ok (g y, ev') ∧ I ev') : ∃ ev, itemP2 C own own1 t .nil t1 it1 ifs1 e x env = .ok ((ys.map g).flatten, ev) ∧ I ev := by
  obtain ⟨ev, h1, h2⟩ := compL_map (itemP C own1 t1 ifs1 e) g h I ys hf _ hI
  refine ⟨ev, ?_, h2⟩
  unfold itemP2
  have e1 : noX (.ok env2 : M Env) = .ok env2 := rfl
  have e2 : denIfs C .nil env2 = .ok (true, env2) := by simp only [denIfs]
  rw [ha, e1]
  show (denIfs C .nil env2 >>= fun p => if p.1 = true then (deni C it1 p.2 >>= fun r => compL (itemP C own1 t1 ifs1 e) r.1 (wipe r.2 (hide it1)) >>= fun s => (.ok (s.1, unwipe r.2 s.2 (hide it1)) : M (List D × Env))) else .ok ([], p.2)) = _
  rw [e2]
  show (deni C it1 env2 >>= fun r => compL (itemP C own1 t1 ifs1 e) r.1 (wipe r.2 (hide it1)) >>= fun s => .ok (s.1, unwipe r.2 s.2 (hide it1))) = _
  rw [hit, hh]
  show (compL (itemP C own1 t1 ifs1 e) (ys.map h) env2 >>= fun s => .ok (s.1, s.2)) = _
  rw [h1]
  rfl
/-- a for loop that returns ahead of its end -/
theorem for_end {C : Cfg} {t : T} {it : It} {body : Ss} {env env1 : Env} (xs : List D) (d : D) (I : Nat → Env → Prop) (J : Env → Prop) (hit : deni C it env = .ok (xs, env1)) (h0 : I 0 (wipe env1 (hide it)))
    (hs : ∀ i x ev, xs[i]? = some x → I i ev → (∃ ev', (noX (asgT t x ev) >>= fun e => exes C body e) = .ok (.next, ev') ∧ I (i + 1) ev') ∨ (∃ ev', (noX (asgT t x ev) >>= fun e => exes C body e) = .ok (.ret d, ev') ∧ J ev')) (hn : ∀ ev, ¬ I xs.length ev) : ∃ ev, exe C (.for t it body) env = .ok (.ret d, unwipe env1 ev (hide it)) ∧ J ev := by
  have main : ∀ (ys : List D) (k : Nat) (ev : Env), xs.drop k = ys → k ≤ xs.length → I k ev → ∃ ev', forL (fun x env => do exes C body (← noX (asgT t x env))) ys ev = .ok (.ret d, ev') ∧ J ev' := by
    intro ys
    induction ys with
    | nil =>
      intro k ev hd hk hi
      have : k = xs.length := by
        have := congrArg List.length hd
        rw [List.length_drop] at this
        simp at this
        omega
      subst this
      exact absurd hi (hn ev)
    | cons y r ih =>
      intro k ev hd hk hi
      have hy : xs[k]? = some y := by
        have := congrArg (fun l => l[0]?) hd
        simpa [List.getElem?_drop] using this
      have hk2 : k + 1 ≤ xs.length := by
        have := (List.getElem?_eq_some_iff.mp hy).1
        omega
      have eq : forL (fun x env => do exes C body (← noX (asgT t x env))) (y :: r) ev = ((noX (asgT t y ev) >>= fun e => exes C body e) >>= fun p => match p.1 with | .next => forL (fun x env => do exes C body (← noX (asgT t x env))) r p.2 | .cont => forL (fun x env => do exes C body (← noX (asgT t x env))) r p.2 | .brk => .ok (.next, p.2) | .ret d => .ok (.ret d, p.2)) := rfl
      rw [eq]
      rcases hs k y ev hy hi with ⟨e1, h1, i1⟩ | ⟨e1, h1, j1⟩
      · obtain ⟨e2, h2, j2⟩ := ih (k + 1) e1 (by rw [← List.drop_drop, hd]; rfl) hk2 i1
        refine ⟨e2, ?_, j2⟩
        rw [h1]
        exact h2
      · refine ⟨e1, ?_, j1⟩
        rw [h1]
        rfl
  obtain ⟨ev, h1, h2⟩ := main xs 0 _ (by simp) (Nat.zero_le _) h0
  refine ⟨ev, ?_, h2⟩
  simp only [exe]
  rw [hit]
  show (forL _ xs (wipe env1 (hide it)) >>= fun p => .ok (p.1, unwipe env1 p.2 (hide it))) = _
  rw [h1]
  rfl
theorem exes_ok {X : Cfg} {env env' : Env} {s : S} {r : Ss} (h : exe X s env = .ok (.next, env')) : exes X (.cons s r) env = exes X r env' := by
  rw [exes_cons, h]
  rfl
theorem exes_ret {X : Cfg} {env env' : Env} {s : S} {r : Ss} {d : D} (h : exe X s env = .ok (.ret d, env')) : exes X (.cons s r) env = .ok (.ret d, env') := by
  rw [exes_cons, h]
  rfl
theorem callN_ret {P : List Fn} {W n i : Nat} {f : Fn} {ss : List Slot} {d : D} {env : Env} (h : P[i]? = some f) (hl : ss.length = f.br.length ∧ brOk f.br ss = true) (hb : exes (cfgN P W (callN P W n)) f.body (ss ++ List.replicate (f.n - ss.length) .nil) = .ok (.ret d, env)) : callN P W (n + 1) i ss = .ok (d, outs f.br env) := by
  rw [callN_at h hl, hb]
  rfl
theorem call_ok {X : Cfg} {f : Nat} {es : Es} {env env' : Env} {as : List Arg} {ss os : List Slot} {d : D} (h1 : dens X es env = .ok (as, env')) (h2 : slotsOf env' (X.br f) as = .ok ss) (h3 : X.cl f ss = .ok (d, os)) : den X (.call f es) env = .ok (d, back env' as os) := by
  rw [den_call, h1]
  simp [bind, Except.bind, h2, h3, noX]
theorem dens_call {X : Cfg} {f : Nat} {es r : Es} {env env' env'' : Env} {d : D} {as : List Arg} (h1 : den X (.call f es) env = .ok (d, env')) (h2 : dens X r env' = .ok (as, env'')) : dens X (.cons (.call f es) r) env = .ok (.v d :: as, env'') := by
  simp only [dens, opn, h1, bind, Except.bind, h2]
theorem tup_ok {X : Cfg} {es : Es} {env env' : Env} {as : List Arg} {ds : List D} (h1 : dens X es env = .ok (as, env')) (h2 : vals env' as = .ok ds) : den X (.tup es) env = .ok (.tup ds, env') := by
  rw [den_tup, h1]
  simp [bind, Except.bind, opL, h2, noX]
theorem asg_ok {X : Cfg} {i : Nat} {e : E} {env env' env'' : Env} {d : D} (h1 : den X e env = .ok (d, env')) (h2 : env'' = env'.set i (.v d)) (h3 : i < env'.length) : exe X (.asg (.n i) e) env = .ok (.next, env'') := by
  rw [exe_asg, h1]
  simp [bind, Except.bind, asgT, noX, h2, h3]
/-- a test -/
def tst (C : Cfg) (c : E) (env : Env) : M (Bool × Env) := deno C c env >>= fun p => op1 truthy p.2 p.1 >>= fun b => .ok (b, p.2)
/-- a while loop, by a measure -/
theorem whl_inv {C : Cfg} {c : E} {body : Ss} (I : Nat → Env → Prop) (J : Env → Prop)
    (hs : ∀ m ev, I m ev → (∃ ev', tst C c ev = .ok (false, ev') ∧ J ev') ∨ ∃ ev1 ev2 m', tst C c ev = .ok (true, ev1) ∧ exes C body ev1 = .ok (.next, ev2) ∧ m' < m ∧ I m' ev2) : ∀ (m : Nat) (env : Env), I m env → m < C.W → ∃ ev, exe C (.whl c body) env = .ok (.next, ev) ∧ J ev := by
  have main : ∀ (w m : Nat) (env : Env), I m env → m < w → ∃ ev, whileN (tst C c) (fun env => exes C body env) w env = .ok (.next, ev) ∧ J ev := by
    intro w
    induction w with
    | zero => exact fun m env _ h => absurd h (Nat.not_lt_zero _)
    | succ w ih =>
      intro m env hi hm
      rcases hs m env hi with ⟨e1, h1, j1⟩ | ⟨e1, e2, m', h1, h2, h3, h4⟩
      · refine ⟨e1, ?_, j1⟩
        show (tst C c env >>= _) = _
        rw [h1]
        rfl
      · obtain ⟨e3, h5, j5⟩ := ih m' e2 h4 (by omega)
        refine ⟨e3, ?_, j5⟩
        show (tst C c env >>= fun p => if p.1 = true then (exes C body p.2 >>= fun q => match q.1 with | .next => whileN _ _ w q.2 | .cont => whileN _ _ w q.2 | .brk => .ok (.next, q.2) | .ret d => .ok (.ret d, q.2)) else .ok (.next, p.2)) = _
        rw [h1]
        show (exes C body e1 >>= _) = _
        rw [h2]
        exact h5
  exact fun m env hi hm => main C.W m env hi hm
end L2.DN

namespace L2.DN
/-- whole [value, low, high] -/
def f0 : Fn := ⟨[false, false, false], false, 3, (.cons (.ret (.and (.bi .isInt (.cons (.v 0) .nil)) (.and (.nt (.bi .isBool (.cons (.v 0) .nil))) (.cmp2 .le (.v 1) (.v 0) .le (.v 2))))) .nil)⟩
/-- tuple_of [value, low, high] -/
def f1 : Fn := ⟨[false, false, false], false, 3, (.cons (.ret (.and (.bi .isTuple (.cons (.v 0) .nil)) (.cmp2 .le (.v 1) (.bi .len (.cons (.v 0) .nil)) .le (.v 2)))) .nil)⟩
/-- s_tile [value, one] -/
def f2 : Fn := ⟨[false], false, 2, (.cons (.ret (.and (.call 1 (.cons (.v 0) (.cons (.c (.int 2)) (.cons (.c (.int 2)) .nil)))) (.and (.bi .all (.cons (.comp [1] (.n 1) (.e (.v 0)) .nil (.call 0 (.cons (.v 1) (.cons (.c (.int 0)) (.cons (.c (.int 6)) .nil))))) .nil)) (.cmp .le (.ix (.v 0) (.c (.int 0))) (.ix (.v 0) (.c (.int 1))))))) .nil)⟩
/-- s_game [value, size, tile, heap] -/
def f3 : Fn := ⟨[false], false, 4, (.cons (.ife (.or (.nt (.call 1 (.cons (.v 0) (.cons (.c (.int 1)) (.cons (.c (.int 4)) .nil))))) (.nt (.bi .all (.cons (.comp [3] (.n 3) (.e (.v 0)) .nil (.call 1 (.cons (.v 3) (.cons (.c (.int 2)) (.cons (.c (.int 2)) .nil))))) .nil)))) (.cons (.ret (.c (.bl false))) .nil) .nil) (.cons (.ife (.nt (.bi .all (.cons (.comp [1,2] (.p (.cons (.n 1) (.cons (.n 2) .nil))) (.e (.v 0)) .nil (.and (.call 0 (.cons (.v 1) (.cons (.c (.int 0)) (.cons (.c (.int 1000000000000000000)) .nil)))) (.call 2 (.cons (.v 2) .nil)))) .nil))) (.cons (.ret (.c (.bl false))) .nil) .nil) (.cons (.ret (.bi .all (.cons (.comp [1,2] (.p (.cons (.n 1) (.cons (.n 2) .nil))) (.e (.v 0)) .nil (.cmp .gt (.ix (.v 2) (.c (.int 1))) (.c (.int 0)))) .nil))) .nil)))⟩
/-- d_game [game] -/
def f4 : Fn := ⟨[false], false, 1, (.cons (.ife (.nt (.call 3 (.cons (.v 0) .nil))) (.cons .nvr .nil) .nil) .nil)⟩
/-- d_tile [tile] -/
def f5 : Fn := ⟨[false], false, 1, (.cons (.ife (.or (.nt (.call 2 (.cons (.v 0) .nil))) (.cmp .eq (.ix (.v 0) (.c (.int 1))) (.c (.int 0)))) (.cons .nvr .nil) .nil) .nil)⟩
/-- es_of [tile, half] -/
def f6 : Fn := ⟨[false], false, 2, (.cons (.ret (.sst (.comp [1] (.n 1) (.e (.v 0)) (.cons (.cmp .gt (.v 1) (.c (.int 0))) .nil) (.v 1)))) .nil)⟩
/-- rse_of [tile, found, known, rows, key, take, own] -/
def f7 : Fn := ⟨[false], false, 7, (.cons (.two 1 2 true true (.lst .nil) .emp) (.cons (.whl (.c (.bl true)) (.cons (.asg (.n 3) (.comp [5] (.n 5) (.e (.call 6 (.cons (.v 0) .nil))) (.cons (.cmp .le (.v 5) (.bi .len (.cons (.b 1) .nil))) .nil) (.ix (.b 1) (.bin .sub (.bi .len (.cons (.b 1) .nil)) (.v 5))))) (.cons (.app 1 (.ix (.comp [6] (.n 6) (.rg (.cons (.bin .add (.bi .len (.cons (.v 3) .nil)) (.c (.int 1))) .nil)) (.cons (.cmp .nin (.v 6) (.v 3)) .nil) (.v 6)) (.c (.int 0)))) (.cons (.asg (.n 4) (.bi .tuple (.cons (.sl (.b 1) (.neg (.c (.int 6))) (.c .non)) .nil))) (.cons (.ife (.and (.cmp .ge (.bi .len (.cons (.b 1) .nil)) (.c (.int 6))) (.cmp .isin (.v 4) (.b 2))) (.cons (.ret (.tup (.cons (.v 1) (.cons (.ix (.b 2) (.v 4)) .nil)))) .nil) .nil) (.cons (.put 2 (.v 4) (.bin .sub (.bi .len (.cons (.b 1) .nil)) (.c (.int 1)))) .nil)))))) .nil))⟩
/-- th_in [tile, size, last, found, again] -/
def f8 : Fn := ⟨[false, false], false, 5, (.cons (.asg (.p (.cons (.n 3) (.cons (.n 4) .nil))) (.call 7 (.cons (.v 0) .nil))) (.cons (.asg (.n 2) (.bin .sub (.bi .len (.cons (.v 3) .nil)) (.c (.int 1)))) (.cons (.ret (.ife (.cmp .le (.v 1) (.v 2)) (.ix (.v 3) (.v 1)) (.ix (.v 3) (.bin .add (.bin .add (.v 4) (.c (.int 1))) (.bin .mod (.bin .sub (.bin .sub (.v 1) (.v 4)) (.c (.int 1))) (.bin .sub (.v 2) (.v 4))))))) .nil)))⟩
/-- ned [one, other, found, step] -/
def f9 : Fn := ⟨[false, false], false, 4, (.cons (.two 2 3 false false (.c (.int 0)) (.c (.int 1))) (.cons (.whl (.or (.cmp .gt (.v 0) (.c (.int 0))) (.cmp .gt (.v 1) (.c (.int 0)))) (.cons (.two 2 3 false false (.bin .add (.v 2) (.bin .mul (.v 3) (.bi .int (.cons (.cmp .ne (.bin .mod (.v 0) (.c (.int 2))) (.bin .mod (.v 1) (.c (.int 2)))) .nil)))) (.bin .mul (.c (.int 2)) (.v 3))) (.cons (.two 0 1 false false (.bin .fdiv (.v 0) (.c (.int 2))) (.bin .fdiv (.v 1) (.c (.int 2)))) .nil))) (.cons (.ret (.v 2)) .nil)))⟩
/-- _in [game, found, size, tile] -/
def f10 : Fn := ⟨[false], false, 4, (.cons (.asg (.n 1) (.c (.int 0))) (.cons (.for (.p (.cons (.n 2) (.cons (.n 3) .nil))) (.e (.v 0)) (.cons (.asg (.n 1) (.call 9 (.cons (.v 1) (.cons (.call 8 (.cons (.v 3) (.cons (.v 2) .nil))) .nil)))) .nil)) (.cons (.ret (.v 1)) .nil)))⟩
/-- th [tile, size] -/
def f11 : Fn := ⟨[false, false], false, 2, (.cons (.ex (.call 5 (.cons (.v 0) .nil))) (.cons (.ife (.nt (.call 0 (.cons (.v 1) (.cons (.c (.int 0)) (.cons (.c (.int 1000000000000000000)) .nil))))) (.cons .nvr .nil) .nil) (.cons (.ret (.call 8 (.cons (.v 0) (.cons (.v 1) .nil)))) .nil)))⟩
/-- es_again [tile, period, begin, found, again] -/
def f12 : Fn := ⟨[false], false, 5, (.cons (.ex (.call 5 (.cons (.v 0) .nil))) (.cons (.asg (.p (.cons (.n 3) (.cons (.n 4) .nil))) (.call 7 (.cons (.v 0) .nil))) (.cons (.asg (.n 1) (.bin .sub (.bin .sub (.bi .len (.cons (.v 3) .nil)) (.c (.int 1))) (.v 4))) (.cons (.asg (.n 2) (.bin .add (.v 4) (.c (.int 1)))) (.cons (.whl (.and (.cmp .gt (.v 2) (.c (.int 0))) (.cmp .eq (.ix (.v 3) (.bin .sub (.v 2) (.c (.int 1)))) (.ix (.v 3) (.bin .add (.bin .sub (.v 2) (.c (.int 1))) (.v 1))))) (.cons (.asg (.n 2) (.bin .sub (.v 2) (.c (.int 1)))) .nil)) (.cons (.ret (.tup (.cons (.v 2) (.cons (.v 1) .nil)))) .nil))))))⟩
/-- le_worth [game] -/
def f13 : Fn := ⟨[false], false, 1, (.cons (.ex (.call 4 (.cons (.v 0) .nil))) (.cons (.ret (.call 10 (.cons (.v 0) .nil))) .nil))⟩
/-- st_wins [game] -/
def f14 : Fn := ⟨[false], false, 1, (.cons (.ex (.call 4 (.cons (.v 0) .nil))) (.cons (.ret (.cmp .ne (.call 10 (.cons (.v 0) .nil)) (.c (.int 0)))) .nil))⟩
/-- _to_lose [game, tile, good, found, again, size, own] -/
def f15 : Fn := ⟨[false, false], false, 7, (.cons (.ex (.call 4 (.cons (.v 0) .nil))) (.cons (.ex (.call 5 (.cons (.v 1) .nil))) (.cons (.asg (.p (.cons (.n 3) (.cons (.n 4) .nil))) (.call 7 (.cons (.v 1) .nil))) (.cons (.asg (.n 2) (.comp [5,6] (.p (.cons (.n 5) (.cons (.n 6) .nil))) (.enm (.v 3)) (.cons (.cmp .eq (.v 6) (.call 10 (.cons (.v 0) .nil))) .nil) (.v 5))) (.cons (.ret (.ife (.cmp .ne (.v 2) (.lst .nil)) (.ix (.v 2) (.c (.int 0))) (.c .non))) .nil)))))⟩
/-- w_cup [script, cell] -/
def f16 : Fn := ⟨[false], true, 2, (.cons (.asg (.n 1) (.bi .abs (.cons (.ix (.bin .add (.bi .list (.cons (.v 0) .nil)) (.lst (.cons (.c (.int 0)) .nil))) (.c (.int 0))) .nil))) (.cons (.ret (.lst (.cons (.ife (.cmp .ge (.v 1) (.bin .pow (.c (.int 10)) (.c (.int 18)))) (.bin .fdiv (.v 1) (.c (.int 79))) (.c (.int 0))) (.cons (.bin .add (.bin .mod (.bi .int (.cons (.bin .add (.bin .mul (.v 1) (.c (.int 313))) (.c (.int 4021))) .nil)) (.c (.int 2077487181))) (.c (.int 163))) .nil)))) .nil))⟩
/-- w_roll [cup, many, deep, found] -/
def f17 : Fn := ⟨[true, false], false, 4, (.cons (.ife (.cmp .gt (.ix (.b 0) (.c (.int 0))) (.c (.int 0))) (.cons (.asg (.n 3) (.bin .mod (.bi .int (.cons (.ix (.b 0) (.c (.int 0))) .nil)) (.v 1))) (.cons (.put 0 (.c (.int 0)) (.bin .fdiv (.ix (.b 0) (.c (.int 0))) (.v 1))) (.cons (.ret (.v 3)) .nil))) .nil) (.cons (.put 0 (.c (.int 1)) (.bin .mod (.bi .int (.cons (.bin .add (.bin .mul (.ix (.b 0) (.c (.int 1))) (.c (.int 30881))) (.c (.int 7879))) .nil)) (.c (.int 2147483399)))) (.cons (.asg (.n 2) (.bin .mod (.bi .int (.cons (.bin .mul (.ix (.b 0) (.c (.int 1))) (.bin .add (.ix (.b 0) (.c (.int 1))) (.c (.int 233)))) .nil)) (.c (.int 2147483563)))) (.cons (.ret (.bin .mod (.bi .int (.cons (.bin .fdiv (.v 2) (.c (.int 821))) .nil)) (.v 1))) .nil))))⟩
/-- w_same [told, due, at] -/
def f18 : Fn := ⟨[false, false], false, 3, (.cons (.ife (.bi .isTuple (.cons (.v 1) .nil)) (.cons (.ife (.or (.nt (.bi .isTuple (.cons (.v 0) .nil))) (.cmp .ne (.bi .len (.cons (.v 0) .nil)) (.bi .len (.cons (.v 1) .nil)))) (.cons (.ret (.c (.bl false))) .nil) .nil) (.cons (.ret (.bi .all (.cons (.comp [2] (.n 2) (.rg (.cons (.bi .len (.cons (.v 1) .nil)) .nil)) .nil (.call 18 (.cons (.ix (.v 0) (.v 2)) (.cons (.ix (.v 1) (.v 2)) .nil)))) .nil))) .nil)) .nil) (.cons (.ife (.cmp .is (.v 1) (.c .non)) (.cons (.ret (.cmp .is (.v 0) (.c .non))) .nil) .nil) (.cons (.ife (.bi .isBool (.cons (.v 1) .nil)) (.cons (.ret (.ife (.v 1) (.cmp .is (.v 0) (.c (.bl true))) (.cmp .is (.v 0) (.c (.bl false))))) .nil) .nil) (.cons (.ife (.bi .isInt (.cons (.v 1) .nil)) (.cons (.ret (.and (.bi .isInt (.cons (.v 0) .nil)) (.and (.nt (.bi .isBool (.cons (.v 0) .nil))) (.cmp .eq (.bi .int (.cons (.v 0) .nil)) (.v 1))))) .nil) .nil) (.cons (.ret (.and (.bi .isStr (.cons (.v 0) .nil)) (.cmp .eq .nvr (.v 1)))) .nil)))))⟩
/-- w_game [cup, heaps, most, found, heap, one, other] -/
def f19 : Fn := ⟨[true, false, false], false, 7, (.cons (.asg (.n 3) (.tup .nil)) (.cons (.for (.n 4) (.rg (.cons (.bin .add (.c (.int 1)) (.call 17 (.cons (.b 0) (.cons (.v 1) .nil)))) .nil)) (.cons (.two 5 6 false false (.call 17 (.cons (.b 0) (.cons (.c (.int 7)) .nil))) (.bin .add (.c (.int 1)) (.call 17 (.cons (.b 0) (.cons (.c (.int 6)) .nil))))) (.cons (.asg (.n 3) (.bin .add (.v 3) (.tup (.cons (.tup (.cons (.call 17 (.cons (.b 0) (.cons (.bin .add (.v 2) (.c (.int 1))) .nil))) (.cons (.tup (.cons (.bi .min (.cons (.v 5) (.cons (.v 6) .nil))) (.cons (.bi .max (.cons (.v 5) (.cons (.v 6) .nil))) .nil))) .nil))) .nil)))) .nil))) (.cons (.ret (.v 3)) .nil)))⟩
/-- w_worths [tile, many, found, size, rows, take, own] -/
def f20 : Fn := ⟨[false, false], false, 7, (.cons (.own 2 (.lst .nil)) (.cons (.for (.n 3) (.rg (.cons (.bin .add (.v 1) (.c (.int 1))) .nil)) (.cons (.asg (.n 4) (.comp [5] (.n 5) (.e (.sst (.v 0))) (.cons (.cmp2 .lt (.c (.int 0)) (.v 5) .le (.v 3)) .nil) (.ix (.b 2) (.bin .sub (.v 3) (.v 5))))) (.cons (.app 2 (.ix (.comp [6] (.n 6) (.rg (.cons (.c (.int 3)) .nil)) (.cons (.cmp .nin (.v 6) (.v 4)) .nil) (.v 6)) (.c (.int 0)))) .nil))) (.cons (.ret (.v 2)) .nil)))⟩
/-- w_joined [one, other] -/
def f21 : Fn := ⟨[false, false], false, 2, (.cons (.ret (.ix (.ix (.lst (.cons (.lst (.cons (.c (.int 0)) (.cons (.c (.int 1)) (.cons (.c (.int 2)) (.cons (.c (.int 3)) .nil))))) (.cons (.lst (.cons (.c (.int 1)) (.cons (.c (.int 0)) (.cons (.c (.int 3)) (.cons (.c (.int 2)) .nil))))) (.cons (.lst (.cons (.c (.int 2)) (.cons (.c (.int 3)) (.cons (.c (.int 0)) (.cons (.c (.int 1)) .nil))))) (.cons (.lst (.cons (.c (.int 3)) (.cons (.c (.int 2)) (.cons (.c (.int 1)) (.cons (.c (.int 0)) .nil))))) .nil))))) (.v 0)) (.v 1))) .nil)⟩
/--  [script, cup, turn, far, pair, tile, good, told, least, one, other, rows, size, begin, period, game, whole, own, kind, step, at] -/
def f22 : Fn := ⟨[false], false, 21, (.cons (.own 1 (.call 16 (.cons (.v 0) .nil))) (.cons (.for (.n 2) (.rg (.cons (.c (.int 5)) .nil)) (.cons (.two 9 10 false false (.call 17 (.cons (.b 1) (.cons (.c (.int 7)) .nil))) (.bin .add (.c (.int 1)) (.call 17 (.cons (.b 1) (.cons (.c (.int 6)) .nil))))) (.cons (.asg (.n 5) (.tup (.cons (.bi .min (.cons (.v 9) (.cons (.v 10) .nil))) (.cons (.bi .max (.cons (.v 9) (.cons (.v 10) .nil))) .nil)))) (.cons (.two 11 12 false false (.call 20 (.cons (.v 5) (.cons (.c (.int 120)) .nil))) (.call 17 (.cons (.b 1) (.cons (.c (.int 121)) .nil)))) (.cons (.asg (.p (.cons (.n 13) (.cons (.n 14) .nil))) (.call 12 (.cons (.v 5) .nil))) (.cons (.asg (.n 6) (.comp [19] (.n 19) (.rg (.cons (.c (.int 1)) (.cons (.c (.int 40)) .nil))) (.cons (.cmp .eq (.comp [20] (.n 20) (.rg (.cons (.v 13) (.cons (.c (.int 80)) .nil))) (.cons (.cmp .ne (.ix (.v 11) (.v 20)) (.ix (.v 11) (.bin .add (.v 20) (.v 19)))) .nil) (.v 20)) (.lst .nil)) .nil) (.v 19))) (.cons (.ife (.or (.cmp .ne (.v 14) (.ix (.v 6) (.c (.int 0)))) (.and (.cmp .gt (.v 13) (.c (.int 0))) (.cmp .eq (.ix (.v 11) (.bin .sub (.v 13) (.c (.int 1)))) (.ix (.v 11) (.bin .add (.bin .sub (.v 13) (.c (.int 1))) (.v 14)))))) (.cons (.ret (.c (.bl false))) .nil) .nil) (.cons (.asg (.n 3) (.bin .add (.c (.int 120)) (.call 17 (.cons (.b 1) (.cons (.bin .sub (.bin .pow (.c (.int 10)) (.c (.int 18))) (.c (.int 120))) .nil))))) (.cons (.asg (.n 7) (.tup (.cons (.call 11 (.cons (.v 5) (.cons (.v 12) .nil))) (.cons (.call 11 (.cons (.v 5) (.cons (.v 3) .nil))) (.cons (.cmp .lt (.call 11 (.cons (.v 5) (.cons (.bin .sub (.bin .pow (.c (.int 10)) (.c (.int 18))) (.c (.int 1))) .nil))) (.c (.int 3))) .nil))))) (.cons (.ife (.nt (.call 18 (.cons (.v 7) (.cons (.tup (.cons (.ix (.v 11) (.v 12)) (.cons (.ix (.v 11) (.bin .add (.v 13) (.bin .mod (.bi .int (.cons (.bin .sub (.v 3) (.v 13)) .nil)) (.v 14)))) (.cons (.c (.bl true)) .nil)))) .nil)))) (.cons (.ret (.c (.bl false))) .nil) .nil) (.cons (.two 15 16 false false (.call 19 (.cons (.b 1) (.cons (.c (.int 3)) (.cons (.c (.int 100)) .nil)))) (.c (.int 0))) (.cons (.for (.p (.cons (.n 17) (.cons (.n 18) .nil))) (.e (.v 15)) (.cons (.asg (.n 16) (.call 21 (.cons (.v 16) (.cons (.ix (.call 20 (.cons (.v 18) (.cons (.v 17) .nil))) (.v 17)) .nil)))) .nil)) (.cons (.asg (.n 8) (.comp [20] (.n 20) (.rg (.cons (.c (.int 121)) .nil)) (.cons (.cmp .eq (.ix (.v 11) (.v 20)) (.v 16)) .nil) (.v 20))) (.cons (.asg (.n 7) (.tup (.cons (.call 13 (.cons (.v 15) .nil)) (.cons (.call 14 (.cons (.v 15) .nil)) (.cons (.call 15 (.cons (.v 15) (.cons (.v 5) .nil))) .nil))))) (.cons (.ife (.nt (.call 18 (.cons (.v 7) (.cons (.tup (.cons (.v 16) (.cons (.cmp .ne (.v 16) (.c (.int 0))) (.cons (.ife (.cmp .ne (.v 8) (.lst .nil)) (.ix (.v 8) (.c (.int 0))) (.c .non)) .nil)))) .nil)))) (.cons (.ret (.c (.bl false))) .nil) .nil) (.cons (.ife (.and (.cmp .ne (.v 8) (.lst .nil)) (.cmp .isn (.call 14 (.cons (.bin .add (.v 15) (.tup (.cons (.tup (.cons (.ix (.v 8) (.c (.int 0))) (.cons (.v 5) .nil))) .nil))) .nil)) (.c (.bl false)))) (.cons (.ret (.c (.bl false))) .nil) .nil) .nil)))))))))))))))) (.cons (.asg (.n 3) (.call 17 (.cons (.b 1) (.cons (.bin .pow (.c (.int 10)) (.c (.int 18))) .nil)))) (.cons (.asg (.n 4) (.tup (.cons (.tup (.cons (.v 3) (.cons (.tup (.cons (.c (.int 2)) (.cons (.c (.int 5)) .nil))) .nil))) (.cons (.tup (.cons (.v 3) (.cons (.tup (.cons (.c (.int 2)) (.cons (.c (.int 5)) .nil))) .nil))) .nil)))) (.cons (.ret (.call 18 (.cons (.tup (.cons (.call 13 (.cons (.v 4) .nil)) (.cons (.call 14 (.cons (.v 4) .nil)) (.cons (.call 15 (.cons (.v 4) (.cons (.tup (.cons (.c (.int 1)) (.cons (.c (.int 1)) .nil))) .nil))) (.cons (.call 12 (.cons (.tup (.cons (.c (.int 1)) (.cons (.c (.int 1)) .nil))) .nil)) (.cons (.call 12 (.cons (.tup (.cons (.c (.int 0)) (.cons (.c (.int 4)) .nil))) .nil)) .nil)))))) (.cons (.tup (.cons (.c (.int 0)) (.cons (.c (.bl false)) (.cons (.c (.int 0)) (.cons (.tup (.cons (.c (.int 0)) (.cons (.c (.int 2)) .nil))) (.cons (.tup (.cons (.c (.int 0)) (.cons (.c (.int 8)) .nil))) .nil)))))) .nil)))) .nil)))))⟩
def FL : List Fn := [f0, f1, f2, f3, f4, f5, f6, f7, f8, f9, f10, f11, f12, f13, f14, f15, f16, f17, f18, f19, f20, f21, f22]
theorem FL0 : FL[0]? = some f0 := rfl
theorem FL1 : FL[1]? = some f1 := rfl
theorem FL2 : FL[2]? = some f2 := rfl
theorem FL3 : FL[3]? = some f3 := rfl
theorem FL4 : FL[4]? = some f4 := rfl
theorem FL5 : FL[5]? = some f5 := rfl
theorem FL6 : FL[6]? = some f6 := rfl
theorem FL7 : FL[7]? = some f7 := rfl
theorem FL8 : FL[8]? = some f8 := rfl
theorem FL9 : FL[9]? = some f9 := rfl
theorem FL10 : FL[10]? = some f10 := rfl
theorem FL11 : FL[11]? = some f11 := rfl
theorem FL12 : FL[12]? = some f12 := rfl
theorem FL13 : FL[13]? = some f13 := rfl
theorem FL14 : FL[14]? = some f14 := rfl
theorem FL15 : FL[15]? = some f15 := rfl
theorem FL16 : FL[16]? = some f16 := rfl
theorem FL17 : FL[17]? = some f17 := rfl
theorem FL18 : FL[18]? = some f18 := rfl
theorem FL19 : FL[19]? = some f19 := rfl
theorem FL20 : FL[20]? = some f20 := rfl
theorem FL21 : FL[21]? = some f21 := rfl
theorem FL22 : FL[22]? = some f22 := rfl
section
variable {W : Nat}
theorem c0 (n : Nat) (v lo hi : Int) : callN FL W (n + 1) 0 [.v (.int v), .v (.int lo), .v (.int hi)] = .ok (.bl (decide (lo ≤ v) && decide (v ≤ hi)), [.nil, .nil, .nil]) := by
  rw [callN_at FL0 ⟨rfl, rfl⟩]
  by_cases h : lo ≤ v <;> simp [den_c, den_v, den_tup, den_lst, den_emp, den_neg, den_nt, den_bin, den_cmp, den_cmp2, den_and, den_or, den_ife, den_ix, den_sl, den_call, den_bi, den_meth, den_lrg, den_sst, den_slk, den_pop, den_lse, den_popAt, exe_asg, exe_own, exe_two, exe_three, exe_aug, exe_put, exe_app, exe_ex, exe_ife, exe_ret, exe_retN, exe_brk, exe_cont, exe_pas, exes_nil, exes_cons, cfg_cl, cfg_br, deno, opn, dens, denIfs, opL, op1, op2, vals, val, peek, noX, rd, biF, isD, cmpF, binF, truthy, outs, bind, Except.bind, slotsOf, slotOf, ixF, place, negF, back, asgT, asgTs, setS, gtD, isF, ioF, isNonC, slO, f0, h]
theorem c1 (n : Nat) (xs : List D) (lo hi : Int) : callN FL W (n + 1) 1 [.v (.tup xs), .v (.int lo), .v (.int hi)] = .ok (.bl (decide (lo ≤ xs.length) && decide ((xs.length : Int) ≤ hi)), [.nil, .nil, .nil]) := by
  rw [callN_at FL1 ⟨rfl, rfl⟩]
  by_cases h : lo ≤ xs.length <;> simp [den_c, den_v, den_tup, den_lst, den_emp, den_neg, den_nt, den_bin, den_cmp, den_cmp2, den_and, den_or, den_ife, den_ix, den_sl, den_call, den_bi, den_meth, den_lrg, den_sst, den_slk, den_pop, den_lse, den_popAt, exe_asg, exe_own, exe_two, exe_three, exe_aug, exe_put, exe_app, exe_ex, exe_ife, exe_ret, exe_retN, exe_brk, exe_cont, exe_pas, exes_nil, exes_cons, cfg_cl, cfg_br, deno, opn, dens, denIfs, opL, op1, op2, vals, val, peek, noX, rd, biF, isD, cmpF, binF, truthy, outs, bind, Except.bind, slotsOf, slotOf, ixF, place, negF, back, asgT, asgTs, setS, gtD, isF, ioF, isNonC, slO, f1, h]
theorem c1' (n : Nat) (xs : List D) (lo hi : Int) (h1 : lo ≤ xs.length) (h2 : (xs.length : Int) ≤ hi) : callN FL W (n + 1) 1 [.v (.tup xs), .v (.int lo), .v (.int hi)] = .ok (.bl true, [.nil, .nil, .nil]) := by
  rw [c1, decide_eq_true h1, decide_eq_true h2]
  rfl
theorem allB_map {α : Type} (p : α → Bool) : ∀ xs : List α, allB (xs.map fun x => .bl (p x)) = .ok (xs.all p)
  | [] => rfl
  | x :: r => by
    show (allB (r.map fun x => .bl (p x)) >>= fun s => .ok (p x && s)) = _
    rw [allB_map p r]
    rfl
theorem anyB_map {α : Type} (p : α → Bool) : ∀ xs : List α, anyB (xs.map fun x => .bl (p x)) = .ok (xs.any p)
  | [] => rfl
  | x :: r => by
    show (anyB (r.map fun x => .bl (p x)) >>= fun s => .ok (p x || s)) = _
    rw [anyB_map p r]
    rfl
theorem sumI_map {α : Type} (f : α → Int) : ∀ xs : List α, sumI (xs.map fun x => .int (f x)) = .ok (xs.map f).sum
  | [] => rfl
  | x :: r => by
    show (sumI (r.map fun x => .int (f x)) >>= fun s => .ok (f x + s)) = _
    rw [sumI_map f r]
    rfl
abbrev Ti := Int × Int
def tl (h : List Ti) : D := .tup (h.map prD)
def okT (t : Ti) : Prop := 0 ≤ t.1 ∧ t.1 ≤ t.2 ∧ t.2 ≤ 6
theorem lt_pr (p q : Ti) : ltD (prD p) (prD q) = .ok (lexP p q) := by
  obtain ⟨a, b⟩ := p
  obtain ⟨c, d⟩ := q
  have e1 : eqF 39 (.int a) (.int c) = some (decide (a = c)) := rfl
  have e2 : eqF 39 (.int b) (.int d) = some (decide (b = d)) := rfl
  have e3 : ltF 39 (.int a) (.int c) = some (decide (a < c)) := rfl
  have e4 : ltF 39 (.int b) (.int d) = some (decide (b < d)) := rfl
  have e5 : ltF dep (prD (a, b)) (prD (c, d)) = lts (eqF 39) (ltF 39) [.int a, .int b] [.int c, .int d] := rfl
  have e6 : lts (eqF 39) (ltF 39) [.int a, .int b] [.int c, .int d] = some (lexP (a, b) (c, d)) := by
    simp only [lts, e1, e2, e3, e4, lexP]
    by_cases h1 : a = c
    · subst h1
      by_cases h2 : b = d <;> simp [h2]
    · by_cases h2 : b = d <;> simp [h1, h2]
  unfold ltD
  rw [e5, e6]
theorem eq_pr (p q : Ti) : eqD (prD p) (prD q) = .ok (decide (p = q)) := by
  obtain ⟨a, b⟩ := p
  obtain ⟨c, d⟩ := q
  have e1 : eqF 39 (.int a) (.int c) = some (decide (a = c)) := rfl
  have e2 : eqF 39 (.int b) (.int d) = some (decide (b = d)) := rfl
  have e5 : eqF dep (prD (a, b)) (prD (c, d)) = eqs (eqF 39) [.int a, .int b] [.int c, .int d] := rfl
  have e6 : eqs (eqF 39) [.int a, .int b] [.int c, .int d] = some (decide ((a, b) = (c, d))) := by
    simp only [eqs, e1, e2]
    by_cases h1 : a = c <;> by_cases h2 : b = d <;> simp [h1, h2]
  unfold eqD
  rw [e5, e6]
theorem inL_pr (t : Ti) : ∀ h : List Ti, inL (prD t) (h.map prD) = .ok (decide (t ∈ h))
  | [] => rfl
  | y :: h => by
    show (eqD (prD y) (prD t) >>= fun e => inL (prD t) (h.map prD) >>= fun r => .ok (e || r)) = _
    rw [eq_pr, inL_pr t h]
    show Except.ok (decide (y = t) || decide (t ∈ h)) = _
    congr 1
    rw [Bool.eq_iff_iff]
    simp only [Bool.or_eq_true, decide_eq_true_eq, List.mem_cons]
    exact ⟨fun h => h.imp Eq.symm id, fun h => h.imp Eq.symm id⟩
theorem ix_pr0 (t : Ti) : ixF (prD t) (.int 0) = .ok (.int t.1) := by simp [prD, ixF, place]
theorem ix_pr1 (t : Ti) : ixF (prD t) (.int 1) = .ok (.int t.2) := by simp [prD, ixF, place]
def mn (x y : Int) : Int := if y < x then y else x
def mxx (x y : Int) : Int := if y > x then y else x
theorem mn_comm (x y : Int) : mn x y = mn y x := by unfold mn; split <;> split <;> omega
theorem mxx_comm (x y : Int) : mxx x y = mxx y x := by unfold mxx; split <;> split <;> omega
theorem bi_mn (x y : Int) : biF .min [.int x, .int y] = .ok (.int (mn x y)) := rfl
theorem bi_mx (x y : Int) : biF .max [.int x, .int y] = .ok (.int (mxx x y)) := rfl
def bodyOf : S → Ss
  | .for _ _ b => b
  | _ => .nil
def nthS : Nat → Ss → S
  | 0, .cons s _ => s
  | n + 1, .cons _ r => nthS n r
  | _, .nil => .nvr
/-! worths -/
def mex (rows : List Int) : Int := if 0 ∈ rows then (if 1 ∈ rows then 2 else 1) else 0
def tkT (t : Ti) : List Int := (srtU [t.1, t.2]).filter fun k => decide (0 < k)
def rowsOf (tk f : List Int) : List Int := (tk.filter fun k => decide (k ≤ (f.length : Int))).map fun k => f.getD ((f.length : Int) - k).toNat 0
def gr (tk : List Int) : Nat → List Int
  | 0 => []
  | n + 1 => gr tk n ++ [mex (rowsOf tk (gr tk n))]
structure Row where
  t : Ti
  G : List Int
  N : Nat
  ag : Int
  bg : Int
  pd : Int
def gA (G : List Int) (i : Int) : Int := G.getD i.toNat 0
def wv (r : Row) (s : Int) : Int := if s ≤ (r.N : Int) - 1 then gA r.G s else gA r.G (r.ag + 1 + (s - r.ag - 1) % ((r.N : Int) - 1 - r.ag))
def iv (a b : Int) : List Int := (List.range (b - a).toNat).map fun i : Nat => a + (i : Int)
def badsOf (r : Row) (s : Int) : List Int := (iv r.bg 80).filter fun i => decide (gA r.G i ≠ gA r.G (i + s))
def goodOf (r : Row) : List Int := (iv 1 40).filter fun s => (badsOf r s).isEmpty
def atOf (G : List Int) (w : Int) : List Int := (List.range G.length).filterMap fun i => if G.getD i 0 = w then some (i : Int) else none
def okRow (r : Row) : Bool :=
  decide (gr (tkT r.t) 121 = r.G) && decide (r.G.length = 121) && r.G.all (fun x => decide (0 ≤ x) && decide (x ≤ 2)) && decide (srtU ([r.t.1, r.t.2].filter fun k => decide (0 < k)) = tkT r.t)
  && decide (r.N ≤ 100) && decide (0 ≤ r.ag) && decide (r.ag < (r.N : Int) - 1) && decide (r.pd = (r.N : Int) - 1 - r.ag) && decide (0 ≤ r.bg) && decide (r.bg ≤ r.ag + 1) && decide (r.bg + r.pd ≤ 100)
  && (List.range 121).all (fun s => decide (wv r (s : Int) = gA r.G (s : Int)))
  && (List.range r.pd.toNat).all (fun m => decide (gA r.G (r.ag + 1 + ((m : Int) - r.ag - 1) % r.pd) = gA r.G (r.bg + ((m : Int) - r.bg) % r.pd)))
  && decide ((goodOf r).head? = some r.pd) && (decide (r.bg = 0) || decide (gA r.G (r.bg - 1) ≠ gA r.G (r.bg - 1 + r.pd)))
  && [0, 1, 2, 3].all (fun w => decide ((atOf (r.G.take r.N) w).head? = (atOf r.G w).head?))
def row0 : Row := ⟨(0, 1), [0, 1, 0, 1, 0, 1, 0, 1, 0, 1, 0, 1, 0, 1, 0, 1, 0, 1, 0, 1, 0, 1, 0, 1, 0, 1, 0, 1, 0, 1, 0, 1, 0, 1, 0, 1, 0, 1, 0, 1, 0, 1, 0, 1, 0, 1, 0, 1, 0, 1, 0, 1, 0, 1, 0, 1, 0, 1, 0, 1, 0, 1, 0, 1, 0, 1, 0, 1, 0, 1, 0, 1, 0, 1, 0, 1, 0, 1, 0, 1, 0, 1, 0, 1, 0, 1, 0, 1, 0, 1, 0, 1, 0, 1, 0, 1, 0, 1, 0, 1, 0, 1, 0, 1, 0, 1, 0, 1, 0, 1, 0, 1, 0, 1, 0, 1, 0, 1, 0, 1, 0], 8, 5, 0, 2⟩
def row1 : Row := ⟨(0, 2), [0, 0, 1, 1, 0, 0, 1, 1, 0, 0, 1, 1, 0, 0, 1, 1, 0, 0, 1, 1, 0, 0, 1, 1, 0, 0, 1, 1, 0, 0, 1, 1, 0, 0, 1, 1, 0, 0, 1, 1, 0, 0, 1, 1, 0, 0, 1, 1, 0, 0, 1, 1, 0, 0, 1, 1, 0, 0, 1, 1, 0, 0, 1, 1, 0, 0, 1, 1, 0, 0, 1, 1, 0, 0, 1, 1, 0, 0, 1, 1, 0, 0, 1, 1, 0, 0, 1, 1, 0, 0, 1, 1, 0, 0, 1, 1, 0, 0, 1, 1, 0, 0, 1, 1, 0, 0, 1, 1, 0, 0, 1, 1, 0, 0, 1, 1, 0, 0, 1, 1, 0], 10, 5, 0, 4⟩
def row2 : Row := ⟨(0, 3), [0, 0, 0, 1, 1, 1, 0, 0, 0, 1, 1, 1, 0, 0, 0, 1, 1, 1, 0, 0, 0, 1, 1, 1, 0, 0, 0, 1, 1, 1, 0, 0, 0, 1, 1, 1, 0, 0, 0, 1, 1, 1, 0, 0, 0, 1, 1, 1, 0, 0, 0, 1, 1, 1, 0, 0, 0, 1, 1, 1, 0, 0, 0, 1, 1, 1, 0, 0, 0, 1, 1, 1, 0, 0, 0, 1, 1, 1, 0, 0, 0, 1, 1, 1, 0, 0, 0, 1, 1, 1, 0, 0, 0, 1, 1, 1, 0, 0, 0, 1, 1, 1, 0, 0, 0, 1, 1, 1, 0, 0, 0, 1, 1, 1, 0, 0, 0, 1, 1, 1, 0], 12, 5, 0, 6⟩
def row3 : Row := ⟨(0, 4), [0, 0, 0, 0, 1, 1, 1, 1, 0, 0, 0, 0, 1, 1, 1, 1, 0, 0, 0, 0, 1, 1, 1, 1, 0, 0, 0, 0, 1, 1, 1, 1, 0, 0, 0, 0, 1, 1, 1, 1, 0, 0, 0, 0, 1, 1, 1, 1, 0, 0, 0, 0, 1, 1, 1, 1, 0, 0, 0, 0, 1, 1, 1, 1, 0, 0, 0, 0, 1, 1, 1, 1, 0, 0, 0, 0, 1, 1, 1, 1, 0, 0, 0, 0, 1, 1, 1, 1, 0, 0, 0, 0, 1, 1, 1, 1, 0, 0, 0, 0, 1, 1, 1, 1, 0, 0, 0, 0, 1, 1, 1, 1, 0, 0, 0, 0, 1, 1, 1, 1, 0], 14, 5, 0, 8⟩
def row4 : Row := ⟨(0, 5), [0, 0, 0, 0, 0, 1, 1, 1, 1, 1, 0, 0, 0, 0, 0, 1, 1, 1, 1, 1, 0, 0, 0, 0, 0, 1, 1, 1, 1, 1, 0, 0, 0, 0, 0, 1, 1, 1, 1, 1, 0, 0, 0, 0, 0, 1, 1, 1, 1, 1, 0, 0, 0, 0, 0, 1, 1, 1, 1, 1, 0, 0, 0, 0, 0, 1, 1, 1, 1, 1, 0, 0, 0, 0, 0, 1, 1, 1, 1, 1, 0, 0, 0, 0, 0, 1, 1, 1, 1, 1, 0, 0, 0, 0, 0, 1, 1, 1, 1, 1, 0, 0, 0, 0, 0, 1, 1, 1, 1, 1, 0, 0, 0, 0, 0, 1, 1, 1, 1, 1, 0], 16, 5, 0, 10⟩
def row5 : Row := ⟨(0, 6), [0, 0, 0, 0, 0, 0, 1, 1, 1, 1, 1, 1, 0, 0, 0, 0, 0, 0, 1, 1, 1, 1, 1, 1, 0, 0, 0, 0, 0, 0, 1, 1, 1, 1, 1, 1, 0, 0, 0, 0, 0, 0, 1, 1, 1, 1, 1, 1, 0, 0, 0, 0, 0, 0, 1, 1, 1, 1, 1, 1, 0, 0, 0, 0, 0, 0, 1, 1, 1, 1, 1, 1, 0, 0, 0, 0, 0, 0, 1, 1, 1, 1, 1, 1, 0, 0, 0, 0, 0, 0, 1, 1, 1, 1, 1, 1, 0, 0, 0, 0, 0, 0, 1, 1, 1, 1, 1, 1, 0, 0, 0, 0, 0, 0, 1, 1, 1, 1, 1, 1, 0], 18, 5, 0, 12⟩
def row6 : Row := ⟨(1, 1), [0, 1, 0, 1, 0, 1, 0, 1, 0, 1, 0, 1, 0, 1, 0, 1, 0, 1, 0, 1, 0, 1, 0, 1, 0, 1, 0, 1, 0, 1, 0, 1, 0, 1, 0, 1, 0, 1, 0, 1, 0, 1, 0, 1, 0, 1, 0, 1, 0, 1, 0, 1, 0, 1, 0, 1, 0, 1, 0, 1, 0, 1, 0, 1, 0, 1, 0, 1, 0, 1, 0, 1, 0, 1, 0, 1, 0, 1, 0, 1, 0, 1, 0, 1, 0, 1, 0, 1, 0, 1, 0, 1, 0, 1, 0, 1, 0, 1, 0, 1, 0, 1, 0, 1, 0, 1, 0, 1, 0, 1, 0, 1, 0, 1, 0, 1, 0, 1, 0, 1, 0], 8, 5, 0, 2⟩
def row7 : Row := ⟨(1, 2), [0, 1, 2, 0, 1, 2, 0, 1, 2, 0, 1, 2, 0, 1, 2, 0, 1, 2, 0, 1, 2, 0, 1, 2, 0, 1, 2, 0, 1, 2, 0, 1, 2, 0, 1, 2, 0, 1, 2, 0, 1, 2, 0, 1, 2, 0, 1, 2, 0, 1, 2, 0, 1, 2, 0, 1, 2, 0, 1, 2, 0, 1, 2, 0, 1, 2, 0, 1, 2, 0, 1, 2, 0, 1, 2, 0, 1, 2, 0, 1, 2, 0, 1, 2, 0, 1, 2, 0, 1, 2, 0, 1, 2, 0, 1, 2, 0, 1, 2, 0, 1, 2, 0, 1, 2, 0, 1, 2, 0, 1, 2, 0, 1, 2, 0, 1, 2, 0, 1, 2, 0], 9, 5, 0, 3⟩
def row8 : Row := ⟨(1, 3), [0, 1, 0, 1, 0, 1, 0, 1, 0, 1, 0, 1, 0, 1, 0, 1, 0, 1, 0, 1, 0, 1, 0, 1, 0, 1, 0, 1, 0, 1, 0, 1, 0, 1, 0, 1, 0, 1, 0, 1, 0, 1, 0, 1, 0, 1, 0, 1, 0, 1, 0, 1, 0, 1, 0, 1, 0, 1, 0, 1, 0, 1, 0, 1, 0, 1, 0, 1, 0, 1, 0, 1, 0, 1, 0, 1, 0, 1, 0, 1, 0, 1, 0, 1, 0, 1, 0, 1, 0, 1, 0, 1, 0, 1, 0, 1, 0, 1, 0, 1, 0, 1, 0, 1, 0, 1, 0, 1, 0, 1, 0, 1, 0, 1, 0, 1, 0, 1, 0, 1, 0], 8, 5, 0, 2⟩
def row9 : Row := ⟨(1, 4), [0, 1, 0, 1, 2, 0, 1, 0, 1, 2, 0, 1, 0, 1, 2, 0, 1, 0, 1, 2, 0, 1, 0, 1, 2, 0, 1, 0, 1, 2, 0, 1, 0, 1, 2, 0, 1, 0, 1, 2, 0, 1, 0, 1, 2, 0, 1, 0, 1, 2, 0, 1, 0, 1, 2, 0, 1, 0, 1, 2, 0, 1, 0, 1, 2, 0, 1, 0, 1, 2, 0, 1, 0, 1, 2, 0, 1, 0, 1, 2, 0, 1, 0, 1, 2, 0, 1, 0, 1, 2, 0, 1, 0, 1, 2, 0, 1, 0, 1, 2, 0, 1, 0, 1, 2, 0, 1, 0, 1, 2, 0, 1, 0, 1, 2, 0, 1, 0, 1, 2, 0], 11, 5, 0, 5⟩
def row10 : Row := ⟨(1, 5), [0, 1, 0, 1, 0, 1, 0, 1, 0, 1, 0, 1, 0, 1, 0, 1, 0, 1, 0, 1, 0, 1, 0, 1, 0, 1, 0, 1, 0, 1, 0, 1, 0, 1, 0, 1, 0, 1, 0, 1, 0, 1, 0, 1, 0, 1, 0, 1, 0, 1, 0, 1, 0, 1, 0, 1, 0, 1, 0, 1, 0, 1, 0, 1, 0, 1, 0, 1, 0, 1, 0, 1, 0, 1, 0, 1, 0, 1, 0, 1, 0, 1, 0, 1, 0, 1, 0, 1, 0, 1, 0, 1, 0, 1, 0, 1, 0, 1, 0, 1, 0, 1, 0, 1, 0, 1, 0, 1, 0, 1, 0, 1, 0, 1, 0, 1, 0, 1, 0, 1, 0], 8, 5, 0, 2⟩
def row11 : Row := ⟨(1, 6), [0, 1, 0, 1, 0, 1, 2, 0, 1, 0, 1, 0, 1, 2, 0, 1, 0, 1, 0, 1, 2, 0, 1, 0, 1, 0, 1, 2, 0, 1, 0, 1, 0, 1, 2, 0, 1, 0, 1, 0, 1, 2, 0, 1, 0, 1, 0, 1, 2, 0, 1, 0, 1, 0, 1, 2, 0, 1, 0, 1, 0, 1, 2, 0, 1, 0, 1, 0, 1, 2, 0, 1, 0, 1, 0, 1, 2, 0, 1, 0, 1, 0, 1, 2, 0, 1, 0, 1, 0, 1, 2, 0, 1, 0, 1, 0, 1, 2, 0, 1, 0, 1, 0, 1, 2, 0, 1, 0, 1, 0, 1, 2, 0, 1, 0, 1, 0, 1, 2, 0, 1], 13, 5, 0, 7⟩
def row12 : Row := ⟨(2, 2), [0, 0, 1, 1, 0, 0, 1, 1, 0, 0, 1, 1, 0, 0, 1, 1, 0, 0, 1, 1, 0, 0, 1, 1, 0, 0, 1, 1, 0, 0, 1, 1, 0, 0, 1, 1, 0, 0, 1, 1, 0, 0, 1, 1, 0, 0, 1, 1, 0, 0, 1, 1, 0, 0, 1, 1, 0, 0, 1, 1, 0, 0, 1, 1, 0, 0, 1, 1, 0, 0, 1, 1, 0, 0, 1, 1, 0, 0, 1, 1, 0, 0, 1, 1, 0, 0, 1, 1, 0, 0, 1, 1, 0, 0, 1, 1, 0, 0, 1, 1, 0, 0, 1, 1, 0, 0, 1, 1, 0, 0, 1, 1, 0, 0, 1, 1, 0, 0, 1, 1, 0], 10, 5, 0, 4⟩
def row13 : Row := ⟨(2, 3), [0, 0, 1, 1, 2, 0, 0, 1, 1, 2, 0, 0, 1, 1, 2, 0, 0, 1, 1, 2, 0, 0, 1, 1, 2, 0, 0, 1, 1, 2, 0, 0, 1, 1, 2, 0, 0, 1, 1, 2, 0, 0, 1, 1, 2, 0, 0, 1, 1, 2, 0, 0, 1, 1, 2, 0, 0, 1, 1, 2, 0, 0, 1, 1, 2, 0, 0, 1, 1, 2, 0, 0, 1, 1, 2, 0, 0, 1, 1, 2, 0, 0, 1, 1, 2, 0, 0, 1, 1, 2, 0, 0, 1, 1, 2, 0, 0, 1, 1, 2, 0, 0, 1, 1, 2, 0, 0, 1, 1, 2, 0, 0, 1, 1, 2, 0, 0, 1, 1, 2, 0], 11, 5, 0, 5⟩
def row14 : Row := ⟨(2, 4), [0, 0, 1, 1, 2, 2, 0, 0, 1, 1, 2, 2, 0, 0, 1, 1, 2, 2, 0, 0, 1, 1, 2, 2, 0, 0, 1, 1, 2, 2, 0, 0, 1, 1, 2, 2, 0, 0, 1, 1, 2, 2, 0, 0, 1, 1, 2, 2, 0, 0, 1, 1, 2, 2, 0, 0, 1, 1, 2, 2, 0, 0, 1, 1, 2, 2, 0, 0, 1, 1, 2, 2, 0, 0, 1, 1, 2, 2, 0, 0, 1, 1, 2, 2, 0, 0, 1, 1, 2, 2, 0, 0, 1, 1, 2, 2, 0, 0, 1, 1, 2, 2, 0, 0, 1, 1, 2, 2, 0, 0, 1, 1, 2, 2, 0, 0, 1, 1, 2, 2, 0], 12, 5, 0, 6⟩
def row15 : Row := ⟨(2, 5), [0, 0, 1, 1, 0, 2, 1, 0, 0, 1, 1, 0, 2, 1, 0, 0, 1, 1, 0, 2, 1, 0, 0, 1, 1, 0, 2, 1, 0, 0, 1, 1, 0, 2, 1, 0, 0, 1, 1, 0, 2, 1, 0, 0, 1, 1, 0, 2, 1, 0, 0, 1, 1, 0, 2, 1, 0, 0, 1, 1, 0, 2, 1, 0, 0, 1, 1, 0, 2, 1, 0, 0, 1, 1, 0, 2, 1, 0, 0, 1, 1, 0, 2, 1, 0, 0, 1, 1, 0, 2, 1, 0, 0, 1, 1, 0, 2, 1, 0, 0, 1, 1, 0, 2, 1, 0, 0, 1, 1, 0, 2, 1, 0, 0, 1, 1, 0, 2, 1, 0, 0], 13, 5, 0, 7⟩
def row16 : Row := ⟨(2, 6), [0, 0, 1, 1, 0, 0, 1, 1, 0, 0, 1, 1, 0, 0, 1, 1, 0, 0, 1, 1, 0, 0, 1, 1, 0, 0, 1, 1, 0, 0, 1, 1, 0, 0, 1, 1, 0, 0, 1, 1, 0, 0, 1, 1, 0, 0, 1, 1, 0, 0, 1, 1, 0, 0, 1, 1, 0, 0, 1, 1, 0, 0, 1, 1, 0, 0, 1, 1, 0, 0, 1, 1, 0, 0, 1, 1, 0, 0, 1, 1, 0, 0, 1, 1, 0, 0, 1, 1, 0, 0, 1, 1, 0, 0, 1, 1, 0, 0, 1, 1, 0, 0, 1, 1, 0, 0, 1, 1, 0, 0, 1, 1, 0, 0, 1, 1, 0, 0, 1, 1, 0], 10, 5, 0, 4⟩
def row17 : Row := ⟨(3, 3), [0, 0, 0, 1, 1, 1, 0, 0, 0, 1, 1, 1, 0, 0, 0, 1, 1, 1, 0, 0, 0, 1, 1, 1, 0, 0, 0, 1, 1, 1, 0, 0, 0, 1, 1, 1, 0, 0, 0, 1, 1, 1, 0, 0, 0, 1, 1, 1, 0, 0, 0, 1, 1, 1, 0, 0, 0, 1, 1, 1, 0, 0, 0, 1, 1, 1, 0, 0, 0, 1, 1, 1, 0, 0, 0, 1, 1, 1, 0, 0, 0, 1, 1, 1, 0, 0, 0, 1, 1, 1, 0, 0, 0, 1, 1, 1, 0, 0, 0, 1, 1, 1, 0, 0, 0, 1, 1, 1, 0, 0, 0, 1, 1, 1, 0, 0, 0, 1, 1, 1, 0], 12, 5, 0, 6⟩
def row18 : Row := ⟨(3, 4), [0, 0, 0, 1, 1, 1, 2, 0, 0, 0, 1, 1, 1, 2, 0, 0, 0, 1, 1, 1, 2, 0, 0, 0, 1, 1, 1, 2, 0, 0, 0, 1, 1, 1, 2, 0, 0, 0, 1, 1, 1, 2, 0, 0, 0, 1, 1, 1, 2, 0, 0, 0, 1, 1, 1, 2, 0, 0, 0, 1, 1, 1, 2, 0, 0, 0, 1, 1, 1, 2, 0, 0, 0, 1, 1, 1, 2, 0, 0, 0, 1, 1, 1, 2, 0, 0, 0, 1, 1, 1, 2, 0, 0, 0, 1, 1, 1, 2, 0, 0, 0, 1, 1, 1, 2, 0, 0, 0, 1, 1, 1, 2, 0, 0, 0, 1, 1, 1, 2, 0, 0], 13, 5, 0, 7⟩
def row19 : Row := ⟨(3, 5), [0, 0, 0, 1, 1, 1, 2, 2, 0, 0, 0, 1, 1, 1, 2, 2, 0, 0, 0, 1, 1, 1, 2, 2, 0, 0, 0, 1, 1, 1, 2, 2, 0, 0, 0, 1, 1, 1, 2, 2, 0, 0, 0, 1, 1, 1, 2, 2, 0, 0, 0, 1, 1, 1, 2, 2, 0, 0, 0, 1, 1, 1, 2, 2, 0, 0, 0, 1, 1, 1, 2, 2, 0, 0, 0, 1, 1, 1, 2, 2, 0, 0, 0, 1, 1, 1, 2, 2, 0, 0, 0, 1, 1, 1, 2, 2, 0, 0, 0, 1, 1, 1, 2, 2, 0, 0, 0, 1, 1, 1, 2, 2, 0, 0, 0, 1, 1, 1, 2, 2, 0], 14, 5, 0, 8⟩
def row20 : Row := ⟨(3, 6), [0, 0, 0, 1, 1, 1, 2, 2, 2, 0, 0, 0, 1, 1, 1, 2, 2, 2, 0, 0, 0, 1, 1, 1, 2, 2, 2, 0, 0, 0, 1, 1, 1, 2, 2, 2, 0, 0, 0, 1, 1, 1, 2, 2, 2, 0, 0, 0, 1, 1, 1, 2, 2, 2, 0, 0, 0, 1, 1, 1, 2, 2, 2, 0, 0, 0, 1, 1, 1, 2, 2, 2, 0, 0, 0, 1, 1, 1, 2, 2, 2, 0, 0, 0, 1, 1, 1, 2, 2, 2, 0, 0, 0, 1, 1, 1, 2, 2, 2, 0, 0, 0, 1, 1, 1, 2, 2, 2, 0, 0, 0, 1, 1, 1, 2, 2, 2, 0, 0, 0, 1], 15, 5, 0, 9⟩
def row21 : Row := ⟨(4, 4), [0, 0, 0, 0, 1, 1, 1, 1, 0, 0, 0, 0, 1, 1, 1, 1, 0, 0, 0, 0, 1, 1, 1, 1, 0, 0, 0, 0, 1, 1, 1, 1, 0, 0, 0, 0, 1, 1, 1, 1, 0, 0, 0, 0, 1, 1, 1, 1, 0, 0, 0, 0, 1, 1, 1, 1, 0, 0, 0, 0, 1, 1, 1, 1, 0, 0, 0, 0, 1, 1, 1, 1, 0, 0, 0, 0, 1, 1, 1, 1, 0, 0, 0, 0, 1, 1, 1, 1, 0, 0, 0, 0, 1, 1, 1, 1, 0, 0, 0, 0, 1, 1, 1, 1, 0, 0, 0, 0, 1, 1, 1, 1, 0, 0, 0, 0, 1, 1, 1, 1, 0], 14, 5, 0, 8⟩
def row22 : Row := ⟨(4, 5), [0, 0, 0, 0, 1, 1, 1, 1, 2, 0, 0, 0, 0, 1, 1, 1, 1, 2, 0, 0, 0, 0, 1, 1, 1, 1, 2, 0, 0, 0, 0, 1, 1, 1, 1, 2, 0, 0, 0, 0, 1, 1, 1, 1, 2, 0, 0, 0, 0, 1, 1, 1, 1, 2, 0, 0, 0, 0, 1, 1, 1, 1, 2, 0, 0, 0, 0, 1, 1, 1, 1, 2, 0, 0, 0, 0, 1, 1, 1, 1, 2, 0, 0, 0, 0, 1, 1, 1, 1, 2, 0, 0, 0, 0, 1, 1, 1, 1, 2, 0, 0, 0, 0, 1, 1, 1, 1, 2, 0, 0, 0, 0, 1, 1, 1, 1, 2, 0, 0, 0, 0], 15, 5, 0, 9⟩
def row23 : Row := ⟨(4, 6), [0, 0, 0, 0, 1, 1, 1, 1, 2, 2, 0, 0, 0, 0, 1, 1, 1, 1, 2, 2, 0, 0, 0, 0, 1, 1, 1, 1, 2, 2, 0, 0, 0, 0, 1, 1, 1, 1, 2, 2, 0, 0, 0, 0, 1, 1, 1, 1, 2, 2, 0, 0, 0, 0, 1, 1, 1, 1, 2, 2, 0, 0, 0, 0, 1, 1, 1, 1, 2, 2, 0, 0, 0, 0, 1, 1, 1, 1, 2, 2, 0, 0, 0, 0, 1, 1, 1, 1, 2, 2, 0, 0, 0, 0, 1, 1, 1, 1, 2, 2, 0, 0, 0, 0, 1, 1, 1, 1, 2, 2, 0, 0, 0, 0, 1, 1, 1, 1, 2, 2, 0], 16, 5, 0, 10⟩
def row24 : Row := ⟨(5, 5), [0, 0, 0, 0, 0, 1, 1, 1, 1, 1, 0, 0, 0, 0, 0, 1, 1, 1, 1, 1, 0, 0, 0, 0, 0, 1, 1, 1, 1, 1, 0, 0, 0, 0, 0, 1, 1, 1, 1, 1, 0, 0, 0, 0, 0, 1, 1, 1, 1, 1, 0, 0, 0, 0, 0, 1, 1, 1, 1, 1, 0, 0, 0, 0, 0, 1, 1, 1, 1, 1, 0, 0, 0, 0, 0, 1, 1, 1, 1, 1, 0, 0, 0, 0, 0, 1, 1, 1, 1, 1, 0, 0, 0, 0, 0, 1, 1, 1, 1, 1, 0, 0, 0, 0, 0, 1, 1, 1, 1, 1, 0, 0, 0, 0, 0, 1, 1, 1, 1, 1, 0], 16, 5, 0, 10⟩
def row25 : Row := ⟨(5, 6), [0, 0, 0, 0, 0, 1, 1, 1, 1, 1, 2, 0, 0, 0, 0, 0, 1, 1, 1, 1, 1, 2, 0, 0, 0, 0, 0, 1, 1, 1, 1, 1, 2, 0, 0, 0, 0, 0, 1, 1, 1, 1, 1, 2, 0, 0, 0, 0, 0, 1, 1, 1, 1, 1, 2, 0, 0, 0, 0, 0, 1, 1, 1, 1, 1, 2, 0, 0, 0, 0, 0, 1, 1, 1, 1, 1, 2, 0, 0, 0, 0, 0, 1, 1, 1, 1, 1, 2, 0, 0, 0, 0, 0, 1, 1, 1, 1, 1, 2, 0, 0, 0, 0, 0, 1, 1, 1, 1, 1, 2, 0, 0, 0, 0, 0, 1, 1, 1, 1, 1, 2], 17, 5, 0, 11⟩
def row26 : Row := ⟨(6, 6), [0, 0, 0, 0, 0, 0, 1, 1, 1, 1, 1, 1, 0, 0, 0, 0, 0, 0, 1, 1, 1, 1, 1, 1, 0, 0, 0, 0, 0, 0, 1, 1, 1, 1, 1, 1, 0, 0, 0, 0, 0, 0, 1, 1, 1, 1, 1, 1, 0, 0, 0, 0, 0, 0, 1, 1, 1, 1, 1, 1, 0, 0, 0, 0, 0, 0, 1, 1, 1, 1, 1, 1, 0, 0, 0, 0, 0, 0, 1, 1, 1, 1, 1, 1, 0, 0, 0, 0, 0, 0, 1, 1, 1, 1, 1, 1, 0, 0, 0, 0, 0, 0, 1, 1, 1, 1, 1, 1, 0, 0, 0, 0, 0, 0, 1, 1, 1, 1, 1, 1, 0], 18, 5, 0, 12⟩
def TB : List Row := [row0, row1, row2, row3, row4, row5, row6, row7, row8, row9, row10, row11, row12, row13, row14, row15, row16, row17, row18, row19, row20, row21, row22, row23, row24, row25, row26]
/-! closed runs -/
mutual
def beqD : D → D → Bool
  | .non, .non => true
  | .bl a, .bl b => a == b
  | .int a, .int b => decide (a = b)
  | .tup a, .tup b => beqDs a b
  | .lst a, .lst b => beqDs a b
  | _, _ => false
def beqDs : List D → List D → Bool
  | [], [] => true
  | a :: r, b :: s => beqD a b && beqDs r s
  | _, _ => false
end
mutual
theorem beqD_eq : ∀ (a b : D), beqD a b = true → a = b
  | .non, .non, _ => rfl
  | .bl a, .bl b, h => by
    have h : (a == b) = true := by simpa [beqD] using h
    rw [eq_of_beq h]
  | .int a, .int b, h => by
    have h : decide (a = b) = true := by simpa [beqD] using h
    rw [of_decide_eq_true h]
  | .tup a, .tup b, h => by
    have h : beqDs a b = true := by simpa [beqD] using h
    rw [beqDs_eq a b h]
  | .lst a, .lst b, h => by
    have h : beqDs a b = true := by simpa [beqD] using h
    rw [beqDs_eq a b h]
  | .non, .bl _, h | .non, .int _, h | .non, .str _, h | .non, .tup _, h | .non, .lst _, h | .non, .dct _ _, h | .non, .st _, h | .non, .rng _ _, h | .non, .scr _, h => by simp [beqD] at h
  | .bl _, .non, h | .bl _, .int _, h | .bl _, .str _, h | .bl _, .tup _, h | .bl _, .lst _, h | .bl _, .dct _ _, h | .bl _, .st _, h | .bl _, .rng _ _, h | .bl _, .scr _, h => by simp [beqD] at h
  | .int _, .non, h | .int _, .bl _, h | .int _, .str _, h | .int _, .tup _, h | .int _, .lst _, h | .int _, .dct _ _, h | .int _, .st _, h | .int _, .rng _ _, h | .int _, .scr _, h => by simp [beqD] at h
  | .tup _, .non, h | .tup _, .bl _, h | .tup _, .str _, h | .tup _, .int _, h | .tup _, .lst _, h | .tup _, .dct _ _, h | .tup _, .st _, h | .tup _, .rng _ _, h | .tup _, .scr _, h => by simp [beqD] at h
  | .lst _, .non, h | .lst _, .bl _, h | .lst _, .str _, h | .lst _, .int _, h | .lst _, .tup _, h | .lst _, .dct _ _, h | .lst _, .st _, h | .lst _, .rng _ _, h | .lst _, .scr _, h => by simp [beqD] at h
  | .str _, _, h | .dct _ _, _, h | .st _, _, h | .rng _ _, _, h | .scr _, _, h => by simp [beqD] at h
theorem beqDs_eq : ∀ (a b : List D), beqDs a b = true → a = b
  | [], [], _ => rfl
  | a :: r, b :: s, h => by
    have h : (beqD a b && beqDs r s) = true := by simpa [beqDs] using h
    rw [Bool.and_eq_true] at h
    rw [beqD_eq a b h.1, beqDs_eq r s h.2]
  | [], _ :: _, h => by simp [beqDs] at h
  | _ :: _, [], h => by simp [beqDs] at h
end
def nils : List Slot → Bool
  | [] => true
  | .nil :: r => nils r
  | _ :: _ => false
def resB (r : M (D × List Slot)) (d : D) (k : Nat) : Bool := match r with
  | .ok (x, ss) => beqD x d && nils ss && decide (ss.length = k)
  | .error _ => false
theorem nils_eq : ∀ {ss : List Slot}, nils ss = true → ss = List.replicate ss.length .nil
  | [], _ => rfl
  | .nil :: r, h => by
    have := nils_eq (ss := r) h
    rw [List.length_cons, List.replicate_succ, ← this]
  | .v _ :: _, h => by cases h
  | .o _ :: _, h => by cases h
theorem resB_ok {r : M (D × List Slot)} {d : D} {k : Nat} (h : resB r d k = true) : r = .ok (d, List.replicate k .nil) := by
  unfold resB at h
  split at h
  · rename_i x ss
    simp only [Bool.and_eq_true, decide_eq_true_eq] at h
    obtain ⟨⟨h1, h2⟩, h3⟩ := h
    rw [beqD_eq _ _ h1, nils_eq h2, h3]
  · cases h
def crsD (r : Row) : D := .tup [.lst ((r.G.take r.N).map .int), .int r.ag]
def okRun (r : Row) : Bool := [56, 57, 58].all (fun L => resB (callN FL 1000 L 7 [.v (prD r.t)]) (crsD r) 1) && resB (callN FL 1000 59 12 [.v (prD r.t)]) (.tup [.int r.bg, .int r.pd]) 1
def xr (a b : Int) : Int := (([[0, 1, 2, 3], [1, 0, 3, 2], [2, 3, 0, 1], [3, 2, 1, 0]] : List (List Int)).getD a.toNat []).getD b.toNat 0
def okXor : Bool := ([0, 1, 2, 3] : List Int).all fun a => ([0, 1, 2, 3] : List Int).all fun b => [57, 58].all (fun L => resB (callN FL 1000 L 9 [.v (.int a), .v (.int b)]) (.int (xr a b)) 2) && resB (callN FL 1000 59 21 [.v (.int a), .v (.int b)]) (.int (xr a b)) 2 && decide (0 ≤ xr a b) && decide (xr a b ≤ 3)
theorem all_td {α : Type} {f : α → Bool} {l : List α} (n : Nat) (h1 : (l.take n).all f = true) (h2 : (l.drop n).all f = true) : l.all f = true := by rw [← List.take_append_drop n l, List.all_append, h1, h2]; rfl
theorem TB_ok_0 : ((TB.drop 0).take 4).all okRow = true := by decide +kernel
theorem TB_ok_4 : ((TB.drop 4).take 4).all okRow = true := by decide +kernel
theorem TB_ok_8 : ((TB.drop 8).take 4).all okRow = true := by decide +kernel
theorem TB_ok_12 : ((TB.drop 12).take 4).all okRow = true := by decide +kernel
theorem TB_ok_16 : ((TB.drop 16).take 4).all okRow = true := by decide +kernel
theorem TB_ok_20 : ((TB.drop 20).take 4).all okRow = true := by decide +kernel
theorem TB_ok_24 : ((TB.drop 24).take 4).all okRow = true := by decide +kernel
theorem TB_ok_28 : (TB.drop 28).all okRow = true := by decide +kernel
theorem TB_ok_r24 : (TB.drop 24).all okRow = true := all_td 4 TB_ok_24 (by rw [List.drop_drop]; exact TB_ok_28)
theorem TB_ok_r20 : (TB.drop 20).all okRow = true := all_td 4 TB_ok_20 (by rw [List.drop_drop]; exact TB_ok_r24)
theorem TB_ok_r16 : (TB.drop 16).all okRow = true := all_td 4 TB_ok_16 (by rw [List.drop_drop]; exact TB_ok_r20)
theorem TB_ok_r12 : (TB.drop 12).all okRow = true := all_td 4 TB_ok_12 (by rw [List.drop_drop]; exact TB_ok_r16)
theorem TB_ok_r8 : (TB.drop 8).all okRow = true := all_td 4 TB_ok_8 (by rw [List.drop_drop]; exact TB_ok_r12)
theorem TB_ok_r4 : (TB.drop 4).all okRow = true := all_td 4 TB_ok_4 (by rw [List.drop_drop]; exact TB_ok_r8)
theorem TB_ok_r0 : (TB.drop 0).all okRow = true := all_td 4 TB_ok_0 (by rw [List.drop_drop]; exact TB_ok_r4)
theorem TB_ok : TB.all okRow = true := TB_ok_r0
theorem XR_ok : okXor = true := by decide +kernel
theorem RUN_ok_0 : ((TB.drop 0).take 2).all okRun = true := by decide +kernel
theorem RUN_ok_2 : ((TB.drop 2).take 2).all okRun = true := by decide +kernel
theorem RUN_ok_4 : ((TB.drop 4).take 2).all okRun = true := by decide +kernel
theorem RUN_ok_6 : ((TB.drop 6).take 2).all okRun = true := by decide +kernel
theorem RUN_ok_8 : ((TB.drop 8).take 2).all okRun = true := by decide +kernel
theorem RUN_ok_10 : ((TB.drop 10).take 2).all okRun = true := by decide +kernel
theorem RUN_ok_12 : ((TB.drop 12).take 2).all okRun = true := by decide +kernel
theorem RUN_ok_14 : ((TB.drop 14).take 2).all okRun = true := by decide +kernel
theorem RUN_ok_16 : ((TB.drop 16).take 2).all okRun = true := by decide +kernel
theorem RUN_ok_18 : ((TB.drop 18).take 2).all okRun = true := by decide +kernel
theorem RUN_ok_20 : ((TB.drop 20).take 2).all okRun = true := by decide +kernel
theorem RUN_ok_22 : ((TB.drop 22).take 2).all okRun = true := by decide +kernel
theorem RUN_ok_24 : ((TB.drop 24).take 2).all okRun = true := by decide +kernel
theorem RUN_ok_26 : ((TB.drop 26).take 2).all okRun = true := by decide +kernel
theorem RUN_ok_28 : (TB.drop 28).all okRun = true := by decide +kernel
theorem RUN_ok_r26 : (TB.drop 26).all okRun = true := all_td 2 RUN_ok_26 (by rw [List.drop_drop]; exact RUN_ok_28)
theorem RUN_ok_r24 : (TB.drop 24).all okRun = true := all_td 2 RUN_ok_24 (by rw [List.drop_drop]; exact RUN_ok_r26)
theorem RUN_ok_r22 : (TB.drop 22).all okRun = true := all_td 2 RUN_ok_22 (by rw [List.drop_drop]; exact RUN_ok_r24)
theorem RUN_ok_r20 : (TB.drop 20).all okRun = true := all_td 2 RUN_ok_20 (by rw [List.drop_drop]; exact RUN_ok_r22)
theorem RUN_ok_r18 : (TB.drop 18).all okRun = true := all_td 2 RUN_ok_18 (by rw [List.drop_drop]; exact RUN_ok_r20)
theorem RUN_ok_r16 : (TB.drop 16).all okRun = true := all_td 2 RUN_ok_16 (by rw [List.drop_drop]; exact RUN_ok_r18)
theorem RUN_ok_r14 : (TB.drop 14).all okRun = true := all_td 2 RUN_ok_14 (by rw [List.drop_drop]; exact RUN_ok_r16)
theorem RUN_ok_r12 : (TB.drop 12).all okRun = true := all_td 2 RUN_ok_12 (by rw [List.drop_drop]; exact RUN_ok_r14)
theorem RUN_ok_r10 : (TB.drop 10).all okRun = true := all_td 2 RUN_ok_10 (by rw [List.drop_drop]; exact RUN_ok_r12)
theorem RUN_ok_r8 : (TB.drop 8).all okRun = true := all_td 2 RUN_ok_8 (by rw [List.drop_drop]; exact RUN_ok_r10)
theorem RUN_ok_r6 : (TB.drop 6).all okRun = true := all_td 2 RUN_ok_6 (by rw [List.drop_drop]; exact RUN_ok_r8)
theorem RUN_ok_r4 : (TB.drop 4).all okRun = true := all_td 2 RUN_ok_4 (by rw [List.drop_drop]; exact RUN_ok_r6)
theorem RUN_ok_r2 : (TB.drop 2).all okRun = true := all_td 2 RUN_ok_2 (by rw [List.drop_drop]; exact RUN_ok_r4)
theorem RUN_ok_r0 : (TB.drop 0).all okRun = true := all_td 2 RUN_ok_0 (by rw [List.drop_drop]; exact RUN_ok_r2)
theorem RUN_ok : TB.all okRun = true := RUN_ok_r0
theorem c2 (n : Nat) {t : Ti} (ht : okT t) : callN FL W (n + 2) 2 [.v (prD t)] = .ok (.bl true, [.nil]) := by
  obtain ⟨t1, t2⟩ := t
  obtain ⟨h1, h2, h3⟩ := ht
  have h1 : 0 ≤ t1 := h1
  have h2 : t1 ≤ t2 := h2
  have h3 : t2 ≤ 6 := h3
  rw [callN_at FL2 ⟨rfl, rfl⟩]
  have e1 := c1' (W := W) n [.int t1, .int t2] 2 2 (by simp) (by simp)
  have k1 : den (cfgN FL W (callN FL W (n + 1))) (.comp [1] (.n 1) (.e (.v 0)) .nil (.call 0 (.cons (.v 1) (.cons (.c (.int 0)) (.cons (.c (.int 6)) .nil))))) [.v (prD (t1, t2)), .nil] =
      .ok (.lst (([t1, t2] : List Int).map fun x => [D.bl true]).flatten, [.v (prD (t1, t2)), .nil]) := by
    refine comp_map ([t1, t2] : List Int) D.int _ (fun ev => ∃ a, ev = [.v (prD (t1, t2)), a]) ?_ ⟨_, rfl⟩ ?_ ?_
    · simp [deni, den_c, den_v, den_tup, den_lst, den_emp, den_neg, den_nt, den_bin, den_cmp, den_cmp2, den_and, den_or, den_ife, den_ix, den_sl, den_call, den_bi, den_meth, den_lrg, den_sst, den_slk, den_pop, den_lse, den_popAt, exe_asg, exe_own, exe_two, exe_three, exe_aug, exe_put, exe_app, exe_ex, exe_ife, exe_ret, exe_retN, exe_brk, exe_cont, exe_pas, exes_nil, exes_cons, cfg_cl, cfg_br, deno, opn, dens, denIfs, opL, op1, op2, vals, val, peek, noX, rd, biF, isD, cmpF, binF, truthy, outs, bind, Except.bind, slotsOf, slotOf, ixF, place, negF, back, asgT, asgTs, setS, gtD, isF, ioF, isNonC, slO, seqD, prD]
    · rintro x hx _ ⟨a, rfl⟩
      have hx : 0 ≤ x ∧ x ≤ 6 := by
        rcases List.mem_cons.mp hx with rfl | hx
        · omega
        · rw [List.mem_singleton] at hx
          omega
      have e0 := c0 (W := W) n x 0 6
      rw [decide_eq_true hx.1, decide_eq_true hx.2] at e0
      exact ⟨[.v (prD (t1, t2)), .v (.int x)], by simp [itemP, den_c, den_v, den_tup, den_lst, den_emp, den_neg, den_nt, den_bin, den_cmp, den_cmp2, den_and, den_or, den_ife, den_ix, den_sl, den_call, den_bi, den_meth, den_lrg, den_sst, den_slk, den_pop, den_lse, den_popAt, exe_asg, exe_own, exe_two, exe_three, exe_aug, exe_put, exe_app, exe_ex, exe_ife, exe_ret, exe_retN, exe_brk, exe_cont, exe_pas, exes_nil, exes_cons, cfg_cl, cfg_br, deno, opn, dens, denIfs, opL, op1, op2, vals, val, peek, noX, rd, biF, isD, cmpF, binF, truthy, outs, bind, Except.bind, slotsOf, slotOf, ixF, place, negF, back, asgT, asgTs, setS, gtD, isF, ioF, isNonC, slO, wipe, FL0, f0, e0], _, rfl⟩
    · rintro _ ⟨a, rfl⟩
      rfl
  have ha : allB [.bl true, .bl true] = .ok true := rfl
  simp only [prD, List.map_cons, List.map_nil, List.flatten_cons, List.flatten_nil, List.append_nil, List.cons_append, List.nil_append] at k1 ⊢
  simp [den_c, den_v, den_tup, den_lst, den_emp, den_neg, den_nt, den_bin, den_cmp, den_cmp2, den_and, den_or, den_ife, den_ix, den_sl, den_call, den_bi, den_meth, den_lrg, den_sst, den_slk, den_pop, den_lse, den_popAt, exe_asg, exe_own, exe_two, exe_three, exe_aug, exe_put, exe_app, exe_ex, exe_ife, exe_ret, exe_retN, exe_brk, exe_cont, exe_pas, exes_nil, exes_cons, cfg_cl, cfg_br, deno, opn, dens, denIfs, opL, op1, op2, vals, val, peek, noX, rd, biF, isD, cmpF, binF, truthy, outs, bind, Except.bind, slotsOf, slotOf, ixF, place, negF, back, asgT, asgTs, setS, gtD, isF, ioF, isNonC, slO, f2, FL1, f1, e1, k1, ha, h2]
theorem ix_at (xs : List D) (j : Nat) (x : D) (h : xs[j]? = some x) : ixF (.tup xs) (.int j) = .ok x := by
  have hj : j < xs.length := by
    by_cases q : j < xs.length
    · exact q
    · rw [List.getElem?_eq_none (by omega)] at h; cases h
  have hp : place xs.length (j : Int) = some j := by
    unfold place
    rw [if_pos (by omega), if_pos (by omega)]
    simp
  unfold ixF
  simp only [hp, h]
theorem upTo_range : ∀ (n : Nat) (lo : Int), upTo lo n = (List.range n).map fun i : Nat => D.int (lo + i)
  | 0, _ => rfl
  | n + 1, lo => by
    rw [List.range_succ_eq_map, List.map_cons, List.map_map]
    show D.int lo :: upTo (lo + 1) n = _
    rw [upTo_range n (lo + 1)]
    congr 1
    · simp
    · apply List.map_congr_left
      intro i _
      simp only [Function.comp]
      congr 1
      omega
theorem upTo_zero (n : Nat) : upTo 0 n = (List.range n).map fun i : Nat => D.int (i : Int) := by
  rw [upTo_range]
  apply List.map_congr_left
  intro i _
  simp
theorem rg_len {n : Nat} (h : n ≤ 1000) : rgF [.int (n : Int)] = .ok ((List.range n).map fun i : Nat => D.int (i : Int)) := by
  show (if -16777216 ≤ (n : Int) ∧ (n : Int) ≤ 16777216 then (.ok (upTo 0 (n : Int).toNat) : M (List D)) else stk) = _
  rw [if_pos (by omega)]
  simp [upTo_zero]
theorem c16 (n : Nat) (ns : List Int) (h : ns.length ≤ 63) : ∃ a b, callN FL W (n + 1) 16 [.v (.scr ns)] = .ok (.lst [.int a, .int b], [.nil]) := by
  rw [callN_at FL16 ⟨rfl, rfl⟩]
  have hz : ns.length + 1 ≤ sz := by unfold sz; omega
  obtain ⟨x, hx⟩ : ∃ x, ixF (.lst (ns.map D.int ++ [.int 0])) (.int 0) = .ok (.int x) := by
    cases ns with
    | nil => exact ⟨0, rfl⟩
    | cons y r =>
      refine ⟨y, ?_⟩
      have hp : place (r.length + 1 + 1) 0 = some 0 := by
        unfold place
        rw [if_pos (by omega), if_pos (by omega)]
        rfl
      unfold ixF
      simp [hp]
  generalize hc : (if x < 0 then -x else x) = cell
  by_cases hb : 10 ^ 18 ≤ cell
  · refine ⟨cell / 79, (cell * 313 + 4021) % 2077487181 + 163, ?_⟩
    have hb' : (1000000000000000000 : Int) ≤ cell := hb
    simp [den_c, den_v, den_tup, den_lst, den_emp, den_neg, den_nt, den_bin, den_cmp, den_cmp2, den_and, den_or, den_ife, den_ix, den_sl, den_call, den_bi, den_meth, den_lrg, den_sst, den_slk, den_pop, den_lse, den_popAt, exe_asg, exe_own, exe_two, exe_three, exe_aug, exe_put, exe_app, exe_ex, exe_ife, exe_ret, exe_retN, exe_brk, exe_cont, exe_pas, exes_nil, exes_cons, cfg_cl, cfg_br, deno, opn, dens, denIfs, opL, op1, op2, vals, val, peek, noX, rd, biF, isD, cmpF, binF, truthy, outs, bind, Except.bind, slotsOf, slotOf, place, negF, back, asgT, asgTs, setS, gtD, isF, ioF, isNonC, slO, f16, iterD, hz, hx, hc, hb', small]
  · refine ⟨0, (cell * 313 + 4021) % 2077487181 + 163, ?_⟩
    have hb' : ¬ (1000000000000000000 : Int) ≤ cell := hb
    simp [den_c, den_v, den_tup, den_lst, den_emp, den_neg, den_nt, den_bin, den_cmp, den_cmp2, den_and, den_or, den_ife, den_ix, den_sl, den_call, den_bi, den_meth, den_lrg, den_sst, den_slk, den_pop, den_lse, den_popAt, exe_asg, exe_own, exe_two, exe_three, exe_aug, exe_put, exe_app, exe_ex, exe_ife, exe_ret, exe_retN, exe_brk, exe_cont, exe_pas, exes_nil, exes_cons, cfg_cl, cfg_br, deno, opn, dens, denIfs, opL, op1, op2, vals, val, peek, noX, rd, biF, isD, cmpF, binF, truthy, outs, bind, Except.bind, slotsOf, slotOf, place, negF, back, asgT, asgTs, setS, gtD, isF, ioF, isNonC, slO, f16, iterD, hz, hx, hc, hb', small]
def cupS (a b : Int) : Slot := .o (.lst [.int a, .int b])
theorem c17 (n : Nat) (a b m : Int) (h : 0 < m) (h2 : m < 18446744073709551616) : ∃ r a' b', callN FL W (n + 1) 17 [cupS a b, .v (.int m)] = .ok (.int r, [cupS a' b', .nil]) ∧ 0 ≤ r ∧ r < m := by
  rw [callN_at FL17 ⟨rfl, rfl⟩]
  by_cases ha : 0 < a
  · refine ⟨a % m, a / m, b, ?_, Int.emod_nonneg _ (by omega), Int.emod_lt_of_pos _ h⟩
    simp [den_c, den_v, den_tup, den_lst, den_emp, den_neg, den_nt, den_bin, den_cmp, den_cmp2, den_and, den_or, den_ife, den_ix, den_sl, den_call, den_bi, den_meth, den_lrg, den_sst, den_slk, den_pop, den_lse, den_popAt, exe_asg, exe_own, exe_two, exe_three, exe_aug, exe_put, exe_app, exe_ex, exe_ife, exe_ret, exe_retN, exe_brk, exe_cont, exe_pas, exes_nil, exes_cons, cfg_cl, cfg_br, deno, opn, dens, denIfs, opL, op1, op2, vals, val, peek, noX, rd, biF, isD, cmpF, binF, truthy, outs, bind, Except.bind, slotsOf, slotOf, ixF, place, negF, back, asgT, asgTs, setS, gtD, isF, ioF, isNonC, slO, f17, cupS, ha, h, h2, ownD, putF, putD]
  · generalize hb : (b * 30881 + 7879) % 2147483399 = b'
    have e1 : 0 ≤ b' := by rw [← hb]; exact Int.emod_nonneg _ (by decide)
    have e2 : b' < 2147483399 := by rw [← hb]; exact Int.emod_lt_of_pos _ (by decide)
    have hs : small b' = true := by unfold small; simp; omega
    refine ⟨(b' * (b' + 233)) % 2147483563 / 821 % m, a, b', ?_, Int.emod_nonneg _ (by omega), Int.emod_lt_of_pos _ h⟩
    simp [den_c, den_v, den_tup, den_lst, den_emp, den_neg, den_nt, den_bin, den_cmp, den_cmp2, den_and, den_or, den_ife, den_ix, den_sl, den_call, den_bi, den_meth, den_lrg, den_sst, den_slk, den_pop, den_lse, den_popAt, exe_asg, exe_own, exe_two, exe_three, exe_aug, exe_put, exe_app, exe_ex, exe_ife, exe_ret, exe_retN, exe_brk, exe_cont, exe_pas, exes_nil, exes_cons, cfg_cl, cfg_br, deno, opn, dens, denIfs, opL, op1, op2, vals, val, peek, noX, rd, biF, isD, cmpF, binF, truthy, outs, bind, Except.bind, slotsOf, slotOf, ixF, place, negF, back, asgT, asgTs, setS, gtD, isF, ioF, isNonC, slO, f17, cupS, ha, h, ownD, putF, putD, hb, hs, show small 30881 = true by decide]
theorem ixl_at (xs : List D) (j : Nat) (x : D) (h : xs[j]? = some x) : ixF (.lst xs) (.int j) = .ok x := by
  have hj : j < xs.length := by
    by_cases q : j < xs.length
    · exact q
    · rw [List.getElem?_eq_none (by omega)] at h; cases h
  have hp : place xs.length (j : Int) = some j := by
    unfold place
    rw [if_pos (by omega), if_pos (by omega)]
    simp
  unfold ixF
  simp only [hp, h]
def goodD : Nat → D → Bool
  | _, .int _ => true
  | _, .bl _ => true
  | _, .non => true
  | n + 1, .tup xs => decide (xs.length ≤ 1000) && xs.all (goodD n)
  | _, _ => false
theorem getD_at (xs : List D) (i : Nat) (h : i < xs.length) : ixF (.tup xs) (.int i) = .ok (xs.getD i .non) := ix_at xs i _ (by rw [List.getElem?_eq_getElem h, List.getD_eq_getElem?_getD, List.getElem?_eq_getElem h]; rfl)
theorem c18 : ∀ (k n : Nat) (d : D), goodD k d = true → callN FL W (n + k + 1) 18 [.v d, .v d] = .ok (.bl true, [.nil, .nil])
  | k, n, .int i, _ => by
    rw [callN_at FL18 ⟨rfl, rfl⟩]
    simp [den_c, den_v, den_tup, den_lst, den_emp, den_neg, den_nt, den_bin, den_cmp, den_cmp2, den_and, den_or, den_ife, den_ix, den_sl, den_call, den_bi, den_meth, den_lrg, den_sst, den_slk, den_pop, den_lse, den_popAt, exe_asg, exe_own, exe_two, exe_three, exe_aug, exe_put, exe_app, exe_ex, exe_ife, exe_ret, exe_retN, exe_brk, exe_cont, exe_pas, exes_nil, exes_cons, cfg_cl, cfg_br, deno, opn, dens, denIfs, opL, op1, op2, vals, val, peek, noX, rd, biF, isD, cmpF, binF, truthy, outs, bind, Except.bind, slotsOf, slotOf, ixF, place, negF, back, asgT, asgTs, setS, gtD, isF, ioF, isNonC, slO, f18, eqD, eqF, dep]
  | k, n, .bl b, _ => by
    rw [callN_at FL18 ⟨rfl, rfl⟩]
    cases b <;> simp [den_c, den_v, den_tup, den_lst, den_emp, den_neg, den_nt, den_bin, den_cmp, den_cmp2, den_and, den_or, den_ife, den_ix, den_sl, den_call, den_bi, den_meth, den_lrg, den_sst, den_slk, den_pop, den_lse, den_popAt, exe_asg, exe_own, exe_two, exe_three, exe_aug, exe_put, exe_app, exe_ex, exe_ife, exe_ret, exe_retN, exe_brk, exe_cont, exe_pas, exes_nil, exes_cons, cfg_cl, cfg_br, deno, opn, dens, denIfs, opL, op1, op2, vals, val, peek, noX, rd, biF, isD, cmpF, binF, truthy, outs, bind, Except.bind, slotsOf, slotOf, ixF, place, negF, back, asgT, asgTs, setS, gtD, isF, ioF, isNonC, slO, f18, eqD, eqF, dep]
  | k, n, .non, _ => by
    rw [callN_at FL18 ⟨rfl, rfl⟩]
    simp [den_c, den_v, den_tup, den_lst, den_emp, den_neg, den_nt, den_bin, den_cmp, den_cmp2, den_and, den_or, den_ife, den_ix, den_sl, den_call, den_bi, den_meth, den_lrg, den_sst, den_slk, den_pop, den_lse, den_popAt, exe_asg, exe_own, exe_two, exe_three, exe_aug, exe_put, exe_app, exe_ex, exe_ife, exe_ret, exe_retN, exe_brk, exe_cont, exe_pas, exes_nil, exes_cons, cfg_cl, cfg_br, deno, opn, dens, denIfs, opL, op1, op2, vals, val, peek, noX, rd, biF, isD, cmpF, binF, truthy, outs, bind, Except.bind, slotsOf, slotOf, ixF, place, negF, back, asgT, asgTs, setS, gtD, isF, ioF, isNonC, slO, f18, eqD, eqF, dep]
  | k + 1, n, .tup xs, h => by
    rw [callN_at FL18 ⟨rfl, rfl⟩]
    have h : (decide (xs.length ≤ 1000) && xs.all (goodD k)) = true := h
    rw [Bool.and_eq_true, decide_eq_true_eq, List.all_eq_true] at h
    have hr := rg_len h.1
    have k1 : den (cfgN FL W (callN FL W (n + k + 1))) (.comp [2] (.n 2) (.rg (.cons (.bi .len (.cons (.v 1) .nil)) .nil)) .nil (.call 18 (.cons (.ix (.v 0) (.v 2)) (.cons (.ix (.v 1) (.v 2)) .nil)))) [.v (.tup xs), .v (.tup xs), .nil] =
        .ok (.lst ((List.range xs.length).map fun i => [D.bl true]).flatten, [.v (.tup xs), .v (.tup xs), .nil]) := by
      refine comp_map (List.range xs.length) (fun i : Nat => D.int (i : Int)) _ (fun ev => ∃ a, ev = [.v (.tup xs), .v (.tup xs), a]) ?_ ⟨_, rfl⟩ ?_ ?_
      · simp [deni, den_c, den_v, den_tup, den_lst, den_emp, den_neg, den_nt, den_bin, den_cmp, den_cmp2, den_and, den_or, den_ife, den_ix, den_sl, den_call, den_bi, den_meth, den_lrg, den_sst, den_slk, den_pop, den_lse, den_popAt, exe_asg, exe_own, exe_two, exe_three, exe_aug, exe_put, exe_app, exe_ex, exe_ife, exe_ret, exe_retN, exe_brk, exe_cont, exe_pas, exes_nil, exes_cons, cfg_cl, cfg_br, deno, opn, dens, denIfs, opL, op1, op2, vals, val, peek, noX, rd, biF, isD, cmpF, binF, truthy, outs, bind, Except.bind, slotsOf, slotOf, ixF, place, negF, back, asgT, asgTs, setS, gtD, isF, ioF, isNonC, slO, hr]
      · rintro i hi _ ⟨a, rfl⟩
        have hi := List.mem_range.mp hi
        have e := c18 k n (xs.getD i .non) (by
          rw [List.getD_eq_getElem?_getD, List.getElem?_eq_getElem hi]
          exact h.2 _ (List.getElem_mem hi))
        have e2 := getD_at xs i hi
        generalize xs.getD i .non = y at e e2
        refine ⟨[.v (.tup xs), .v (.tup xs), .v (.int i)], ?_, _, rfl⟩
        simp [itemP, den_c, den_v, den_tup, den_lst, den_emp, den_neg, den_nt, den_bin, den_cmp, den_cmp2, den_and, den_or, den_ife, den_ix, den_sl, den_call, den_bi, den_meth, den_lrg, den_sst, den_slk, den_pop, den_lse, den_popAt, exe_asg, exe_own, exe_two, exe_three, exe_aug, exe_put, exe_app, exe_ex, exe_ife, exe_ret, exe_retN, exe_brk, exe_cont, exe_pas, exes_nil, exes_cons, cfg_cl, cfg_br, deno, opn, dens, denIfs, opL, op1, op2, vals, val, peek, noX, rd, biF, isD, cmpF, binF, truthy, outs, bind, Except.bind, slotsOf, slotOf, place, negF, back, asgT, asgTs, setS, gtD, isF, ioF, isNonC, slO, wipe, FL18, f18, e, e2]
      · rintro _ ⟨a, rfl⟩
        rfl
    rw [flat_one] at k1
    have ha := allB_map (fun _ : Nat => true) (List.range xs.length)
    have k1 : den (cfgN FL W (callN FL W (n + (k + 1)))) _ _ = _ := k1
    simp [den_c, den_v, den_tup, den_lst, den_emp, den_neg, den_nt, den_bin, den_cmp, den_cmp2, den_and, den_or, den_ife, den_ix, den_sl, den_call, den_bi, den_meth, den_lrg, den_sst, den_slk, den_pop, den_lse, den_popAt, exe_asg, exe_own, exe_two, exe_three, exe_aug, exe_put, exe_app, exe_ex, exe_ife, exe_ret, exe_retN, exe_brk, exe_cont, exe_pas, exes_nil, exes_cons, cfg_cl, cfg_br, deno, opn, dens, denIfs, opL, op1, op2, vals, val, peek, noX, rd, biF, isD, cmpF, binF, truthy, outs, bind, Except.bind, slotsOf, slotOf, ixF, place, negF, back, asgT, asgTs, setS, gtD, isF, ioF, isNonC, slO, f18, eqD, eqF, dep, k1, ha]
  | _, _, .str _, h => by simp [goodD] at h
  | _, _, .lst _, h => by simp [goodD] at h
  | _, _, .dct _ _, h => by simp [goodD] at h
  | _, _, .st _, h => by simp [goodD] at h
  | _, _, .rng _ _, h => by simp [goodD] at h
  | _, _, .scr _, h => by simp [goodD] at h
  | 0, _, .tup _, h => by simp [goodD] at h
theorem gd_int (k : Nat) (i : Int) : goodD k (.int i) = true := by cases k <;> rfl
theorem gd_tup (k : Nat) (xs : List D) (hl : xs.length ≤ 1000) (h : ∀ x ∈ xs, goodD k x = true) : goodD (k + 1) (.tup xs) = true := by
  show (decide (xs.length ≤ 1000) && xs.all (goodD k)) = true
  rw [decide_eq_true hl, Bool.true_and, List.all_eq_true]
  exact h
theorem gd_pr (k : Nat) (t : Ti) : goodD (k + 1) (prD t) = true := gd_tup k [.int t.1, .int t.2] (by simp) fun x hx => by
  simp only [List.mem_cons, List.not_mem_nil, or_false] at hx
  rcases hx with rfl | rfl <;> exact gd_int _ _
theorem gd_bl (k : Nat) (b : Bool) : goodD k (.bl b) = true := by cases k <;> rfl
theorem mnx_ok {x y : Int} (h1 : 0 ≤ x ∧ x ≤ 6) (h2 : 0 ≤ y ∧ y ≤ 6) : okT (mn x y, mxx x y) := by
  unfold okT mn mxx
  show 0 ≤ (if y < x then y else x) ∧ (if y < x then y else x) ≤ (if y > x then y else x) ∧ (if y > x then y else x) ≤ 6
  split <;> split <;> omega
def in6 (x : Int) : Prop := 0 ≤ x ∧ x ≤ 6
theorem place_at {n j : Nat} (h : j < n) : place n (j : Int) = some j := by
  unfold place
  rw [if_pos (by omega), if_pos (by omega)]
  simp
/-! facts of the table -/
structure RF (r : Row) : Prop where
  g : gr (tkT r.t) 121 = r.G
  l : r.G.length = 121
  v : ∀ x ∈ r.G, 0 ≤ x ∧ x ≤ 2
  n : r.N ≤ 100
  a0 : 0 ≤ r.ag
  a1 : r.ag < (r.N : Int) - 1
  p : r.pd = (r.N : Int) - 1 - r.ag
  b0 : 0 ≤ r.bg
  b1 : r.bg ≤ r.ag + 1
  bp : r.bg + r.pd ≤ 100
  s : ∀ s : Nat, s < 121 → wv r (s : Int) = gA r.G (s : Int)
  per : ∀ m : Nat, m < r.pd.toNat → gA r.G (r.ag + 1 + ((m : Int) - r.ag - 1) % r.pd) = gA r.G (r.bg + ((m : Int) - r.bg) % r.pd)
  good : (goodOf r).head? = some r.pd
  bgv : r.bg = 0 ∨ gA r.G (r.bg - 1) ≠ gA r.G (r.bg - 1 + r.pd)
  at' : ∀ w ∈ ([0, 1, 2, 3] : List Int), (atOf (r.G.take r.N) w).head? = (atOf r.G w).head?
theorem row_f {r : Row} (hr : r ∈ TB) : RF r := by
  have h := List.all_eq_true.mp TB_ok r hr
  unfold okRow at h
  simp only [Bool.and_eq_true, decide_eq_true_eq, List.all_eq_true, Bool.or_eq_true] at h
  obtain ⟨⟨⟨⟨⟨⟨⟨⟨⟨⟨⟨⟨⟨⟨⟨h1, h2⟩, h3⟩, h4⟩, h5⟩, h6⟩, h7⟩, h8⟩, h9⟩, h10⟩, h11⟩, h12⟩, h13⟩, h14⟩, h15⟩, h16⟩ := h
  exact ⟨h1, h2, h3, h5, h6, h7, h8, h9, h10, h11, fun s hs => h12 s (List.mem_range.mpr hs), fun m hm => h13 m (List.mem_range.mpr hm), h14, h15, h16⟩
theorem TBt : TB.all (fun r => decide (0 ≤ r.t.1) && decide (r.t.1 ≤ r.t.2) && decide (r.t.2 ≤ 6) && decide (1 ≤ r.t.2)) = true := by decide +kernel
theorem row_t {r : Row} (hr : r ∈ TB) : okT r.t ∧ 1 ≤ r.t.2 := by
  have h := List.all_eq_true.mp TBt r hr
  simp only [Bool.and_eq_true, decide_eq_true_eq] at h
  exact ⟨⟨h.1.1.1, h.1.1.2, h.1.2⟩, h.2⟩
def prs : List Ti := ((List.range 7).map fun i : Nat => (List.range 7).map fun j : Nat => (((i : Int), (j : Int)) : Ti)).flatten
theorem TBp : (prs.all fun t => decide (t.2 < 1) || decide (t.2 < t.1) || TB.any fun r => decide (r.t = t)) = true := by decide +kernel
theorem row_of {t : Ti} (h : okT t) (h1 : 1 ≤ t.2) : ∃ r ∈ TB, r.t = t := by
  obtain ⟨a, b⟩ := t
  obtain ⟨g1, g2, g3⟩ := h
  have g1 : 0 ≤ a := g1
  have g2 : a ≤ b := g2
  have g3 : b ≤ 6 := g3
  have h1 : 1 ≤ b := h1
  have hm : ((a, b) : Ti) ∈ prs := by
    refine List.mem_flatten.mpr ⟨_, List.mem_map.mpr ⟨a.toNat, List.mem_range.mpr (by omega), rfl⟩, List.mem_map.mpr ⟨b.toNat, List.mem_range.mpr (by omega), ?_⟩⟩
    refine Prod.ext ?_ ?_ <;> simp only <;> omega
  have h := List.all_eq_true.mp TBp _ hm
  rw [Bool.or_eq_true, Bool.or_eq_true, decide_eq_true_eq, decide_eq_true_eq, List.any_eq_true] at h
  rcases h with (h | h) | ⟨r, hr, h⟩
  · exact absurd h1 (by show ¬ 1 ≤ b; have h : b < 1 := h; omega)
  · exact absurd g2 (by have h : b < a := h; omega)
  · exact ⟨r, hr, of_decide_eq_true h⟩
theorem run7 {r : Row} (hr : r ∈ TB) : callN FL 1000 56 7 [.v (prD r.t)] = .ok (crsD r, [.nil]) ∧ callN FL 1000 57 7 [.v (prD r.t)] = .ok (crsD r, [.nil]) ∧ callN FL 1000 58 7 [.v (prD r.t)] = .ok (crsD r, [.nil]) ∧ callN FL 1000 59 12 [.v (prD r.t)] = .ok (.tup [.int r.bg, .int r.pd], [.nil]) := by
  have h := List.all_eq_true.mp RUN_ok r hr
  unfold okRun at h
  rw [Bool.and_eq_true, List.all_eq_true] at h
  obtain ⟨h1, h2⟩ := h
  exact ⟨resB_ok (h1 56 (by simp)), resB_ok (h1 57 (by simp)), resB_ok (h1 58 (by simp)), resB_ok h2⟩
def in3 (a : Int) : Prop := 0 ≤ a ∧ a ≤ 3
theorem in3_mem {a : Int} (h : in3 a) : a ∈ ([0, 1, 2, 3] : List Int) := by
  obtain ⟨h1, h2⟩ := h
  simp only [List.mem_cons, List.not_mem_nil, or_false]
  omega
theorem runX {a b : Int} (ha : in3 a) (hb : in3 b) : callN FL 1000 57 9 [.v (.int a), .v (.int b)] = .ok (.int (xr a b), [.nil, .nil]) ∧ callN FL 1000 59 21 [.v (.int a), .v (.int b)] = .ok (.int (xr a b), [.nil, .nil]) ∧ in3 (xr a b) := by
  have h := List.all_eq_true.mp (List.all_eq_true.mp XR_ok a (in3_mem ha)) b (in3_mem hb)
  simp only [Bool.and_eq_true, decide_eq_true_eq] at h
  obtain ⟨⟨⟨h1, h2⟩, h3⟩, h4⟩ := h
  exact ⟨resB_ok (List.all_eq_true.mp h1 57 (by simp)), resB_ok h2, h3, h4⟩
theorem gA_in {r : Row} (f : RF r) (i : Int) : 0 ≤ gA r.G i ∧ gA r.G i ≤ 2 := by
  unfold gA
  rw [List.getD_eq_getElem?_getD]
  cases h : r.G[i.toNat]? with
  | none => exact ⟨Int.le_refl _, by show (0 : Int) ≤ 2; decide⟩
  | some x => exact f.v x (List.mem_of_getElem? h)
theorem wv_in {r : Row} (f : RF r) (s : Int) : 0 ≤ wv r s ∧ wv r s ≤ 2 := by
  unfold wv
  split <;> exact gA_in f _
theorem wv_3 {r : Row} (f : RF r) (s : Int) : in3 (wv r s) := ⟨(wv_in f s).1, by have := (wv_in f s).2; omega⟩
theorem ix_G {r : Row} (f : RF r) (k : Nat) (hk : k ≤ 121) {i : Int} (h0 : 0 ≤ i) (h1 : i < k) : ixF (.lst ((r.G.take k).map .int)) (.int i) = .ok (.int (gA r.G i)) := by
  obtain ⟨j, rfl⟩ : ∃ j : Nat, i = j := ⟨i.toNat, by omega⟩
  refine ixl_at _ j _ ?_
  have hj : j < k := by omega
  rw [List.getElem?_map, List.getElem?_take, if_pos hj]
  have hl : j < r.G.length := by rw [f.l]; omega
  unfold gA
  rw [List.getD_eq_getElem?_getD, Int.toNat_natCast, List.getElem?_eq_getElem hl]
  rfl
theorem len_G {r : Row} (f : RF r) (k : Nat) (hk : k ≤ 121) : biF .len [.lst ((r.G.take k).map .int)] = .ok (.int k) := by
  show (.ok (.int (((r.G.take k).map D.int).length : Int)) : M D) = _
  rw [List.length_map, List.length_take, f.l, Nat.min_eq_left hk]
theorem b_add (x y : Int) : binF .add (.int x) (.int y) = .ok (.int (x + y)) := rfl
theorem b_sub (x y : Int) : binF .sub (.int x) (.int y) = .ok (.int (x - y)) := rfl
theorem b_mod {x y : Int} (h : 0 < y) : binF .mod (.int x) (.int y) = .ok (.int (x % y)) := by
  show (if 0 < y then (.ok (.int (x % y)) : M D) else stk) = _
  rw [if_pos h]
theorem eq_int (x y : Int) : eqD (.int x) (.int y) = .ok (decide (x = y)) := rfl
theorem lt_int (x y : Int) : ltD (.int x) (.int y) = .ok (decide (x < y)) := rfl
theorem c5 (n : Nat) {t : Ti} (ht : okT t) (h1 : 1 ≤ t.2) : callN FL W (n + 3) 5 [.v (prD t)] = .ok (.non, [.nil]) := by
  rw [callN_at FL5 ⟨rfl, rfl⟩]
  have e := c2 (W := W) n ht
  have x1 := ix_pr1 t
  have hq : eqD (.int t.2) (.int 0) = .ok false := by rw [eq_int, decide_eq_false (by omega)]
  generalize prD t = T at *
  simp [den_c, den_v, den_tup, den_lst, den_emp, den_neg, den_nt, den_bin, den_cmp, den_cmp2, den_and, den_or, den_ife, den_ix, den_sl, den_call, den_bi, den_meth, den_lrg, den_sst, den_slk, den_pop, den_lse, den_popAt, exe_asg, exe_own, exe_two, exe_three, exe_aug, exe_put, exe_app, exe_ex, exe_ife, exe_ret, exe_retN, exe_brk, exe_cont, exe_pas, exes_nil, exes_cons, cfg_cl, cfg_br, deno, opn, dens, denIfs, opL, op1, op2, vals, val, peek, noX, rd, biF, isD, cmpF, binF, truthy, outs, bind, Except.bind, slotsOf, slotOf, place, negF, back, asgT, asgTs, setS, gtD, isF, ioF, isNonC, slO, f5, FL2, f2, e, x1, hq]
theorem c8 (L : Nat) {r : Row} (hr : r ∈ TB) (e7 : callN FL 1000 L 7 [.v (prD r.t)] = .ok (crsD r, [.nil])) {s : Int} (hs : 0 ≤ s) : callN FL 1000 (L + 1) 8 [.v (prD r.t), .v (.int s)] = .ok (.int (wv r s), [.nil, .nil]) := by
  have f := row_f hr
  rw [callN_at FL8 ⟨rfl, rfl⟩]
  have hl := len_G f r.N (by have := f.n; omega)
  have hm := b_mod (x := s - r.ag - 1) (y := (r.N : Int) - 1 - r.ag) (by have := f.a1; omega)
  have a0 := f.a0
  have a1 := f.a1
  have m0 := Int.emod_nonneg (s - r.ag - 1) (b := (r.N : Int) - 1 - r.ag) (by omega)
  have m1 := Int.emod_lt_of_pos (s - r.ag - 1) (b := (r.N : Int) - 1 - r.ag) (by omega)
  have hn := f.n
  unfold crsD at e7
  by_cases hc : s ≤ (r.N : Int) - 1
  · have hx := ix_G f r.N (by omega) (i := s) hs (by omega)
    have hw : wv r s = gA r.G s := by unfold wv; rw [if_pos hc]
    rw [hw]
    generalize (r.G.take r.N).map D.int = Fo at *
    generalize prD r.t = T at *
    simp [den_c, den_v, den_tup, den_lst, den_emp, den_neg, den_nt, den_bin, den_cmp, den_cmp2, den_and, den_or, den_ife, den_ix, den_sl, den_call, den_bi, den_meth, den_lrg, den_sst, den_slk, den_pop, den_lse, den_popAt, exe_asg, exe_own, exe_two, exe_three, exe_aug, exe_put, exe_app, exe_ex, exe_ife, exe_ret, exe_retN, exe_brk, exe_cont, exe_pas, exes_nil, exes_cons, cfg_cl, cfg_br, deno, opn, dens, denIfs, opL, op1, op2, vals, val, peek, noX, rd, isD, cmpF, truthy, outs, bind, Except.bind, slotsOf, slotOf, place, negF, back, asgT, asgTs, setS, gtD, isF, ioF, isNonC, slO, f8, FL7, f7, e7, hl, b_sub, hx, hc]
  · have hx := ix_G f r.N (by omega) (i := r.ag + 1 + (s - r.ag - 1) % ((r.N : Int) - 1 - r.ag)) (by omega) (by omega)
    have hw : wv r s = gA r.G (r.ag + 1 + (s - r.ag - 1) % ((r.N : Int) - 1 - r.ag)) := by unfold wv; rw [if_neg hc]
    rw [hw]
    generalize (r.G.take r.N).map D.int = Fo at *
    generalize prD r.t = T at *
    simp [den_c, den_v, den_tup, den_lst, den_emp, den_neg, den_nt, den_bin, den_cmp, den_cmp2, den_and, den_or, den_ife, den_ix, den_sl, den_call, den_bi, den_meth, den_lrg, den_sst, den_slk, den_pop, den_lse, den_popAt, exe_asg, exe_own, exe_two, exe_three, exe_aug, exe_put, exe_app, exe_ex, exe_ife, exe_ret, exe_retN, exe_brk, exe_cont, exe_pas, exes_nil, exes_cons, cfg_cl, cfg_br, deno, opn, dens, denIfs, opL, op1, op2, vals, val, peek, noX, rd, isD, cmpF, truthy, outs, bind, Except.bind, slotsOf, slotOf, place, negF, back, asgT, asgTs, setS, gtD, isF, ioF, isNonC, slO, f8, FL7, f7, e7, hl, b_sub, b_add, hm, hx, hc]
/-! games -/
abbrev Ge := Int × Row
def geD (g : Ge) : D := .tup [.int g.1, prD g.2.t]
def gmD (gm : List Ge) : D := .tup (gm.map geD)
structure GmOk (gm : List Ge) : Prop where
  l0 : 1 ≤ gm.length
  l1 : gm.length ≤ 4
  g : ∀ g ∈ gm, 0 ≤ g.1 ∧ g.1 ≤ 1000000000000000000 ∧ g.2 ∈ TB
theorem c3 (n : Nat) {gm : List Ge} (h : GmOk gm) : callN FL W (n + 3) 3 [.v (gmD gm)] = .ok (.bl true, [.nil]) := by
  rw [callN_at FL3 ⟨rfl, rfl⟩]
  have e1 : callN FL W (n + 2) 1 [.v (gmD gm), .v (.int 1), .v (.int 4)] = _ := c1' (W := W) (n + 1) (gm.map geD) 1 4 (by have := h.l0; rw [List.length_map]; omega) (by have := h.l1; rw [List.length_map]; omega)
  have k1 : den (cfgN FL W (callN FL W (n + 2))) (.comp [3] (.n 3) (.e (.v 0)) .nil (.call 1 (.cons (.v 3) (.cons (.c (.int 2)) (.cons (.c (.int 2)) .nil))))) [.v (gmD gm), .nil, .nil, .nil] = .ok (.lst (gm.map fun g => [D.bl true]).flatten, [.v (gmD gm), .nil, .nil, .nil]) := by
    refine comp_map gm geD _ (fun ev => ∃ a, ev = [.v (gmD gm), .nil, .nil, a]) ?_ ⟨_, rfl⟩ ?_ ?_
    · simp [deni, den_c, den_v, den_tup, den_lst, den_emp, den_neg, den_nt, den_bin, den_cmp, den_cmp2, den_and, den_or, den_ife, den_ix, den_sl, den_call, den_bi, den_meth, den_lrg, den_sst, den_slk, den_pop, den_lse, den_popAt, exe_asg, exe_own, exe_two, exe_three, exe_aug, exe_put, exe_app, exe_ex, exe_ife, exe_ret, exe_retN, exe_brk, exe_cont, exe_pas, exes_nil, exes_cons, cfg_cl, cfg_br, deno, opn, dens, denIfs, opL, op1, op2, vals, val, peek, noX, rd, biF, isD, cmpF, binF, truthy, outs, bind, Except.bind, slotsOf, slotOf, ixF, place, negF, back, asgT, asgTs, setS, gtD, isF, ioF, isNonC, slO, seqD, gmD]
    · rintro g hg _ ⟨a, rfl⟩
      have e : callN FL W (n + 2) 1 [.v (geD g), .v (.int 2), .v (.int 2)] = _ := c1' (W := W) (n + 1) [.int g.1, prD g.2.t] 2 2 (by simp) (by simp)
      exact ⟨[.v (gmD gm), .nil, .nil, .v (geD g)], by simp [itemP, den_c, den_v, den_tup, den_lst, den_emp, den_neg, den_nt, den_bin, den_cmp, den_cmp2, den_and, den_or, den_ife, den_ix, den_sl, den_call, den_bi, den_meth, den_lrg, den_sst, den_slk, den_pop, den_lse, den_popAt, exe_asg, exe_own, exe_two, exe_three, exe_aug, exe_put, exe_app, exe_ex, exe_ife, exe_ret, exe_retN, exe_brk, exe_cont, exe_pas, exes_nil, exes_cons, cfg_cl, cfg_br, deno, opn, dens, denIfs, opL, op1, op2, vals, val, peek, noX, rd, biF, isD, cmpF, binF, truthy, outs, bind, Except.bind, slotsOf, slotOf, ixF, place, negF, back, asgT, asgTs, setS, gtD, isF, ioF, isNonC, slO, wipe, FL1, f1, e], _, rfl⟩
    · rintro _ ⟨a, rfl⟩
      rfl
  have k2 : den (cfgN FL W (callN FL W (n + 2))) (.comp [1,2] (.p (.cons (.n 1) (.cons (.n 2) .nil))) (.e (.v 0)) .nil (.and (.call 0 (.cons (.v 1) (.cons (.c (.int 0)) (.cons (.c (.int 1000000000000000000)) .nil)))) (.call 2 (.cons (.v 2) .nil)))) [.v (gmD gm), .nil, .nil, .nil] = .ok (.lst (gm.map fun g => [D.bl true]).flatten, [.v (gmD gm), .nil, .nil, .nil]) := by
    refine comp_map gm geD _ (fun ev => ∃ a b, ev = [.v (gmD gm), a, b, .nil]) ?_ ⟨_, _, rfl⟩ ?_ ?_
    · simp [deni, den_c, den_v, den_tup, den_lst, den_emp, den_neg, den_nt, den_bin, den_cmp, den_cmp2, den_and, den_or, den_ife, den_ix, den_sl, den_call, den_bi, den_meth, den_lrg, den_sst, den_slk, den_pop, den_lse, den_popAt, exe_asg, exe_own, exe_two, exe_three, exe_aug, exe_put, exe_app, exe_ex, exe_ife, exe_ret, exe_retN, exe_brk, exe_cont, exe_pas, exes_nil, exes_cons, cfg_cl, cfg_br, deno, opn, dens, denIfs, opL, op1, op2, vals, val, peek, noX, rd, biF, isD, cmpF, binF, truthy, outs, bind, Except.bind, slotsOf, slotOf, ixF, place, negF, back, asgT, asgTs, setS, gtD, isF, ioF, isNonC, slO, seqD, gmD]
    · rintro g hg _ ⟨a, b, rfl⟩
      obtain ⟨g1, g2, g3⟩ := h.g g hg
      have e0 : callN FL W (n + 2) 0 [.v (.int g.1), .v (.int 0), .v (.int 1000000000000000000)] = _ := c0 (W := W) (n + 1) g.1 0 1000000000000000000
      rw [decide_eq_true g1, decide_eq_true g2] at e0
      have e2 := c2 (W := W) n (row_t g3).1
      refine ⟨[.v (gmD gm), .v (.int g.1), .v (prD g.2.t), .nil], ?_, _, _, rfl⟩
      unfold geD
      generalize prD g.2.t = P at *
      generalize gmD gm = Gd at *
      simp [itemP, den_c, den_v, den_tup, den_lst, den_emp, den_neg, den_nt, den_bin, den_cmp, den_cmp2, den_and, den_or, den_ife, den_ix, den_sl, den_call, den_bi, den_meth, den_lrg, den_sst, den_slk, den_pop, den_lse, den_popAt, exe_asg, exe_own, exe_two, exe_three, exe_aug, exe_put, exe_app, exe_ex, exe_ife, exe_ret, exe_retN, exe_brk, exe_cont, exe_pas, exes_nil, exes_cons, cfg_cl, cfg_br, deno, opn, dens, denIfs, opL, op1, op2, vals, val, peek, noX, rd, biF, isD, cmpF, binF, truthy, outs, bind, Except.bind, slotsOf, slotOf, ixF, place, negF, back, asgT, asgTs, setS, gtD, isF, ioF, isNonC, slO, wipe, FL0, f0, FL2, f2, e0, e2]
    · rintro _ ⟨a, b, rfl⟩
      rfl
  have k3 : den (cfgN FL W (callN FL W (n + 2))) (.comp [1,2] (.p (.cons (.n 1) (.cons (.n 2) .nil))) (.e (.v 0)) .nil (.cmp .gt (.ix (.v 2) (.c (.int 1))) (.c (.int 0)))) [.v (gmD gm), .nil, .nil, .nil] = .ok (.lst (gm.map fun g => [D.bl true]).flatten, [.v (gmD gm), .nil, .nil, .nil]) := by
    refine comp_map gm geD _ (fun ev => ∃ a b, ev = [.v (gmD gm), a, b, .nil]) ?_ ⟨_, _, rfl⟩ ?_ ?_
    · simp [deni, den_c, den_v, den_tup, den_lst, den_emp, den_neg, den_nt, den_bin, den_cmp, den_cmp2, den_and, den_or, den_ife, den_ix, den_sl, den_call, den_bi, den_meth, den_lrg, den_sst, den_slk, den_pop, den_lse, den_popAt, exe_asg, exe_own, exe_two, exe_three, exe_aug, exe_put, exe_app, exe_ex, exe_ife, exe_ret, exe_retN, exe_brk, exe_cont, exe_pas, exes_nil, exes_cons, cfg_cl, cfg_br, deno, opn, dens, denIfs, opL, op1, op2, vals, val, peek, noX, rd, biF, isD, cmpF, binF, truthy, outs, bind, Except.bind, slotsOf, slotOf, ixF, place, negF, back, asgT, asgTs, setS, gtD, isF, ioF, isNonC, slO, seqD, gmD]
    · rintro g hg _ ⟨a, b, rfl⟩
      have h1 := (row_t (h.g g hg).2.2).2
      have x1 := ix_pr1 g.2.t
      have hq : 0 < g.2.t.2 := by omega
      refine ⟨[.v (gmD gm), .v (.int g.1), .v (prD g.2.t), .nil], ?_, _, _, rfl⟩
      unfold geD
      generalize prD g.2.t = P at *
      generalize gmD gm = Gd at *
      simp [itemP, den_c, den_v, den_tup, den_lst, den_emp, den_neg, den_nt, den_bin, den_cmp, den_cmp2, den_and, den_or, den_ife, den_ix, den_sl, den_call, den_bi, den_meth, den_lrg, den_sst, den_slk, den_pop, den_lse, den_popAt, exe_asg, exe_own, exe_two, exe_three, exe_aug, exe_put, exe_app, exe_ex, exe_ife, exe_ret, exe_retN, exe_brk, exe_cont, exe_pas, exes_nil, exes_cons, cfg_cl, cfg_br, deno, opn, dens, denIfs, opL, op1, op2, vals, val, peek, noX, rd, biF, isD, cmpF, binF, truthy, outs, bind, Except.bind, slotsOf, slotOf, place, negF, back, asgT, asgTs, setS, gtD, isF, ioF, isNonC, slO, wipe, x1, hq]
    · rintro _ ⟨a, b, rfl⟩
      rfl
  rw [flat_one] at k1 k2 k3
  have ha := allB_map (fun _ : Ge => true) gm
  rw [show (gm.all fun _ => true) = true by simp] at ha
  generalize (gm.map fun _ => D.bl true) = L at *
  generalize gmD gm = Gd at *
  simp [den_c, den_v, den_tup, den_lst, den_emp, den_neg, den_nt, den_bin, den_cmp, den_cmp2, den_and, den_or, den_ife, den_ix, den_sl, den_call, den_bi, den_meth, den_lrg, den_sst, den_slk, den_pop, den_lse, den_popAt, exe_asg, exe_own, exe_two, exe_three, exe_aug, exe_put, exe_app, exe_ex, exe_ife, exe_ret, exe_retN, exe_brk, exe_cont, exe_pas, exes_nil, exes_cons, cfg_cl, cfg_br, deno, opn, dens, denIfs, opL, op1, op2, vals, val, peek, noX, rd, biF, isD, cmpF, binF, truthy, outs, bind, Except.bind, slotsOf, slotOf, ixF, place, negF, back, asgT, asgTs, setS, gtD, isF, ioF, isNonC, slO, f3, FL1, f1, e1, k1, k2, k3, ha]
theorem c4 (n : Nat) {gm : List Ge} (h : GmOk gm) : callN FL W (n + 4) 4 [.v (gmD gm)] = .ok (.non, [.nil]) := by
  rw [callN_at FL4 ⟨rfl, rfl⟩]
  have e := c3 (W := W) n h
  generalize gmD gm = Gd at *
  simp [den_c, den_v, den_tup, den_lst, den_emp, den_neg, den_nt, den_bin, den_cmp, den_cmp2, den_and, den_or, den_ife, den_ix, den_sl, den_call, den_bi, den_meth, den_lrg, den_sst, den_slk, den_pop, den_lse, den_popAt, exe_asg, exe_own, exe_two, exe_three, exe_aug, exe_put, exe_app, exe_ex, exe_ife, exe_ret, exe_retN, exe_brk, exe_cont, exe_pas, exes_nil, exes_cons, cfg_cl, cfg_br, deno, opn, dens, denIfs, opL, op1, op2, vals, val, peek, noX, rd, biF, isD, cmpF, binF, truthy, outs, bind, Except.bind, slotsOf, slotOf, ixF, place, negF, back, asgT, asgTs, setS, gtD, isF, ioF, isNonC, slO, f4, FL3, f3, e]
def sumG (gm : List Ge) : Int := gm.foldl (fun w g => xr w (wv g.2 g.1)) 0
theorem sumG_snoc (gm : List Ge) (g : Ge) : sumG (gm ++ [g]) = xr (sumG gm) (wv g.2 g.1) := by
  unfold sumG
  rw [List.foldl_append]
  rfl
theorem sumG_in {gm : List Ge} (h : ∀ g ∈ gm, g.2 ∈ TB) : in3 (sumG gm) := by
  have : ∀ (gm : List Ge) (w : Int), in3 w → (∀ g ∈ gm, g.2 ∈ TB) → in3 (gm.foldl (fun w g => xr w (wv g.2 g.1)) w) := by
    intro gm
    induction gm with
    | nil => exact fun w hw _ => hw
    | cons g r ih => exact fun w hw hg => ih _ (runX hw (wv_3 (row_f (hg g List.mem_cons_self)) g.1)).2.2 fun x hx => hg x (List.mem_cons_of_mem _ hx)
  exact this gm 0 ⟨by decide, by decide⟩ h
def smB : Ss := bodyOf (nthS 1 f10.body)
theorem c10 {gm : List Ge} (h : GmOk gm) : callN FL 1000 58 10 [.v (gmD gm)] = .ok (.int (sumG gm), [.nil]) := by
  have h0 : exe (cfgN FL 1000 (callN FL 1000 57)) (nthS 0 f10.body) [.v (gmD gm), .nil, .nil, .nil] = .ok (.next, [.v (gmD gm), .v (.int 0), .nil, .nil]) := by
    generalize gmD gm = Gd at *
    simp [den_c, den_v, den_tup, den_lst, den_emp, den_neg, den_nt, den_bin, den_cmp, den_cmp2, den_and, den_or, den_ife, den_ix, den_sl, den_call, den_bi, den_meth, den_lrg, den_sst, den_slk, den_pop, den_lse, den_popAt, exe_asg, exe_own, exe_two, exe_three, exe_aug, exe_put, exe_app, exe_ex, exe_ife, exe_ret, exe_retN, exe_brk, exe_cont, exe_pas, exes_nil, exes_cons, cfg_cl, cfg_br, deno, opn, dens, denIfs, opL, op1, op2, vals, val, peek, noX, rd, biF, isD, cmpF, binF, truthy, outs, bind, Except.bind, slotsOf, slotOf, ixF, place, negF, back, asgT, asgTs, setS, gtD, isF, ioF, isNonC, slO, nthS, f10]
  obtain ⟨ev, h1, s2, s3, rfl⟩ := for_inv (C := cfgN FL 1000 (callN FL 1000 57)) (t := .p (.cons (.n 2) (.cons (.n 3) .nil))) (it := .e (.v 0)) (body := smB)
    (env := [.v (gmD gm), .v (.int 0), .nil, .nil]) (env1 := [.v (gmD gm), .v (.int 0), .nil, .nil]) (gm.map geD)
    (fun i ev => ∃ s2 s3, ev = [.v (gmD gm), .v (.int (sumG (gm.take i))), s2, s3])
    (by
      unfold gmD
      simp [deni, den_c, den_v, den_tup, den_lst, den_emp, den_neg, den_nt, den_bin, den_cmp, den_cmp2, den_and, den_or, den_ife, den_ix, den_sl, den_call, den_bi, den_meth, den_lrg, den_sst, den_slk, den_pop, den_lse, den_popAt, exe_asg, exe_own, exe_two, exe_three, exe_aug, exe_put, exe_app, exe_ex, exe_ife, exe_ret, exe_retN, exe_brk, exe_cont, exe_pas, exes_nil, exes_cons, cfg_cl, cfg_br, deno, opn, dens, denIfs, opL, op1, op2, vals, val, peek, noX, rd, biF, isD, cmpF, binF, truthy, outs, bind, Except.bind, slotsOf, slotOf, ixF, place, negF, back, asgT, asgTs, setS, gtD, isF, ioF, isNonC, slO, seqD]) ⟨_, _, rfl⟩ (by
      rintro i d _ hd ⟨s2, s3, rfl⟩
      rw [List.getElem?_map] at hd
      obtain ⟨g, hg, rfl⟩ : ∃ p, gm[i]? = some p ∧ geD p = d := by
        cases h : gm[i]? with
        | none => rw [h] at hd; cases hd
        | some p => rw [h] at hd; exact ⟨p, rfl, by injection hd⟩
      have hgm := List.mem_of_getElem? hg
      obtain ⟨g1, g2, g3⟩ := h.g g hgm
      have htk : gm.take (i + 1) = gm.take i ++ [g] := by rw [List.take_succ, hg]; rfl
      have hw : in3 (sumG (gm.take i)) := sumG_in fun x hx => (h.g x (List.mem_of_mem_take hx)).2.2
      have e8 := c8 56 g3 (run7 g3).1 g1
      have e9 := (runX hw (wv_3 (row_f g3) g.1)).1
      refine ⟨[.v (gmD gm), .v (.int (sumG (gm.take (i + 1)))), .v (.int g.1), .v (prD g.2.t)], ?_, _, _, rfl⟩
      rw [htk, sumG_snoc]
      unfold geD
      generalize prD g.2.t = P at *
      generalize gmD gm = Gd at *
      generalize wv g.2 g.1 = w at *
      generalize sumG (gm.take i) = u at *
      simp [den_c, den_v, den_tup, den_lst, den_emp, den_neg, den_nt, den_bin, den_cmp, den_cmp2, den_and, den_or, den_ife, den_ix, den_sl, den_call, den_bi, den_meth, den_lrg, den_sst, den_slk, den_pop, den_lse, den_popAt, exe_asg, exe_own, exe_two, exe_three, exe_aug, exe_put, exe_app, exe_ex, exe_ife, exe_ret, exe_retN, exe_brk, exe_cont, exe_pas, exes_nil, exes_cons, cfg_cl, cfg_br, deno, opn, dens, denIfs, opL, op1, op2, vals, val, peek, noX, rd, biF, isD, cmpF, binF, truthy, outs, bind, Except.bind, slotsOf, slotOf, ixF, place, negF, back, asgT, asgTs, setS, gtD, isF, ioF, isNonC, slO, smB, nthS, bodyOf, f10, FL8, f8, FL9, f9, e8, e9])
  rw [List.length_map, List.take_length] at h1
  have h1 : exe (cfgN FL 1000 (callN FL 1000 57)) (nthS 1 f10.body) [.v (gmD gm), .v (.int 0), .nil, .nil] = .ok (.next, [.v (gmD gm), .v (.int (sumG gm)), s2, s3]) := h1
  have h2 : exe (cfgN FL 1000 (callN FL 1000 57)) (nthS 2 f10.body) [.v (gmD gm), .v (.int (sumG gm)), s2, s3] = .ok (.ret (.int (sumG gm)), [.v (gmD gm), .v (.int (sumG gm)), s2, s3]) := by
    generalize gmD gm = Gd at *
    simp [den_c, den_v, den_tup, den_lst, den_emp, den_neg, den_nt, den_bin, den_cmp, den_cmp2, den_and, den_or, den_ife, den_ix, den_sl, den_call, den_bi, den_meth, den_lrg, den_sst, den_slk, den_pop, den_lse, den_popAt, exe_asg, exe_own, exe_two, exe_three, exe_aug, exe_put, exe_app, exe_ex, exe_ife, exe_ret, exe_retN, exe_brk, exe_cont, exe_pas, exes_nil, exes_cons, cfg_cl, cfg_br, deno, opn, dens, denIfs, opL, op1, op2, vals, val, peek, noX, rd, biF, isD, cmpF, binF, truthy, outs, bind, Except.bind, slotsOf, slotOf, ixF, place, negF, back, asgT, asgTs, setS, gtD, isF, ioF, isNonC, slO, nthS, f10]
  exact callN_ret (ss := [.v (gmD gm)]) FL10 ⟨rfl, rfl⟩ ((exes_ok (r := .cons (nthS 1 f10.body) (.cons (nthS 2 f10.body) .nil)) h0).trans ((exes_ok (r := .cons (nthS 2 f10.body) .nil) h1).trans (exes_ret (r := .nil) h2)))
theorem c11 {r : Row} (hr : r ∈ TB) {s : Int} (h0 : 0 ≤ s) (h1 : s ≤ 1000000000000000000) : callN FL 1000 59 11 [.v (prD r.t), .v (.int s)] = .ok (.int (wv r s), [.nil, .nil]) := by
  rw [callN_at FL11 ⟨rfl, rfl⟩]
  have e5 : callN FL 1000 58 5 [.v (prD r.t)] = _ := c5 (W := 1000) 55 (row_t hr).1 (row_t hr).2
  have e0 : callN FL 1000 58 0 [.v (.int s), .v (.int 0), .v (.int 1000000000000000000)] = _ := c0 (W := 1000) 57 s 0 1000000000000000000
  rw [decide_eq_true h0, decide_eq_true h1] at e0
  have e8 := c8 57 hr (run7 hr).2.1 h0
  generalize prD r.t = P at *
  generalize wv r s = w at *
  simp [den_c, den_v, den_tup, den_lst, den_emp, den_neg, den_nt, den_bin, den_cmp, den_cmp2, den_and, den_or, den_ife, den_ix, den_sl, den_call, den_bi, den_meth, den_lrg, den_sst, den_slk, den_pop, den_lse, den_popAt, exe_asg, exe_own, exe_two, exe_three, exe_aug, exe_put, exe_app, exe_ex, exe_ife, exe_ret, exe_retN, exe_brk, exe_cont, exe_pas, exes_nil, exes_cons, cfg_cl, cfg_br, deno, opn, dens, denIfs, opL, op1, op2, vals, val, peek, noX, rd, biF, isD, cmpF, binF, truthy, outs, bind, Except.bind, slotsOf, slotOf, ixF, place, negF, back, asgT, asgTs, setS, gtD, isF, ioF, isNonC, slO, f11, FL5, f5, FL0, f0, FL8, f8, e5, e0, e8]
theorem c13 {gm : List Ge} (h : GmOk gm) : callN FL 1000 59 13 [.v (gmD gm)] = .ok (.int (sumG gm), [.nil]) := by
  rw [callN_at FL13 ⟨rfl, rfl⟩]
  have e4 : callN FL 1000 58 4 [.v (gmD gm)] = _ := c4 (W := 1000) 54 h
  have e10 := c10 h
  generalize gmD gm = Gd at *
  simp [den_c, den_v, den_tup, den_lst, den_emp, den_neg, den_nt, den_bin, den_cmp, den_cmp2, den_and, den_or, den_ife, den_ix, den_sl, den_call, den_bi, den_meth, den_lrg, den_sst, den_slk, den_pop, den_lse, den_popAt, exe_asg, exe_own, exe_two, exe_three, exe_aug, exe_put, exe_app, exe_ex, exe_ife, exe_ret, exe_retN, exe_brk, exe_cont, exe_pas, exes_nil, exes_cons, cfg_cl, cfg_br, deno, opn, dens, denIfs, opL, op1, op2, vals, val, peek, noX, rd, biF, isD, cmpF, binF, truthy, outs, bind, Except.bind, slotsOf, slotOf, ixF, place, negF, back, asgT, asgTs, setS, gtD, isF, ioF, isNonC, slO, f13, FL4, f4, FL10, f10, e4, e10]
theorem c14 {gm : List Ge} (h : GmOk gm) : callN FL 1000 59 14 [.v (gmD gm)] = .ok (.bl (!decide (sumG gm = 0)), [.nil]) := by
  rw [callN_at FL14 ⟨rfl, rfl⟩]
  have e4 : callN FL 1000 58 4 [.v (gmD gm)] = _ := c4 (W := 1000) 54 h
  have e10 := c10 h
  have hq := eq_int (sumG gm) 0
  generalize gmD gm = Gd at *
  generalize sumG gm = w at *
  simp [den_c, den_v, den_tup, den_lst, den_emp, den_neg, den_nt, den_bin, den_cmp, den_cmp2, den_and, den_or, den_ife, den_ix, den_sl, den_call, den_bi, den_meth, den_lrg, den_sst, den_slk, den_pop, den_lse, den_popAt, exe_asg, exe_own, exe_two, exe_three, exe_aug, exe_put, exe_app, exe_ex, exe_ife, exe_ret, exe_retN, exe_brk, exe_cont, exe_pas, exes_nil, exes_cons, cfg_cl, cfg_br, deno, opn, dens, denIfs, opL, op1, op2, vals, val, peek, noX, rd, biF, isD, cmpF, binF, truthy, outs, bind, Except.bind, slotsOf, slotOf, ixF, place, negF, back, asgT, asgTs, setS, gtD, isF, ioF, isNonC, slO, f14, FL4, f4, FL10, f10, e4, e10, hq]
theorem enumL_ints : ∀ (f : List Int) (lo : Int), enumL lo (f.map .int) = (List.range f.length).map fun i : Nat => D.tup [.int (lo + (i : Int)), .int (f.getD i 0)]
  | [], _ => rfl
  | x :: r, lo => by
    rw [List.length_cons, List.range_succ_eq_map]
    show D.tup [.int lo, .int x] :: enumL (lo + 1) (r.map .int) = D.tup [.int (lo + ((0 : Nat) : Int)), .int x] :: ((List.range r.length).map Nat.succ).map fun i : Nat => D.tup [.int (lo + (i : Int)), .int ((x :: r).getD i 0)]
    rw [enumL_ints r (lo + 1), List.map_map, show lo + ((0 : Nat) : Int) = lo by omega]
    congr 1
    · refine List.map_congr_left fun i _ => ?_
      show D.tup [.int (lo + 1 + (i : Int)), .int (r.getD i 0)] = D.tup [.int (lo + ((i + 1 : Nat) : Int)), .int ((x :: r).getD (i + 1) 0)]
      rw [show lo + 1 + (i : Int) = lo + ((i + 1 : Nat) : Int) by omega]
      rfl
theorem flat_at (p : Nat → Bool) : ∀ l : List Nat, (l.map fun i : Nat => if p i = true then [D.int (i : Int)] else []).flatten = (l.filterMap fun i => if p i = true then some (i : Int) else none).map .int
  | [] => rfl
  | i :: r => by
    rw [List.map_cons, List.flatten_cons, flat_at p r, List.filterMap_cons]
    cases p i <;> rfl
theorem atOf_eq (G : List Int) (w : Int) : atOf G w = (List.range G.length).filterMap fun i => if decide (G.getD i 0 = w) = true then some (i : Int) else none := by
  unfold atOf
  congr 1
  funext i
  by_cases h : G.getD i 0 = w <;> simp [h]
def hdD : Option Int → D
  | none => .non
  | some i => .int i
theorem eq_lnil (X : List Int) : eqD (.lst (X.map .int)) (.lst []) = .ok (decide (X = [])) := by
  cases X with
  | nil => rfl
  | cons x r => rfl
theorem hd_or {X : List Int} : (X = [] ∧ X.head? = none) ∨ ∃ x r, X = x :: r ∧ X.head? = some x := by
  cases X with
  | nil => exact .inl ⟨rfl, rfl⟩
  | cons x r => exact .inr ⟨x, r, rfl, rfl⟩
theorem ix_hd (x : Int) (r : List Int) : ixF (.lst ((x :: r).map .int)) (.int 0) = .ok (.int x) := ixl_at ((x :: r).map .int) 0 (.int x) rfl
theorem c15 {gm : List Ge} (h : GmOk gm) {r : Row} (hr : r ∈ TB) : callN FL 1000 59 15 [.v (gmD gm), .v (prD r.t)] = .ok (hdD (atOf (r.G.take r.N) (sumG gm)).head?, [.nil, .nil]) := by
  have f := row_f hr
  rw [callN_at FL15 ⟨rfl, rfl⟩]
  have e4 : callN FL 1000 58 4 [.v (gmD gm)] = _ := c4 (W := 1000) 54 h
  have e5 : callN FL 1000 58 5 [.v (prD r.t)] = _ := c5 (W := 1000) 55 (row_t hr).1 (row_t hr).2
  have e7 := (run7 hr).2.2.1
  have e10 := c10 h
  unfold crsD at e7
  generalize r.G.take r.N = Fo at *
  have k1 : den (cfgN FL 1000 (callN FL 1000 58)) (.comp [5,6] (.p (.cons (.n 5) (.cons (.n 6) .nil))) (.enm (.v 3)) (.cons (.cmp .eq (.v 6) (.call 10 (.cons (.v 0) .nil))) .nil) (.v 5)) [.v (gmD gm), .v (prD r.t), .nil, .v (.lst (Fo.map .int)), .v (.int r.ag), .nil, .nil] =
      .ok (.lst ((List.range Fo.length).map fun i : Nat => if decide (Fo.getD i 0 = sumG gm) = true then [D.int (i : Int)] else []).flatten, [.v (gmD gm), .v (prD r.t), .nil, .v (.lst (Fo.map .int)), .v (.int r.ag), .nil, .nil]) := by
    refine comp_map (List.range Fo.length) (fun i : Nat => D.tup [.int (0 + (i : Int)), .int (Fo.getD i 0)]) _ (fun ev => ∃ a b, ev = [.v (gmD gm), .v (prD r.t), .nil, .v (.lst (Fo.map .int)), .v (.int r.ag), a, b]) ?_ ⟨_, _, rfl⟩ ?_ ?_
    · have he : enumF (.lst (Fo.map .int)) = .ok ((List.range Fo.length).map fun i : Nat => D.tup [.int (0 + (i : Int)), .int (Fo.getD i 0)]) := by
        show Except.ok (enumL 0 (Fo.map .int)) = _
        rw [enumL_ints]
      generalize ((List.range Fo.length).map fun i : Nat => D.tup [.int (0 + (i : Int)), .int (Fo.getD i 0)]) = Z at *
      generalize Fo.map D.int = FD at *
      generalize gmD gm = Gd at *
      generalize prD r.t = P at *
      simp [deni, den_c, den_v, den_tup, den_lst, den_emp, den_neg, den_nt, den_bin, den_cmp, den_cmp2, den_and, den_or, den_ife, den_ix, den_sl, den_call, den_bi, den_meth, den_lrg, den_sst, den_slk, den_pop, den_lse, den_popAt, exe_asg, exe_own, exe_two, exe_three, exe_aug, exe_put, exe_app, exe_ex, exe_ife, exe_ret, exe_retN, exe_brk, exe_cont, exe_pas, exes_nil, exes_cons, cfg_cl, cfg_br, deno, opn, dens, denIfs, opL, op1, op2, vals, val, peek, noX, rd, biF, isD, cmpF, binF, truthy, outs, bind, Except.bind, slotsOf, slotOf, ixF, place, negF, back, asgT, asgTs, setS, gtD, isF, ioF, isNonC, slO, he]
    · rintro i hi _ ⟨a, b, rfl⟩
      refine ⟨[.v (gmD gm), .v (prD r.t), .nil, .v (.lst (Fo.map .int)), .v (.int r.ag), .v (.int (i : Int)), .v (.int (Fo.getD i 0))], ?_, _, _, rfl⟩
      rw [Int.zero_add]
      have hq := eq_int (Fo.getD i 0) (sumG gm)
      generalize Fo.getD i 0 = y at *
      generalize sumG gm = w at *
      generalize Fo.map D.int = FD at *
      generalize gmD gm = Gd at *
      generalize prD r.t = P at *
      cases hc : decide (y = w) <;> rw [hc] at hq <;> simp [itemP, den_c, den_v, den_tup, den_lst, den_emp, den_neg, den_nt, den_bin, den_cmp, den_cmp2, den_and, den_or, den_ife, den_ix, den_sl, den_call, den_bi, den_meth, den_lrg, den_sst, den_slk, den_pop, den_lse, den_popAt, exe_asg, exe_own, exe_two, exe_three, exe_aug, exe_put, exe_app, exe_ex, exe_ife, exe_ret, exe_retN, exe_brk, exe_cont, exe_pas, exes_nil, exes_cons, cfg_cl, cfg_br, deno, opn, dens, denIfs, opL, op1, op2, vals, val, peek, noX, rd, biF, isD, cmpF, binF, truthy, outs, bind, Except.bind, slotsOf, slotOf, ixF, place, negF, back, asgT, asgTs, setS, gtD, isF, ioF, isNonC, slO, wipe, FL10, f10, e10, hq]
    · rintro _ ⟨a, b, rfl⟩
      rfl
  rw [flat_at, ← atOf_eq] at k1
  have hq := eq_lnil (atOf Fo (sumG gm))
  generalize Fo.map D.int = FD at *
  generalize gmD gm = Gd at *
  generalize prD r.t = P at *
  rcases hd_or (X := atOf Fo (sumG gm)) with ⟨h1, h2⟩ | ⟨x, X, h1, h2⟩
  · rw [h1] at hq
    rw [h1] at k1
    rw [h2]
    have hq : eqD (.lst (([] : List Int).map .int)) (.lst []) = .ok true := hq
    generalize (([] : List Int).map D.int) = XD at *
    simp [den_c, den_v, den_tup, den_lst, den_emp, den_neg, den_nt, den_bin, den_cmp, den_cmp2, den_and, den_or, den_ife, den_ix, den_sl, den_call, den_bi, den_meth, den_lrg, den_sst, den_slk, den_pop, den_lse, den_popAt, exe_asg, exe_own, exe_two, exe_three, exe_aug, exe_put, exe_app, exe_ex, exe_ife, exe_ret, exe_retN, exe_brk, exe_cont, exe_pas, exes_nil, exes_cons, cfg_cl, cfg_br, deno, opn, dens, denIfs, opL, op1, op2, vals, val, peek, noX, rd, biF, isD, cmpF, binF, truthy, outs, bind, Except.bind, slotsOf, slotOf, place, negF, back, asgT, asgTs, setS, gtD, isF, ioF, isNonC, slO, f15, FL4, f4, FL5, f5, FL7, f7, e4, e5, e7, k1, hq, hdD]
  · rw [h1] at hq
    rw [h1] at k1
    rw [h2]
    have hq : eqD (.lst ((x :: X).map .int)) (.lst []) = .ok false := hq
    have hx := ix_hd x X
    generalize ((x :: X).map D.int) = XD at *
    simp [den_c, den_v, den_tup, den_lst, den_emp, den_neg, den_nt, den_bin, den_cmp, den_cmp2, den_and, den_or, den_ife, den_ix, den_sl, den_call, den_bi, den_meth, den_lrg, den_sst, den_slk, den_pop, den_lse, den_popAt, exe_asg, exe_own, exe_two, exe_three, exe_aug, exe_put, exe_app, exe_ex, exe_ife, exe_ret, exe_retN, exe_brk, exe_cont, exe_pas, exes_nil, exes_cons, cfg_cl, cfg_br, deno, opn, dens, denIfs, opL, op1, op2, vals, val, peek, noX, rd, biF, isD, cmpF, binF, truthy, outs, bind, Except.bind, slotsOf, slotOf, place, negF, back, asgT, asgTs, setS, gtD, isF, ioF, isNonC, slO, f15, FL4, f4, FL5, f5, FL7, f7, e4, e5, e7, k1, hq, hx, hdD]
/-! the law's worths -/
theorem gr_len (tk : List Int) : ∀ n, (gr tk n).length = n
  | 0 => rfl
  | n + 1 => by
    show (gr tk n ++ [_]).length = n + 1
    rw [List.length_append, gr_len tk n]
    rfl
theorem gr_take (tk : List Int) : ∀ m n, n ≤ m → (gr tk m).take n = gr tk n
  | 0, n, h => by
    obtain rfl : n = 0 := by omega
    rfl
  | m + 1, n, h => by
    show (gr tk m ++ [_]).take n = _
    by_cases hn : n = m + 1
    · subst hn
      exact List.take_of_length_le (by rw [List.length_append, gr_len]; exact Nat.le_refl _)
    · rw [List.take_append_of_le_length (by rw [gr_len]; omega), gr_take tk m n (by omega)]
theorem uI_le (x : Int) : ∀ ys : List Int, (insU x ys).length ≤ ys.length + 1
  | [] => Nat.le_refl _
  | y :: ys => by
    unfold insU
    split
    · exact Nat.le_refl _
    · split
      · exact Nat.le_succ _
      · rw [List.length_cons, List.length_cons]
        have := uI_le x ys
        omega
theorem tk_len (t : Ti) : (srtU [t.1, t.2]).length ≤ 2 := by
  have h1 := uI_le t.1 (srtU [t.2])
  have h2 := uI_le t.2 []
  show (insU t.1 (insU t.2 [])).length ≤ 2
  have h1 : (insU t.1 (insU t.2 [])).length ≤ (insU t.2 []).length + 1 := h1
  have h2 : (insU t.2 []).length ≤ 1 := h2
  omega
theorem sub_lenI : ∀ {A B : List Int}, A.Nodup → (∀ x ∈ A, x ∈ B) → A.length ≤ B.length
  | [], B, _, _ => Nat.zero_le _
  | a :: A, B, h, hs => by
    obtain ⟨h1, h2⟩ := List.nodup_cons.mp h
    have ha := hs a List.mem_cons_self
    have hl := List.length_erase_of_mem ha
    have hp := List.length_pos_of_mem ha
    have := sub_lenI (A := A) (B := B.erase a) h2 fun x hx => (List.mem_erase_of_ne (fun (e : x = a) => h1 (e ▸ hx))).mpr (hs x (List.mem_cons_of_mem _ hx))
    rw [List.length_cons]
    omega
theorem inL_int (x : Int) : ∀ h : List Int, inL (.int x) (h.map .int) = .ok (decide (x ∈ h))
  | [] => rfl
  | y :: h => by
    show (eqD (.int y) (.int x) >>= fun e => inL (.int x) (h.map .int) >>= fun r => .ok (e || r)) = _
    rw [eq_int, inL_int x h]
    show Except.ok (decide (y = x) || decide (x ∈ h)) = _
    congr 1
    rw [Bool.eq_iff_iff]
    simp only [Bool.or_eq_true, decide_eq_true_eq, List.mem_cons]
    exact ⟨fun h => h.imp Eq.symm id, fun h => h.imp Eq.symm id⟩
/-- the least of 0, 1, 2 that is not in there -/
theorem mex_ok {rows : List Int} (h : rows.length ≤ 2) : ∃ X, (([0, 1, 2] : List Int).filter fun x => !decide (x ∈ rows)) = mex rows :: X := by
  unfold mex
  by_cases h0 : (0 : Int) ∈ rows
  · by_cases h1 : (1 : Int) ∈ rows
    · have h2 : (2 : Int) ∉ rows := fun h2 => by
        have := sub_lenI (A := [0, 1, 2]) (B := rows) (by decide) (by
          intro x hx
          simp only [List.mem_cons, List.not_mem_nil, or_false] at hx
          rcases hx with rfl | rfl | rfl <;> assumption)
        have : 3 ≤ rows.length := this
        omega
      exact ⟨[], by simp [h0, h1, h2]⟩
    · exact ⟨_, by simp [h0, h1]; rfl⟩
  · exact ⟨_, by simp [h0]; rfl⟩
def wsB : Ss := bodyOf (nthS 1 f20.body)
theorem st20 (n : Nat) (t : Ti) (i : Nat) (Mv : D) (s4 s5 s6 : Slot) (hi : i ≤ 200) : exes (cfgN FL W (callN FL W n)) wsB [.v (prD t), .v Mv, .o (.lst ((gr (tkT t) i).map .int)), .v (.int i), s4, s5, s6] =
    .ok (.next, [.v (prD t), .v Mv, .o (.lst ((gr (tkT t) (i + 1)).map .int)), .v (.int i), .v (.lst ((rowsOf (tkT t) (gr (tkT t) i)).map .int)), s5, s6]) := by
  have hln := gr_len (tkT t) i
  have hro : rowsOf (tkT t) (gr (tkT t) i) = ((srtU [t.1, t.2]).filter fun k => decide (0 < k) && decide (k ≤ (i : Int))).map fun k => (gr (tkT t) i).getD ((i : Int) - k).toNat 0 := by
    unfold rowsOf
    rw [hln]
    congr 1
    unfold tkT
    rw [List.filter_filter]
    refine List.filter_congr fun k _ => ?_
    exact Bool.and_comm _ _
  have hrl : (rowsOf (tkT t) (gr (tkT t) i)).length ≤ 2 := by
    rw [hro, List.length_map]
    exact Nat.le_trans (List.length_filter_le _ _) (tk_len t)
  have hg : gr (tkT t) (i + 1) = gr (tkT t) i ++ [mex (rowsOf (tkT t) (gr (tkT t) i))] := rfl
  rw [hg]
  generalize hrows : rowsOf (tkT t) (gr (tkT t) i) = rows at *
  generalize hf : gr (tkT t) i = f at *
  have k1 : den (cfgN FL W (callN FL W n)) (.comp [5] (.n 5) (.e (.sst (.v 0))) (.cons (.cmp2 .lt (.c (.int 0)) (.v 5) .le (.v 3)) .nil) (.ix (.b 2) (.bin .sub (.v 3) (.v 5)))) [.v (prD t), .v Mv, .o (.lst (f.map .int)), .v (.int i), s4, s5, s6] =
      .ok (.lst ((srtU [t.1, t.2]).map fun k => if (decide (0 < k) && decide (k ≤ (i : Int))) = true then [D.int (f.getD ((i : Int) - k).toNat 0)] else []).flatten, [.v (prD t), .v Mv, .o (.lst (f.map .int)), .v (.int i), s4, s5, s6]) := by
    refine comp_map (srtU [t.1, t.2]) D.int _ (fun ev => ∃ a, ev = [.v (prD t), .v Mv, .o (.lst (f.map .int)), .v (.int i), s4, a, s6]) ?_ ⟨_, rfl⟩ ?_ ?_
    · have hs : sstF (prD t) = .ok ((srtU [t.1, t.2]).map .int) := rfl
      have hs2 : seqD (.lst ((srtU [t.1, t.2]).map .int)) = .ok ((srtU [t.1, t.2]).map .int) := rfl
      generalize (srtU [t.1, t.2]).map D.int = Z at *
      generalize f.map D.int = FD at *
      generalize prD t = P at *
      simp [deni, den_c, den_v, den_tup, den_lst, den_emp, den_neg, den_nt, den_bin, den_cmp, den_cmp2, den_and, den_or, den_ife, den_ix, den_sl, den_call, den_bi, den_meth, den_lrg, den_sst, den_slk, den_pop, den_lse, den_popAt, exe_asg, exe_own, exe_two, exe_three, exe_aug, exe_put, exe_app, exe_ex, exe_ife, exe_ret, exe_retN, exe_brk, exe_cont, exe_pas, exes_nil, exes_cons, cfg_cl, cfg_br, deno, opn, dens, denIfs, opL, op1, op2, vals, val, peek, noX, rd, biF, isD, cmpF, binF, truthy, outs, bind, Except.bind, slotsOf, slotOf, ixF, place, negF, back, asgT, asgTs, setS, gtD, isF, ioF, isNonC, slO, hs, hs2]
    · rintro k hk _ ⟨a, rfl⟩
      refine ⟨[.v (prD t), .v Mv, .o (.lst (f.map .int)), .v (.int i), s4, .v (.int k), s6], ?_, _, rfl⟩
      by_cases h1 : 0 < k
      · by_cases h2 : k ≤ (i : Int)
        · have hx : ixF (.lst (f.map .int)) (.int ((i : Int) - k)) = .ok (.int (f.getD ((i : Int) - k).toNat 0)) := by
            have hj : ((i : Int) - k).toNat < f.length := by omega
            have := ixl_at (f.map .int) ((i : Int) - k).toNat (.int (f.getD ((i : Int) - k).toNat 0)) (by
              rw [List.getElem?_map, List.getD_eq_getElem?_getD, List.getElem?_eq_getElem hj]
              rfl)
            rw [show ((((i : Int) - k).toNat : Nat) : Int) = (i : Int) - k by omega] at this
            exact this
          generalize f.getD ((i : Int) - k).toNat 0 = y at *
          generalize f.map D.int = FD at *
          generalize prD t = P at *
          simp [itemP, den_c, den_v, den_tup, den_lst, den_emp, den_neg, den_nt, den_bin, den_cmp, den_cmp2, den_and, den_or, den_ife, den_ix, den_sl, den_call, den_bi, den_meth, den_lrg, den_sst, den_slk, den_pop, den_lse, den_popAt, exe_asg, exe_own, exe_two, exe_three, exe_aug, exe_put, exe_app, exe_ex, exe_ife, exe_ret, exe_retN, exe_brk, exe_cont, exe_pas, exes_nil, exes_cons, cfg_cl, cfg_br, deno, opn, dens, denIfs, opL, op1, op2, vals, val, peek, noX, rd, isD, cmpF, truthy, outs, bind, Except.bind, slotsOf, slotOf, place, negF, back, asgT, asgTs, setS, gtD, isF, ioF, isNonC, slO, wipe, h1, h2, b_sub, hx, lt_int]
        · generalize f.map D.int = FD at *
          generalize prD t = P at *
          simp [itemP, den_c, den_v, den_tup, den_lst, den_emp, den_neg, den_nt, den_bin, den_cmp, den_cmp2, den_and, den_or, den_ife, den_ix, den_sl, den_call, den_bi, den_meth, den_lrg, den_sst, den_slk, den_pop, den_lse, den_popAt, exe_asg, exe_own, exe_two, exe_three, exe_aug, exe_put, exe_app, exe_ex, exe_ife, exe_ret, exe_retN, exe_brk, exe_cont, exe_pas, exes_nil, exes_cons, cfg_cl, cfg_br, deno, opn, dens, denIfs, opL, op1, op2, vals, val, peek, noX, rd, isD, cmpF, truthy, outs, bind, Except.bind, slotsOf, slotOf, place, negF, back, asgT, asgTs, setS, gtD, isF, ioF, isNonC, slO, wipe, h1, h2, lt_int]
      · generalize f.map D.int = FD at *
        generalize prD t = P at *
        simp [itemP, den_c, den_v, den_tup, den_lst, den_emp, den_neg, den_nt, den_bin, den_cmp, den_cmp2, den_and, den_or, den_ife, den_ix, den_sl, den_call, den_bi, den_meth, den_lrg, den_sst, den_slk, den_pop, den_lse, den_popAt, exe_asg, exe_own, exe_two, exe_three, exe_aug, exe_put, exe_app, exe_ex, exe_ife, exe_ret, exe_retN, exe_brk, exe_cont, exe_pas, exes_nil, exes_cons, cfg_cl, cfg_br, deno, opn, dens, denIfs, opL, op1, op2, vals, val, peek, noX, rd, isD, cmpF, truthy, outs, bind, Except.bind, slotsOf, slotOf, place, negF, back, asgT, asgTs, setS, gtD, isF, ioF, isNonC, slO, wipe, h1, lt_int]
    · rintro _ ⟨a, rfl⟩
      rfl
  rw [flat_if (fun k => decide (0 < k) && decide (k ≤ (i : Int))) (fun k => D.int (f.getD ((i : Int) - k).toNat 0))] at k1
  have hm : (((srtU [t.1, t.2]).filter fun k => decide (0 < k) && decide (k ≤ (i : Int))).map fun k => D.int (f.getD ((i : Int) - k).toNat 0)) = rows.map .int := by
    rw [hro, List.map_map]
    rfl
  rw [hm] at k1
  have h0 : exe (cfgN FL W (callN FL W n)) (nthS 0 wsB) [.v (prD t), .v Mv, .o (.lst (f.map .int)), .v (.int i), s4, s5, s6] = .ok (.next, [.v (prD t), .v Mv, .o (.lst (f.map .int)), .v (.int i), .v (.lst (rows.map .int)), s5, s6]) := by
    generalize rows.map D.int = RD at *
    generalize f.map D.int = FD at *
    generalize prD t = P at *
    simp [den_c, den_v, den_tup, den_lst, den_emp, den_neg, den_nt, den_bin, den_cmp, den_cmp2, den_and, den_or, den_ife, den_ix, den_sl, den_call, den_bi, den_meth, den_lrg, den_sst, den_slk, den_pop, den_lse, den_popAt, exe_asg, exe_own, exe_two, exe_three, exe_aug, exe_put, exe_app, exe_ex, exe_ife, exe_ret, exe_retN, exe_brk, exe_cont, exe_pas, exes_nil, exes_cons, cfg_cl, cfg_br, deno, opn, dens, denIfs, opL, op1, op2, vals, val, peek, noX, rd, biF, isD, cmpF, binF, truthy, outs, bind, Except.bind, slotsOf, slotOf, ixF, place, negF, back, asgT, asgTs, setS, gtD, isF, ioF, isNonC, slO, wsB, nthS, bodyOf, f20, k1]
  have k2 : den (cfgN FL W (callN FL W n)) (.comp [6] (.n 6) (.rg (.cons (.c (.int 3)) .nil)) (.cons (.cmp .nin (.v 6) (.v 4)) .nil) (.v 6)) [.v (prD t), .v Mv, .o (.lst (f.map .int)), .v (.int i), .v (.lst (rows.map .int)), s5, s6] =
      .ok (.lst (([0, 1, 2] : List Int).map fun x => if (!decide (x ∈ rows)) = true then [D.int x] else []).flatten, [.v (prD t), .v Mv, .o (.lst (f.map .int)), .v (.int i), .v (.lst (rows.map .int)), s5, s6]) := by
    refine comp_map ([0, 1, 2] : List Int) D.int _ (fun ev => ∃ a, ev = [.v (prD t), .v Mv, .o (.lst (f.map .int)), .v (.int i), .v (.lst (rows.map .int)), s5, a]) ?_ ⟨_, rfl⟩ ?_ ?_
    · have hr : rgF [.int 3] = .ok [.int 0, .int 1, .int 2] := rfl
      generalize rows.map D.int = RD at *
      generalize f.map D.int = FD at *
      generalize prD t = P at *
      simp [deni, den_c, den_v, den_tup, den_lst, den_emp, den_neg, den_nt, den_bin, den_cmp, den_cmp2, den_and, den_or, den_ife, den_ix, den_sl, den_call, den_bi, den_meth, den_lrg, den_sst, den_slk, den_pop, den_lse, den_popAt, exe_asg, exe_own, exe_two, exe_three, exe_aug, exe_put, exe_app, exe_ex, exe_ife, exe_ret, exe_retN, exe_brk, exe_cont, exe_pas, exes_nil, exes_cons, cfg_cl, cfg_br, deno, opn, dens, denIfs, opL, op1, op2, vals, val, peek, noX, rd, biF, isD, cmpF, binF, truthy, outs, bind, Except.bind, slotsOf, slotOf, ixF, place, negF, back, asgT, asgTs, setS, gtD, isF, ioF, isNonC, slO, hr]
    · rintro x hx _ ⟨a, rfl⟩
      have hin : inF (.int x) (.lst (rows.map .int)) = .ok (decide (x ∈ rows)) := inL_int x rows
      refine ⟨[.v (prD t), .v Mv, .o (.lst (f.map .int)), .v (.int i), .v (.lst (rows.map .int)), s5, .v (.int x)], ?_, _, rfl⟩
      generalize rows.map D.int = RD at *
      generalize f.map D.int = FD at *
      generalize prD t = P at *
      cases hd : decide (x ∈ rows) <;> rw [hd] at hin <;> simp [itemP, den_c, den_v, den_tup, den_lst, den_emp, den_neg, den_nt, den_bin, den_cmp, den_cmp2, den_and, den_or, den_ife, den_ix, den_sl, den_call, den_bi, den_meth, den_lrg, den_sst, den_slk, den_pop, den_lse, den_popAt, exe_asg, exe_own, exe_two, exe_three, exe_aug, exe_put, exe_app, exe_ex, exe_ife, exe_ret, exe_retN, exe_brk, exe_cont, exe_pas, exes_nil, exes_cons, cfg_cl, cfg_br, deno, opn, dens, denIfs, opL, op1, op2, vals, val, peek, noX, rd, biF, isD, cmpF, binF, truthy, outs, bind, Except.bind, slotsOf, slotOf, ixF, place, negF, back, asgT, asgTs, setS, gtD, isF, ioF, isNonC, slO, wipe, hin]
    · rintro _ ⟨a, rfl⟩
      rfl
  obtain ⟨X, hX⟩ := mex_ok hrl
  rw [flat_if (fun x => !decide (x ∈ rows)) D.int, hX] at k2
  have h1 : exe (cfgN FL W (callN FL W n)) (nthS 1 wsB) [.v (prD t), .v Mv, .o (.lst (f.map .int)), .v (.int i), .v (.lst (rows.map .int)), s5, s6] = .ok (.next, [.v (prD t), .v Mv, .o (.lst ((f ++ [mex rows]).map .int)), .v (.int i), .v (.lst (rows.map .int)), s5, s6]) := by
    have hx := ix_hd (mex rows) X
    have hz : (f.map D.int).length < sz := by rw [List.length_map]; unfold sz; omega
    rw [List.map_append, List.map_cons, List.map_nil]
    generalize (mex rows :: X).map D.int = XD at *
    generalize mex rows = y at *
    generalize rows.map D.int = RD at *
    generalize f.map D.int = FD at *
    generalize prD t = P at *
    have ho : ownL [.v P, .v Mv, .o (.lst FD), .v (.int i), .v (.lst RD), s5, s6] 2 = .ok () := rfl
    have ha : appF [.v P, .v Mv, .o (.lst FD), .v (.int i), .v (.lst RD), s5, s6] 2 (.int y) = .ok [.v P, .v Mv, .o (.lst (FD ++ [.int y])), .v (.int i), .v (.lst RD), s5, s6] := by
      show (if FD.length < sz then (.ok [.v P, .v Mv, .o (.lst (FD ++ [.int y])), .v (.int i), .v (.lst RD), s5, s6] : M Env) else stk) = _
      rw [if_pos hz]
    simp [den_c, den_v, den_tup, den_lst, den_emp, den_neg, den_nt, den_bin, den_cmp, den_cmp2, den_and, den_or, den_ife, den_ix, den_sl, den_call, den_bi, den_meth, den_lrg, den_sst, den_slk, den_pop, den_lse, den_popAt, exe_asg, exe_own, exe_two, exe_three, exe_aug, exe_put, exe_app, exe_ex, exe_ife, exe_ret, exe_retN, exe_brk, exe_cont, exe_pas, exes_nil, exes_cons, cfg_cl, cfg_br, deno, opn, dens, denIfs, opL, op1, op2, vals, val, peek, noX, rd, biF, isD, cmpF, binF, truthy, outs, bind, Except.bind, slotsOf, slotOf, place, negF, back, asgT, asgTs, setS, gtD, isF, ioF, isNonC, slO, wsB, nthS, bodyOf, f20, k2, hx, ho, ha]
  exact (exes_ok (r := .cons (nthS 1 wsB) .nil) h0).trans ((exes_ok (r := .nil) h1).trans exes_nil)
theorem rg_m1 (n : Nat) (P : D) (m : Int) (RL : List D) (m1 : Int) (b1 : binF .add (.int m) (.int 1) = .ok (.int m1)) (hr : rgF [.int m1] = .ok RL) : deni (cfgN FL W (callN FL W n)) (.rg (.cons (.bin .add (.v 1) (.c (.int 1))) .nil)) [.v P, .v (.int m), .o (.lst []), .nil, .nil, .nil, .nil] = .ok (RL, [.v P, .v (.int m), .o (.lst []), .nil, .nil, .nil, .nil]) := by
  simp [deni, den_c, den_v, den_tup, den_lst, den_emp, den_neg, den_nt, den_bin, den_cmp, den_cmp2, den_and, den_or, den_ife, den_ix, den_sl, den_call, den_bi, den_meth, den_lrg, den_sst, den_slk, den_pop, den_lse, den_popAt, exe_asg, exe_own, exe_two, exe_three, exe_aug, exe_put, exe_app, exe_ex, exe_ife, exe_ret, exe_retN, exe_brk, exe_cont, exe_pas, exes_nil, exes_cons, cfg_cl, cfg_br, deno, opn, dens, denIfs, opL, op1, op2, vals, val, peek, noX, rd, isD, cmpF, truthy, outs, bind, Except.bind, slotsOf, slotOf, place, negF, back, asgT, asgTs, setS, gtD, isF, ioF, isNonC, slO, b1, hr]
theorem c20 (n : Nat) (t : Ti) (m : Nat) (hm : m ≤ 120) : callN FL W (n + 1) 20 [.v (prD t), .v (.int m)] = .ok (.lst ((gr (tkT t) (m + 1)).map .int), [.nil, .nil]) := by
  have hr : rgF [.int ((m : Int) + 1)] = .ok ((List.range (m + 1)).map fun i : Nat => D.int (i : Int)) := by
    have := rg_len (n := m + 1) (by omega)
    rw [show ((m + 1 : Nat) : Int) = (m : Int) + 1 by omega] at this
    exact this
  have h0 : exe (cfgN FL W (callN FL W n)) (nthS 0 f20.body) [.v (prD t), .v (.int m), .nil, .nil, .nil, .nil, .nil] = .ok (.next, [.v (prD t), .v (.int m), .o (.lst []), .nil, .nil, .nil, .nil]) := by
    generalize prD t = P at *
    simp [den_c, den_v, den_tup, den_lst, den_emp, den_neg, den_nt, den_bin, den_cmp, den_cmp2, den_and, den_or, den_ife, den_ix, den_sl, den_call, den_bi, den_meth, den_lrg, den_sst, den_slk, den_pop, den_lse, den_popAt, exe_asg, exe_own, exe_two, exe_three, exe_aug, exe_put, exe_app, exe_ex, exe_ife, exe_ret, exe_retN, exe_brk, exe_cont, exe_pas, exes_nil, exes_cons, cfg_cl, cfg_br, deno, opn, dens, denIfs, opL, op1, op2, vals, val, peek, noX, rd, biF, isD, cmpF, binF, truthy, outs, bind, Except.bind, slotsOf, slotOf, ixF, place, negF, back, asgT, asgTs, setS, gtD, isF, ioF, isNonC, slO, nthS, f20]
  obtain ⟨ev, h1, s3, s4, s5, s6, rfl⟩ := for_inv (C := cfgN FL W (callN FL W n)) (t := .n 3) (it := .rg (.cons (.bin .add (.v 1) (.c (.int 1))) .nil)) (body := wsB)
    (env := [.v (prD t), .v (.int m), .o (.lst []), .nil, .nil, .nil, .nil]) (env1 := [.v (prD t), .v (.int m), .o (.lst []), .nil, .nil, .nil, .nil]) ((List.range (m + 1)).map fun i : Nat => D.int (i : Int))
    (fun i ev => ∃ s3 s4 s5 s6, ev = [.v (prD t), .v (.int m), .o (.lst ((gr (tkT t) i).map .int)), s3, s4, s5, s6])
    (by
      exact rg_m1 n (prD t) m _ _ (b_add _ _) hr) ⟨_, _, _, _, rfl⟩ (by
      rintro i d _ hd ⟨s3, s4, s5, s6, rfl⟩
      have hi : i < m + 1 := by
        by_cases q : i < ((List.range (m + 1)).map fun i : Nat => D.int (i : Int)).length
        · simpa using q
        · rw [List.getElem?_eq_none (by omega)] at hd; cases hd
      have hd2 : d = .int i := by
        rw [List.getElem?_map, List.getElem?_range hi] at hd
        exact (Option.some.inj hd).symm
      subst hd2
      exact ⟨_, st20 (W := W) n t i (.int m) s4 s5 s6 (by omega), _, _, _, _, rfl⟩)
  have hln : ((List.range (m + 1)).map fun i : Nat => D.int (i : Int)).length = m + 1 := by simp
  rw [hln] at h1
  have h1 : exe (cfgN FL W (callN FL W n)) (nthS 1 f20.body) [.v (prD t), .v (.int m), .o (.lst []), .nil, .nil, .nil, .nil] = .ok (.next, [.v (prD t), .v (.int m), .o (.lst ((gr (tkT t) (m + 1)).map .int)), s3, s4, s5, s6]) := h1
  have h2 : ∃ e, exe (cfgN FL W (callN FL W n)) (nthS 2 f20.body) [.v (prD t), .v (.int m), .o (.lst ((gr (tkT t) (m + 1)).map .int)), s3, s4, s5, s6] = .ok (.ret (.lst ((gr (tkT t) (m + 1)).map .int)), e) ∧ outs f20.br e = [.nil, .nil] := by
    generalize ((gr (tkT t) (m + 1)).map D.int) = FD at *
    generalize prD t = P at *
    refine ⟨_, by simp [den_c, den_v, den_tup, den_lst, den_emp, den_neg, den_nt, den_bin, den_cmp, den_cmp2, den_and, den_or, den_ife, den_ix, den_sl, den_call, den_bi, den_meth, den_lrg, den_sst, den_slk, den_pop, den_lse, den_popAt, exe_asg, exe_own, exe_two, exe_three, exe_aug, exe_put, exe_app, exe_ex, exe_ife, exe_ret, exe_retN, exe_brk, exe_cont, exe_pas, exes_nil, exes_cons, cfg_cl, cfg_br, deno, opn, dens, denIfs, opL, op1, op2, vals, val, peek, noX, rd, biF, isD, cmpF, binF, truthy, outs, bind, Except.bind, slotsOf, slotOf, ixF, place, negF, back, asgT, asgTs, setS, gtD, isF, ioF, isNonC, slO, nthS, f20]; rfl, rfl⟩
  obtain ⟨e, h2, h3⟩ := h2
  have := callN_ret (ss := [.v (prD t), .v (.int m)]) FL20 ⟨rfl, rfl⟩ ((exes_ok (r := .cons (nthS 1 f20.body) (.cons (nthS 2 f20.body) .nil)) h0).trans ((exes_ok (r := .cons (nthS 2 f20.body) .nil) h1).trans (exes_ret (r := .nil) h2)))
  rw [h3] at this
  exact this
/-! random games -/
def gmB : Ss := bodyOf (nthS 1 f19.body)
theorem c19 (n : Nat) (a b : Int) : ∃ gm a' b', callN FL W (n + 2) 19 [cupS a b, .v (.int 3), .v (.int 100)] = .ok (gmD gm, [cupS a' b', .nil, .nil]) ∧ 1 ≤ gm.length ∧ gm.length ≤ 3 ∧ ∀ g ∈ gm, 0 ≤ g.1 ∧ g.1 ≤ 100 ∧ g.2 ∈ TB := by
  obtain ⟨r0, a1, b1, e1, hr1, hr2⟩ := c17 (W := W) n a b 3 (by decide) (by decide)
  obtain ⟨k, rfl⟩ : ∃ k : Nat, r0 = k := ⟨r0.toNat, by omega⟩
  have hr : rgF [.int (1 + (k : Int))] = .ok ((List.range (k + 1)).map fun i : Nat => D.int (i : Int)) := by
    have := rg_len (n := k + 1) (by omega)
    rw [show ((k + 1 : Nat) : Int) = 1 + (k : Int) by omega] at this
    exact this
  have h0 : exe (cfgN FL W (callN FL W (n + 1))) (nthS 0 f19.body) [cupS a b, .v (.int 3), .v (.int 100), .nil, .nil, .nil, .nil] = .ok (.next, [cupS a b, .v (.int 3), .v (.int 100), .v (.tup []), .nil, .nil, .nil]) := by
    unfold cupS
    simp [den_c, den_v, den_tup, den_lst, den_emp, den_neg, den_nt, den_bin, den_cmp, den_cmp2, den_and, den_or, den_ife, den_ix, den_sl, den_call, den_bi, den_meth, den_lrg, den_sst, den_slk, den_pop, den_lse, den_popAt, exe_asg, exe_own, exe_two, exe_three, exe_aug, exe_put, exe_app, exe_ex, exe_ife, exe_ret, exe_retN, exe_brk, exe_cont, exe_pas, exes_nil, exes_cons, cfg_cl, cfg_br, deno, opn, dens, denIfs, opL, op1, op2, vals, val, peek, noX, rd, biF, isD, cmpF, binF, truthy, outs, bind, Except.bind, slotsOf, slotOf, ixF, place, negF, back, asgT, asgTs, setS, gtD, isF, ioF, isNonC, slO, nthS, f19]
  obtain ⟨ev, h1, a3, b3, gm, s4, s5, s6, rfl, hl, hg⟩ := for_inv (C := cfgN FL W (callN FL W (n + 1))) (t := .n 4) (it := .rg (.cons (.bin .add (.c (.int 1)) (.call 17 (.cons (.b 0) (.cons (.v 1) .nil)))) .nil)) (body := gmB)
    (env := [cupS a b, .v (.int 3), .v (.int 100), .v (.tup []), .nil, .nil, .nil]) (env1 := [cupS a1 b1, .v (.int 3), .v (.int 100), .v (.tup []), .nil, .nil, .nil]) ((List.range (k + 1)).map fun i : Nat => D.int (i : Int))
    (fun i ev => ∃ (a b : Int) (gm : List Ge) (s4 s5 s6 : Slot), ev = [cupS a b, .v (.int 3), .v (.int 100), .v (gmD gm), s4, s5, s6] ∧ gm.length = i ∧ ∀ g ∈ gm, 0 ≤ g.1 ∧ g.1 ≤ 100 ∧ g.2 ∈ TB)
    (by
      generalize ((List.range (k + 1)).map fun i : Nat => D.int (i : Int)) = RL at *
      unfold cupS at *
      have b1 : binF .add (.int 1) (.int (k : Int)) = .ok (.int (1 + (k : Int))) := b_add _ _
      generalize 1 + (k : Int) = k1 at *
      simp [deni, den_c, den_v, den_tup, den_lst, den_emp, den_neg, den_nt, den_bin, den_cmp, den_cmp2, den_and, den_or, den_ife, den_ix, den_sl, den_call, den_bi, den_meth, den_lrg, den_sst, den_slk, den_pop, den_lse, den_popAt, exe_asg, exe_own, exe_two, exe_three, exe_aug, exe_put, exe_app, exe_ex, exe_ife, exe_ret, exe_retN, exe_brk, exe_cont, exe_pas, exes_nil, exes_cons, cfg_cl, cfg_br, deno, opn, dens, denIfs, opL, op1, op2, vals, val, peek, noX, rd, isD, cmpF, truthy, outs, bind, Except.bind, slotsOf, slotOf, place, negF, back, asgT, asgTs, setS, gtD, isF, ioF, isNonC, slO, b1, FL17, f17, e1, hr]) ⟨a1, b1, [], .nil, .nil, .nil, rfl, rfl, fun _ h => by cases h⟩ (by
      rintro i d _ hd ⟨a, b, gm, s4, s5, s6, rfl, hl, hg⟩
      have hi : i < k + 1 := by
        by_cases q : i < ((List.range (k + 1)).map fun i : Nat => D.int (i : Int)).length
        · simpa using q
        · rw [List.getElem?_eq_none (by omega)] at hd; cases hd
      obtain ⟨x, a4, b4, g1, x1, x2⟩ := c17 (W := W) n a b 7 (by decide) (by decide)
      obtain ⟨y, a5, b5, g2, y1, y2⟩ := c17 (W := W) n a4 b4 6 (by decide) (by decide)
      obtain ⟨z, a6, b6, g3, z1, z2⟩ := c17 (W := W) n a5 b5 101 (by decide) (by decide)
      have ht := mnx_ok (x := x) (y := 1 + y) ⟨x1, by omega⟩ ⟨by omega, by omega⟩
      obtain ⟨r, hr, hrt⟩ := row_of ht (by show 1 ≤ mxx x (1 + y); unfold mxx; split <;> omega)
      have hpr : prD r.t = .tup [.int (mn x (1 + y)), .int (mxx x (1 + y))] := by rw [hrt]; rfl
      have ha : binF .add (gmD gm) (.tup [.tup [.int z, prD r.t]]) = .ok (gmD (gm ++ [(z, r)])) := by
        have hz : (gm.map geD).length + 1 ≤ sz := by rw [List.length_map]; unfold sz; omega
        unfold gmD
        rw [List.map_append]
        show (if (gm.map geD).length + 1 ≤ sz then (.ok (.tup (gm.map geD ++ [.tup [.int z, prD r.t]])) : M D) else stk) = _
        rw [if_pos hz]
        rfl
      rw [hpr] at ha
      refine ⟨[cupS a6 b6, .v (.int 3), .v (.int 100), .v (gmD (gm ++ [(z, r)])), .v d, .v (.int x), .v (.int (1 + y))], ?_, a6, b6, gm ++ [(z, r)], _, _, _, rfl, by rw [List.length_append, hl]; rfl, ?_⟩
      · have b1 : (100 : Int) + 1 = 101 := rfl
        generalize gmD (gm ++ [(z, r)]) = G2 at *
        generalize gmD gm = Gd at *
        unfold cupS at *
        simp [den_c, den_v, den_tup, den_lst, den_emp, den_neg, den_nt, den_bin, den_cmp, den_cmp2, den_and, den_or, den_ife, den_ix, den_sl, den_call, den_bi, den_meth, den_lrg, den_sst, den_slk, den_pop, den_lse, den_popAt, exe_asg, exe_own, exe_two, exe_three, exe_aug, exe_put, exe_app, exe_ex, exe_ife, exe_ret, exe_retN, exe_brk, exe_cont, exe_pas, exes_nil, exes_cons, cfg_cl, cfg_br, deno, opn, dens, denIfs, opL, op1, op2, vals, val, peek, noX, rd, isD, cmpF, truthy, outs, bind, Except.bind, slotsOf, slotOf, place, negF, back, asgT, asgTs, setS, gtD, ioF, isNonC, isF, gmB, nthS, bodyOf, f19, FL17, f17, g1, g2, g3, bi_mn, bi_mx, b_add, b1, ha]
      · intro g hgm
        rcases List.mem_append.mp hgm with hgm | hgm
        · exact hg g hgm
        · rw [List.mem_singleton.mp hgm]
          exact ⟨z1, by show z ≤ 100; omega, hr⟩)
  have hln : ((List.range (k + 1)).map fun i : Nat => D.int (i : Int)).length = k + 1 := by simp
  have h1 : exe (cfgN FL W (callN FL W (n + 1))) (nthS 1 f19.body) [cupS a b, .v (.int 3), .v (.int 100), .v (.tup []), .nil, .nil, .nil] = .ok (.next, [cupS a3 b3, .v (.int 3), .v (.int 100), .v (gmD gm), s4, s5, s6]) := h1
  have h2 : exe (cfgN FL W (callN FL W (n + 1))) (nthS 2 f19.body) [cupS a3 b3, .v (.int 3), .v (.int 100), .v (gmD gm), s4, s5, s6] = .ok (.ret (gmD gm), [cupS a3 b3, .v (.int 3), .v (.int 100), .v (gmD gm), s4, s5, s6]) := by
    generalize gmD gm = Gd at *
    unfold cupS
    simp [den_c, den_v, den_tup, den_lst, den_emp, den_neg, den_nt, den_bin, den_cmp, den_cmp2, den_and, den_or, den_ife, den_ix, den_sl, den_call, den_bi, den_meth, den_lrg, den_sst, den_slk, den_pop, den_lse, den_popAt, exe_asg, exe_own, exe_two, exe_three, exe_aug, exe_put, exe_app, exe_ex, exe_ife, exe_ret, exe_retN, exe_brk, exe_cont, exe_pas, exes_nil, exes_cons, cfg_cl, cfg_br, deno, opn, dens, denIfs, opL, op1, op2, vals, val, peek, noX, rd, biF, isD, cmpF, binF, truthy, outs, bind, Except.bind, slotsOf, slotOf, ixF, place, negF, back, asgT, asgTs, setS, gtD, isF, ioF, isNonC, slO, nthS, f19]
  refine ⟨gm, a3, b3, callN_ret (ss := [cupS a b, .v (.int 3), .v (.int 100)]) FL19 ⟨rfl, rfl⟩ ((exes_ok (r := .cons (nthS 1 f19.body) (.cons (nthS 2 f19.body) .nil)) h0).trans ((exes_ok (r := .cons (nthS 2 f19.body) .nil) h1).trans (exes_ret (r := .nil) h2))), by omega, by omega, hg⟩
def lpB : Ss := bodyOf (nthS 1 f22.body)
def gmL : Ss := bodyOf (nthS 10 lpB)
theorem rg_iv {a b : Int} (h0 : 0 ≤ a) (h1 : a ≤ 1000) (h2 : 0 ≤ b) (h3 : b ≤ 1000) : rgF [.int a, .int b] = .ok ((iv a b).map .int) := by
  show (if -(2 ^ 62) ≤ a ∧ a < 2 ^ 62 ∧ -(2 ^ 62) ≤ b ∧ b < 2 ^ 62 ∧ b - a ≤ 16777216 then (.ok (upTo a (b - a).toNat) : M (List D)) else stk) = _
  rw [if_pos ⟨by omega, by omega, by omega, by omega, by omega⟩, upTo_range]
  unfold iv
  rw [List.map_map]
  rfl
theorem iv_mem {a b x : Int} (h : x ∈ iv a b) : a ≤ x ∧ x < b := by
  unfold iv at h
  obtain ⟨i, hi, rfl⟩ := List.mem_map.mp h
  have := List.mem_range.mp hi
  omega
theorem TBb : TB.all (fun r => decide (r.bg = 0) && decide (0 < r.pd)) = true := by decide +kernel
theorem row_b {r : Row} (hr : r ∈ TB) : r.bg = 0 ∧ 0 < r.pd := by
  have h := List.all_eq_true.mp TBb r hr
  simp only [Bool.and_eq_true, decide_eq_true_eq] at h
  exact h
theorem ix_G2 {r : Row} (f : RF r) {i : Int} (h0 : 0 ≤ i) (h1 : i < 121) : ixF (.lst (r.G.map .int)) (.int i) = .ok (.int (gA r.G i)) := by
  have := ix_G f 121 (Nat.le_refl _) h0 (by omega)
  rw [List.take_of_length_le (by rw [f.l]; exact Nat.le_refl _)] at this
  exact this
theorem badC (cl : CallT) {r : Row} (hr : r ∈ TB) {s : Int} (hs : 0 ≤ s ∧ s < 40) (sx cd : D) (s2 s3 s4 s5 s6 s7 s8 s9 s10 s11 s12 s13 s14 s15 s16 s17 s18 s19 s20 : Slot) : den (cfgN FL W cl) (.comp [20] (.n 20) (.rg (.cons (.v 13) (.cons (.c (.int 80)) .nil))) (.cons (.cmp .ne (.ix (.v 11) (.v 20)) (.ix (.v 11) (.bin .add (.v 20) (.v 19)))) .nil) (.v 20)) [.v sx, .o cd, s2, s3, s4, s5, s6, s7, s8, s9, s10, .v (.lst (r.G.map .int)), s12, .v (.int r.bg), s14, s15, s16, s17, s18, .v (.int s), s20] = .ok (.lst ((badsOf r s).map .int), [.v sx, .o cd, s2, s3, s4, s5, s6, s7, s8, s9, s10, .v (.lst (r.G.map .int)), s12, .v (.int r.bg), s14, s15, s16, s17, s18, .v (.int s), s20]) := by
  have f := row_f hr
  have hb := row_b hr
  have k1 : den (cfgN FL W cl) (.comp [20] (.n 20) (.rg (.cons (.v 13) (.cons (.c (.int 80)) .nil))) (.cons (.cmp .ne (.ix (.v 11) (.v 20)) (.ix (.v 11) (.bin .add (.v 20) (.v 19)))) .nil) (.v 20)) [.v sx, .o cd, s2, s3, s4, s5, s6, s7, s8, s9, s10, .v (.lst (r.G.map .int)), s12, .v (.int r.bg), s14, s15, s16, s17, s18, .v (.int s), s20] = .ok (.lst ((iv r.bg 80).map fun i => if decide (gA r.G i ≠ gA r.G (i + s)) = true then [D.int i] else []).flatten, [.v sx, .o cd, s2, s3, s4, s5, s6, s7, s8, s9, s10, .v (.lst (r.G.map .int)), s12, .v (.int r.bg), s14, s15, s16, s17, s18, .v (.int s), s20]) := by
    refine comp_map (iv r.bg 80) D.int _ (fun ev => ∃ x, ev = [.v sx, .o cd, s2, s3, s4, s5, s6, s7, s8, s9, s10, .v (.lst (r.G.map .int)), s12, .v (.int r.bg), s14, s15, s16, s17, s18, .v (.int s), x]) ?_ ⟨_, rfl⟩ ?_ ?_
    · have h := rg_iv (a := r.bg) (b := 80) f.b0 (by omega) (by decide) (by decide)
      generalize (iv r.bg 80).map D.int = Z at *
      generalize r.G.map D.int = GD at *
      simp [deni, den_c, den_v, den_tup, den_lst, den_emp, den_neg, den_nt, den_bin, den_cmp, den_cmp2, den_and, den_or, den_ife, den_ix, den_sl, den_call, den_bi, den_meth, den_lrg, den_sst, den_slk, den_pop, den_lse, den_popAt, exe_asg, exe_own, exe_two, exe_three, exe_aug, exe_put, exe_app, exe_ex, exe_ife, exe_ret, exe_retN, exe_brk, exe_cont, exe_pas, exes_nil, exes_cons, cfg_cl, cfg_br, deno, opn, dens, denIfs, opL, op1, op2, vals, val, peek, noX, rd, biF, isD, cmpF, binF, truthy, outs, bind, Except.bind, slotsOf, slotOf, ixF, place, negF, back, asgT, asgTs, setS, gtD, isF, ioF, isNonC, slO, h]
    · rintro i hi _ ⟨x, rfl⟩
      have hi := iv_mem hi
      have x1 := ix_G2 f (i := i) (by omega) (by omega)
      have x2 := ix_G2 f (i := i + s) (by omega) (by omega)
      have hq := eq_int (gA r.G i) (gA r.G (i + s))
      refine ⟨[.v sx, .o cd, s2, s3, s4, s5, s6, s7, s8, s9, s10, .v (.lst (r.G.map .int)), s12, .v (.int r.bg), s14, s15, s16, s17, s18, .v (.int s), .v (.int i)], ?_, _, rfl⟩
      have hd : decide (gA r.G i ≠ gA r.G (i + s)) = !decide (gA r.G i = gA r.G (i + s)) := by by_cases h : gA r.G i = gA r.G (i + s) <;> simp [h]
      rw [hd]
      generalize gA r.G (i + s) = y2 at *
      generalize gA r.G i = y1 at *
      generalize r.G.map D.int = GD at *
      cases hc : decide (y1 = y2) <;> rw [hc] at hq <;> simp [itemP, den_c, den_v, den_tup, den_lst, den_emp, den_neg, den_nt, den_bin, den_cmp, den_cmp2, den_and, den_or, den_ife, den_ix, den_sl, den_call, den_bi, den_meth, den_lrg, den_sst, den_slk, den_pop, den_lse, den_popAt, exe_asg, exe_own, exe_two, exe_three, exe_aug, exe_put, exe_app, exe_ex, exe_ife, exe_ret, exe_retN, exe_brk, exe_cont, exe_pas, exes_nil, exes_cons, cfg_cl, cfg_br, deno, opn, dens, denIfs, opL, op1, op2, vals, val, peek, noX, rd, isD, cmpF, truthy, outs, bind, Except.bind, slotsOf, slotOf, place, negF, back, asgT, asgTs, setS, gtD, isF, ioF, isNonC, slO, wipe, x1, x2, b_add, hq]
    · rintro _ ⟨x, rfl⟩
      rfl
  rw [flat_if (fun i => decide (gA r.G i ≠ gA r.G (i + s))) D.int] at k1
  exact k1
theorem goodC (cl : CallT) {r : Row} (hr : r ∈ TB) (sx cd : D) (s2 s3 s4 s5 s6 s7 s8 s9 s10 s11 s12 s13 s14 s15 s16 s17 s18 s19 s20 : Slot) : den (cfgN FL W cl) (.comp [19] (.n 19) (.rg (.cons (.c (.int 1)) (.cons (.c (.int 40)) .nil))) (.cons (.cmp .eq (.comp [20] (.n 20) (.rg (.cons (.v 13) (.cons (.c (.int 80)) .nil))) (.cons (.cmp .ne (.ix (.v 11) (.v 20)) (.ix (.v 11) (.bin .add (.v 20) (.v 19)))) .nil) (.v 20)) (.lst .nil)) .nil) (.v 19)) [.v sx, .o cd, s2, s3, s4, s5, s6, s7, s8, s9, s10, .v (.lst (r.G.map .int)), s12, .v (.int r.bg), s14, s15, s16, s17, s18, s19, s20] = .ok (.lst ((goodOf r).map .int), [.v sx, .o cd, s2, s3, s4, s5, s6, s7, s8, s9, s10, .v (.lst (r.G.map .int)), s12, .v (.int r.bg), s14, s15, s16, s17, s18, s19, s20]) := by
  have k1 : den (cfgN FL W cl) (.comp [19] (.n 19) (.rg (.cons (.c (.int 1)) (.cons (.c (.int 40)) .nil))) (.cons (.cmp .eq (.comp [20] (.n 20) (.rg (.cons (.v 13) (.cons (.c (.int 80)) .nil))) (.cons (.cmp .ne (.ix (.v 11) (.v 20)) (.ix (.v 11) (.bin .add (.v 20) (.v 19)))) .nil) (.v 20)) (.lst .nil)) .nil) (.v 19)) [.v sx, .o cd, s2, s3, s4, s5, s6, s7, s8, s9, s10, .v (.lst (r.G.map .int)), s12, .v (.int r.bg), s14, s15, s16, s17, s18, s19, s20] = .ok (.lst ((iv 1 40).map fun s => if (badsOf r s).isEmpty = true then [D.int s] else []).flatten, [.v sx, .o cd, s2, s3, s4, s5, s6, s7, s8, s9, s10, .v (.lst (r.G.map .int)), s12, .v (.int r.bg), s14, s15, s16, s17, s18, s19, s20]) := by
    refine comp_map (iv 1 40) D.int _ (fun ev => ∃ x, ev = [.v sx, .o cd, s2, s3, s4, s5, s6, s7, s8, s9, s10, .v (.lst (r.G.map .int)), s12, .v (.int r.bg), s14, s15, s16, s17, s18, x, s20]) ?_ ⟨_, rfl⟩ ?_ ?_
    · have h := rg_iv (a := 1) (b := 40) (by decide) (by decide) (by decide) (by decide)
      generalize (iv 1 40).map D.int = Z at *
      generalize r.G.map D.int = GD at *
      simp [deni, den_c, den_v, den_tup, den_lst, den_emp, den_neg, den_nt, den_bin, den_cmp, den_cmp2, den_and, den_or, den_ife, den_ix, den_sl, den_call, den_bi, den_meth, den_lrg, den_sst, den_slk, den_pop, den_lse, den_popAt, exe_asg, exe_own, exe_two, exe_three, exe_aug, exe_put, exe_app, exe_ex, exe_ife, exe_ret, exe_retN, exe_brk, exe_cont, exe_pas, exes_nil, exes_cons, cfg_cl, cfg_br, deno, opn, dens, denIfs, opL, op1, op2, vals, val, peek, noX, rd, biF, isD, cmpF, binF, truthy, outs, bind, Except.bind, slotsOf, slotOf, ixF, place, negF, back, asgT, asgTs, setS, gtD, isF, ioF, isNonC, slO, h]
    · rintro s hs _ ⟨x, rfl⟩
      have hs := iv_mem hs
      have kb := badC (W := W) cl hr (s := s) ⟨by omega, hs.2⟩ sx cd s2 s3 s4 s5 s6 s7 s8 s9 s10 (.v (.lst (r.G.map .int))) s12 (.v (.int r.bg)) s14 s15 s16 s17 s18 (.v (.int s)) s20
      have hq : eqD (.lst ((badsOf r s).map .int)) (.lst []) = .ok (badsOf r s).isEmpty := by
        cases badsOf r s <;> rfl
      refine ⟨[.v sx, .o cd, s2, s3, s4, s5, s6, s7, s8, s9, s10, .v (.lst (r.G.map .int)), s12, .v (.int r.bg), s14, s15, s16, s17, s18, .v (.int s), s20], ?_, _, rfl⟩
      generalize (badsOf r s).map D.int = BD at *
      generalize r.G.map D.int = GD at *
      cases hc : (badsOf r s).isEmpty <;> rw [hc] at hq <;> simp [itemP, den_c, den_v, den_tup, den_lst, den_emp, den_neg, den_nt, den_bin, den_cmp, den_cmp2, den_and, den_or, den_ife, den_ix, den_sl, den_call, den_bi, den_meth, den_lrg, den_sst, den_slk, den_pop, den_lse, den_popAt, exe_asg, exe_own, exe_two, exe_three, exe_aug, exe_put, exe_app, exe_ex, exe_ife, exe_ret, exe_retN, exe_brk, exe_cont, exe_pas, exes_nil, exes_cons, cfg_cl, cfg_br, deno, opn, dens, denIfs, opL, op1, op2, vals, val, peek, noX, rd, isD, cmpF, truthy, outs, bind, Except.bind, slotsOf, slotOf, place, negF, back, asgT, asgTs, setS, gtD, isF, ioF, isNonC, slO, wipe, kb, hq]
    · rintro _ ⟨x, rfl⟩
      rfl
  rw [flat_if (fun s => (badsOf r s).isEmpty) D.int] at k1
  exact k1
theorem leastC (cl : CallT) {r : Row} (hr : r ∈ TB) (w : Int) (sx cd : D) (s2 s3 s4 s5 s6 s7 s8 s9 s10 s11 s12 s13 s14 s15 s16 s17 s18 s19 s20 : Slot) : den (cfgN FL W cl) (.comp [20] (.n 20) (.rg (.cons (.c (.int 121)) .nil)) (.cons (.cmp .eq (.ix (.v 11) (.v 20)) (.v 16)) .nil) (.v 20)) [.v sx, .o cd, s2, s3, s4, s5, s6, s7, s8, s9, s10, .v (.lst (r.G.map .int)), s12, s13, s14, s15, .v (.int w), s17, s18, s19, s20] = .ok (.lst ((atOf r.G w).map .int), [.v sx, .o cd, s2, s3, s4, s5, s6, s7, s8, s9, s10, .v (.lst (r.G.map .int)), s12, s13, s14, s15, .v (.int w), s17, s18, s19, s20]) := by
  have f := row_f hr
  have k1 : den (cfgN FL W cl) (.comp [20] (.n 20) (.rg (.cons (.c (.int 121)) .nil)) (.cons (.cmp .eq (.ix (.v 11) (.v 20)) (.v 16)) .nil) (.v 20)) [.v sx, .o cd, s2, s3, s4, s5, s6, s7, s8, s9, s10, .v (.lst (r.G.map .int)), s12, s13, s14, s15, .v (.int w), s17, s18, s19, s20] = .ok (.lst ((List.range 121).map fun i : Nat => if decide (r.G.getD i 0 = w) = true then [D.int (i : Int)] else []).flatten, [.v sx, .o cd, s2, s3, s4, s5, s6, s7, s8, s9, s10, .v (.lst (r.G.map .int)), s12, s13, s14, s15, .v (.int w), s17, s18, s19, s20]) := by
    refine comp_map (List.range 121) (fun i : Nat => D.int (i : Int)) _ (fun ev => ∃ x, ev = [.v sx, .o cd, s2, s3, s4, s5, s6, s7, s8, s9, s10, .v (.lst (r.G.map .int)), s12, s13, s14, s15, .v (.int w), s17, s18, s19, x]) ?_ ⟨_, rfl⟩ ?_ ?_
    · have h : rgF [.int 121] = .ok ((List.range 121).map fun i : Nat => D.int (i : Int)) := rg_len (n := 121) (by decide)
      generalize ((List.range 121).map fun i : Nat => D.int (i : Int)) = Z at *
      generalize r.G.map D.int = GD at *
      simp [deni, den_c, den_v, den_tup, den_lst, den_emp, den_neg, den_nt, den_bin, den_cmp, den_cmp2, den_and, den_or, den_ife, den_ix, den_sl, den_call, den_bi, den_meth, den_lrg, den_sst, den_slk, den_pop, den_lse, den_popAt, exe_asg, exe_own, exe_two, exe_three, exe_aug, exe_put, exe_app, exe_ex, exe_ife, exe_ret, exe_retN, exe_brk, exe_cont, exe_pas, exes_nil, exes_cons, cfg_cl, cfg_br, deno, opn, dens, denIfs, opL, op1, op2, vals, val, peek, noX, rd, biF, isD, cmpF, binF, truthy, outs, bind, Except.bind, slotsOf, slotOf, ixF, place, negF, back, asgT, asgTs, setS, gtD, isF, ioF, isNonC, slO, h]
    · rintro i hi _ ⟨x, rfl⟩
      have hi := List.mem_range.mp hi
      have x1 := ix_G2 f (i := (i : Int)) (by omega) (by omega)
      have hg : gA r.G (i : Int) = r.G.getD i 0 := rfl
      rw [hg] at x1
      have hq := eq_int (r.G.getD i 0) w
      refine ⟨[.v sx, .o cd, s2, s3, s4, s5, s6, s7, s8, s9, s10, .v (.lst (r.G.map .int)), s12, s13, s14, s15, .v (.int w), s17, s18, s19, .v (.int (i : Int))], ?_, _, rfl⟩
      generalize r.G.getD i 0 = y at *
      generalize r.G.map D.int = GD at *
      generalize (i : Int) = j at *
      cases hc : decide (y = w) <;> rw [hc] at hq <;> simp [itemP, den_c, den_v, den_tup, den_lst, den_emp, den_neg, den_nt, den_bin, den_cmp, den_cmp2, den_and, den_or, den_ife, den_ix, den_sl, den_call, den_bi, den_meth, den_lrg, den_sst, den_slk, den_pop, den_lse, den_popAt, exe_asg, exe_own, exe_two, exe_three, exe_aug, exe_put, exe_app, exe_ex, exe_ife, exe_ret, exe_retN, exe_brk, exe_cont, exe_pas, exes_nil, exes_cons, cfg_cl, cfg_br, deno, opn, dens, denIfs, opL, op1, op2, vals, val, peek, noX, rd, isD, cmpF, truthy, outs, bind, Except.bind, slotsOf, slotOf, place, negF, back, asgT, asgTs, setS, gtD, isF, ioF, isNonC, slO, wipe, x1, hq]
    · rintro _ ⟨x, rfl⟩
      rfl
  rw [flat_at] at k1
  have he : atOf r.G w = (List.range 121).filterMap fun i => if decide (r.G.getD i 0 = w) = true then some (i : Int) else none := by
    have := atOf_eq r.G w
    rw [f.l] at this
    exact this
  rw [← he] at k1
  exact k1
theorem dens_cmp {X : Cfg} {op : Cop} {a b : E} {r : Es} {env env' env'' : Env} {d : D} {as : List Arg} (h1 : den X (.cmp op a b) env = .ok (d, env')) (h2 : dens X r env' = .ok (as, env'')) : dens X (.cons (.cmp op a b) r) env = .ok (.v d :: as, env'') := by
  simp only [dens, opn, h1, h2, bind, Except.bind]
theorem pw18 : binF .pow (.int 10) (.int 18) = .ok (.int 1000000000000000000) := rfl
theorem sb120 : binF .sub (.int 1000000000000000000) (.int 120) = .ok (.int 999999999999999880) := rfl
theorem sb1 : binF .sub (.int 1000000000000000000) (.int 1) = .ok (.int 999999999999999999) := rfl
theorem b_int (x : Int) : biF .int [.int x] = .ok (.int x) := rfl
theorem sa0 (cl : CallT) (sx cd cd1 cd2 : D) (s2 s3 s4 s5 s6 s7 s8 s9 s10 s11 s12 s13 s14 s15 s16 s17 s18 s19 s20 : Slot) (x y z : Int) (h1 : cl 17 [.o cd, .v (.int 7)] = .ok (.int x, [.o cd1, .nil])) (h2 : cl 17 [.o cd1, .v (.int 6)] = .ok (.int y, [.o cd2, .nil])) (hz : binF .add (.int 1) (.int y) = .ok (.int z)) : exe (cfgN FL W cl) (nthS 0 lpB) [.v sx, .o cd, s2, s3, s4, s5, s6, s7, s8, s9, s10, s11, s12, s13, s14, s15, s16, s17, s18, s19, s20] = .ok (.next, [.v sx, .o cd2, s2, s3, s4, s5, s6, s7, s8, .v (.int x), .v (.int z), s11, s12, s13, s14, s15, s16, s17, s18, s19, s20]) := by
  simp [den_c, den_v, den_tup, den_lst, den_emp, den_neg, den_nt, den_bin, den_cmp, den_cmp2, den_and, den_or, den_ife, den_ix, den_sl, den_call, den_bi, den_meth, den_lrg, den_sst, den_slk, den_pop, den_lse, den_popAt, exe_asg, exe_own, exe_two, exe_three, exe_aug, exe_put, exe_app, exe_ex, exe_ife, exe_ret, exe_retN, exe_brk, exe_cont, exe_pas, exes_nil, exes_cons, cfg_cl, cfg_br, deno, opn, dens, denIfs, opL, op1, op2, vals, val, peek, noX, rd, isD, cmpF, truthy, outs, bind, Except.bind, slotsOf, slotOf, place, negF, back, asgT, asgTs, setS, gtD, isF, ioF, isNonC, slO, lpB, gmL, nthS, bodyOf, f22, FL17, f17, h1, h2, hz]
theorem sa1 (cl : CallT) (sx cd cd1 cd2 : D) (s2 s3 s4 s5 s6 s7 s8 s9 s10 s11 s12 s13 s14 s15 s16 s17 s18 s19 s20 : Slot) (x z : Int) : exe (cfgN FL W cl) (nthS 1 lpB) [.v sx, .o cd, s2, s3, s4, s5, s6, s7, s8, .v (.int x), .v (.int z), s11, s12, s13, s14, s15, s16, s17, s18, s19, s20] = .ok (.next, [.v sx, .o cd, s2, s3, s4, .v (.tup [.int (mn x z), .int (mxx x z)]), s6, s7, s8, .v (.int x), .v (.int z), s11, s12, s13, s14, s15, s16, s17, s18, s19, s20]) := by
  simp [den_c, den_v, den_tup, den_lst, den_emp, den_neg, den_nt, den_bin, den_cmp, den_cmp2, den_and, den_or, den_ife, den_ix, den_sl, den_call, den_bi, den_meth, den_lrg, den_sst, den_slk, den_pop, den_lse, den_popAt, exe_asg, exe_own, exe_two, exe_three, exe_aug, exe_put, exe_app, exe_ex, exe_ife, exe_ret, exe_retN, exe_brk, exe_cont, exe_pas, exes_nil, exes_cons, cfg_cl, cfg_br, deno, opn, dens, denIfs, opL, op1, op2, vals, val, peek, noX, rd, isD, cmpF, binF, truthy, outs, bind, Except.bind, slotsOf, slotOf, ixF, place, negF, back, asgT, asgTs, setS, gtD, isF, ioF, isNonC, slO, lpB, gmL, nthS, bodyOf, f22, bi_mn, bi_mx]
theorem sa2 (cl : CallT) (sx cd cd1 cd2 : D) (s2 s3 s4 s5 s6 s7 s8 s9 s10 s11 s12 s13 s14 s15 s16 s17 s18 s19 s20 : Slot) (P G : D) (s : Int) (h1 : cl 20 [.v P, .v (.int 120)] = .ok (G, [.nil, .nil])) (h2 : cl 17 [.o cd, .v (.int 121)] = .ok (.int s, [.o cd1, .nil])) : exe (cfgN FL W cl) (nthS 2 lpB) [.v sx, .o cd, s2, s3, s4, .v P, s6, s7, s8, s9, s10, s11, s12, s13, s14, s15, s16, s17, s18, s19, s20] = .ok (.next, [.v sx, .o cd1, s2, s3, s4, .v P, s6, s7, s8, s9, s10, .v G, .v (.int s), s13, s14, s15, s16, s17, s18, s19, s20]) := by
  simp [den_c, den_v, den_tup, den_lst, den_emp, den_neg, den_nt, den_bin, den_cmp, den_cmp2, den_and, den_or, den_ife, den_ix, den_sl, den_call, den_bi, den_meth, den_lrg, den_sst, den_slk, den_pop, den_lse, den_popAt, exe_asg, exe_own, exe_two, exe_three, exe_aug, exe_put, exe_app, exe_ex, exe_ife, exe_ret, exe_retN, exe_brk, exe_cont, exe_pas, exes_nil, exes_cons, cfg_cl, cfg_br, deno, opn, dens, denIfs, opL, op1, op2, vals, val, peek, noX, rd, isD, cmpF, truthy, outs, bind, Except.bind, slotsOf, slotOf, place, negF, back, asgT, asgTs, setS, gtD, isF, ioF, isNonC, slO, lpB, gmL, nthS, bodyOf, f22, FL17, f17, FL20, f20, h1, h2]
theorem sa3 (cl : CallT) (sx cd cd1 cd2 : D) (s2 s3 s4 s5 s6 s7 s8 s9 s10 s11 s12 s13 s14 s15 s16 s17 s18 s19 s20 : Slot) (P a b : D) (h : cl 12 [.v P] = .ok (.tup [a, b], [.nil])) : exe (cfgN FL W cl) (nthS 3 lpB) [.v sx, .o cd, s2, s3, s4, .v P, s6, s7, s8, s9, s10, s11, s12, s13, s14, s15, s16, s17, s18, s19, s20] = .ok (.next, [.v sx, .o cd, s2, s3, s4, .v P, s6, s7, s8, s9, s10, s11, s12, .v a, .v b, s15, s16, s17, s18, s19, s20]) := by
  simp [den_c, den_v, den_tup, den_lst, den_emp, den_neg, den_nt, den_bin, den_cmp, den_cmp2, den_and, den_or, den_ife, den_ix, den_sl, den_call, den_bi, den_meth, den_lrg, den_sst, den_slk, den_pop, den_lse, den_popAt, exe_asg, exe_own, exe_two, exe_three, exe_aug, exe_put, exe_app, exe_ex, exe_ife, exe_ret, exe_retN, exe_brk, exe_cont, exe_pas, exes_nil, exes_cons, cfg_cl, cfg_br, deno, opn, dens, denIfs, opL, op1, op2, vals, val, peek, noX, rd, isD, cmpF, truthy, outs, bind, Except.bind, slotsOf, slotOf, place, negF, back, asgT, asgTs, setS, gtD, isF, ioF, isNonC, slO, lpB, gmL, nthS, bodyOf, f22, FL12, f12, h]
theorem sa4 (cl : CallT) (sx cd cd1 cd2 : D) (s2 s3 s4 s5 s6 s7 s8 s9 s10 s11 s12 s13 s14 s15 s16 s17 s18 s19 s20 : Slot) (G a L : D) (hc : den (cfgN FL W cl) (.comp [19] (.n 19) (.rg (.cons (.c (.int 1)) (.cons (.c (.int 40)) .nil))) (.cons (.cmp .eq (.comp [20] (.n 20) (.rg (.cons (.v 13) (.cons (.c (.int 80)) .nil))) (.cons (.cmp .ne (.ix (.v 11) (.v 20)) (.ix (.v 11) (.bin .add (.v 20) (.v 19)))) .nil) (.v 20)) (.lst .nil)) .nil) (.v 19)) [.v sx, .o cd, s2, s3, s4, s5, s6, s7, s8, s9, s10, .v G, s12, .v a, s14, s15, s16, s17, s18, s19, s20] = .ok (L, [.v sx, .o cd, s2, s3, s4, s5, s6, s7, s8, s9, s10, .v G, s12, .v a, s14, s15, s16, s17, s18, s19, s20])) : exe (cfgN FL W cl) (nthS 4 lpB) [.v sx, .o cd, s2, s3, s4, s5, s6, s7, s8, s9, s10, .v G, s12, .v a, s14, s15, s16, s17, s18, s19, s20] = .ok (.next, [.v sx, .o cd, s2, s3, s4, s5, .v L, s7, s8, s9, s10, .v G, s12, .v a, s14, s15, s16, s17, s18, s19, s20]) := by
  simp [den_c, den_v, den_tup, den_lst, den_emp, den_neg, den_nt, den_bin, den_cmp, den_cmp2, den_and, den_or, den_ife, den_ix, den_sl, den_call, den_bi, den_meth, den_lrg, den_sst, den_slk, den_pop, den_lse, den_popAt, exe_asg, exe_own, exe_two, exe_three, exe_aug, exe_put, exe_app, exe_ex, exe_ife, exe_ret, exe_retN, exe_brk, exe_cont, exe_pas, exes_nil, exes_cons, cfg_cl, cfg_br, deno, opn, dens, denIfs, opL, op1, op2, vals, val, peek, noX, rd, isD, cmpF, truthy, outs, bind, Except.bind, slotsOf, slotOf, place, negF, back, asgT, asgTs, setS, gtD, isF, ioF, isNonC, slO, lpB, gmL, nthS, bodyOf, f22, hc]
theorem sa5 (cl : CallT) (sx cd cd1 cd2 : D) (s2 s3 s4 s5 s6 s7 s8 s9 s10 s11 s12 s13 s14 s15 s16 s17 s18 s19 s20 : Slot) (L : D) (p : Int) (hx : ixF L (.int 0) = .ok (.int p)) : exe (cfgN FL W cl) (nthS 5 lpB) [.v sx, .o cd, s2, s3, s4, s5, .v L, s7, s8, s9, s10, s11, s12, .v (.int 0), .v (.int p), s15, s16, s17, s18, s19, s20] = .ok (.next, [.v sx, .o cd, s2, s3, s4, s5, .v L, s7, s8, s9, s10, s11, s12, .v (.int 0), .v (.int p), s15, s16, s17, s18, s19, s20]) := by
  have hq : eqD (.int p) (.int p) = .ok true := by rw [eq_int, decide_eq_true rfl]
  simp [den_c, den_v, den_tup, den_lst, den_emp, den_neg, den_nt, den_bin, den_cmp, den_cmp2, den_and, den_or, den_ife, den_ix, den_sl, den_call, den_bi, den_meth, den_lrg, den_sst, den_slk, den_pop, den_lse, den_popAt, exe_asg, exe_own, exe_two, exe_three, exe_aug, exe_put, exe_app, exe_ex, exe_ife, exe_ret, exe_retN, exe_brk, exe_cont, exe_pas, exes_nil, exes_cons, cfg_cl, cfg_br, deno, opn, dens, denIfs, opL, op1, op2, vals, val, peek, noX, rd, isD, cmpF, truthy, outs, bind, Except.bind, slotsOf, slotOf, place, negF, back, asgT, asgTs, setS, gtD, isF, ioF, isNonC, slO, lpB, gmL, nthS, bodyOf, f22, hx, hq]
theorem sa6 (cl : CallT) (sx cd cd1 cd2 : D) (s2 s3 s4 s5 s6 s7 s8 s9 s10 s11 s12 s13 s14 s15 s16 s17 s18 s19 s20 : Slot) (x z : Int) (h : cl 17 [.o cd, .v (.int 999999999999999880)] = .ok (.int x, [.o cd1, .nil])) (hz : binF .add (.int 120) (.int x) = .ok (.int z)) : exe (cfgN FL W cl) (nthS 6 lpB) [.v sx, .o cd, s2, s3, s4, s5, s6, s7, s8, s9, s10, s11, s12, s13, s14, s15, s16, s17, s18, s19, s20] = .ok (.next, [.v sx, .o cd1, s2, .v (.int z), s4, s5, s6, s7, s8, s9, s10, s11, s12, s13, s14, s15, s16, s17, s18, s19, s20]) := by
  have p := pw18
  have q := sb120
  simp [den_c, den_v, den_tup, den_lst, den_emp, den_neg, den_nt, den_bin, den_cmp, den_cmp2, den_and, den_or, den_ife, den_ix, den_sl, den_call, den_bi, den_meth, den_lrg, den_sst, den_slk, den_pop, den_lse, den_popAt, exe_asg, exe_own, exe_two, exe_three, exe_aug, exe_put, exe_app, exe_ex, exe_ife, exe_ret, exe_retN, exe_brk, exe_cont, exe_pas, exes_nil, exes_cons, cfg_cl, cfg_br, deno, opn, dens, denIfs, opL, op1, op2, vals, val, peek, noX, rd, isD, cmpF, truthy, outs, bind, Except.bind, slotsOf, slotOf, place, negF, back, asgT, asgTs, setS, gtD, isF, ioF, isNonC, slO, lpB, gmL, nthS, bodyOf, f22, FL17, f17, p, q, h, hz]
theorem sa7 (cl : CallT) (sx cd cd1 cd2 : D) (s2 s3 s4 s5 s6 s7 s8 s9 s10 s11 s12 s13 s14 s15 s16 s17 s18 s19 s20 : Slot) (P a1 a2 : D) (fr s c : Int) (h1 : cl 11 [.v P, .v (.int s)] = .ok (a1, [.nil, .nil])) (h2 : cl 11 [.v P, .v (.int fr)] = .ok (a2, [.nil, .nil])) (h3 : cl 11 [.v P, .v (.int 999999999999999999)] = .ok (.int c, [.nil, .nil])) (hl : ltD (.int c) (.int 3) = .ok true) : exe (cfgN FL W cl) (nthS 7 lpB) [.v sx, .o cd, s2, .v (.int fr), s4, .v P, s6, s7, s8, s9, s10, s11, .v (.int s), s13, s14, s15, s16, s17, s18, s19, s20] = .ok (.next, [.v sx, .o cd, s2, .v (.int fr), s4, .v P, s6, .v (.tup [a1, a2, .bl true]), s8, s9, s10, s11, .v (.int s), s13, s14, s15, s16, s17, s18, s19, s20]) := by
  have p := pw18
  have q := sb1
  have k1 : den (cfgN FL W cl) (.call 11 (.cons (.v 5) (.cons (.v 12) .nil))) [.v sx, .o cd, s2, .v (.int fr), s4, .v P, s6, s7, s8, s9, s10, s11, .v (.int s), s13, s14, s15, s16, s17, s18, s19, s20] = .ok (a1, [.v sx, .o cd, s2, .v (.int fr), s4, .v P, s6, s7, s8, s9, s10, s11, .v (.int s), s13, s14, s15, s16, s17, s18, s19, s20]) := by
    simp [den_c, den_v, den_tup, den_lst, den_emp, den_neg, den_nt, den_bin, den_cmp, den_cmp2, den_and, den_or, den_ife, den_ix, den_sl, den_call, den_bi, den_meth, den_lrg, den_sst, den_slk, den_pop, den_lse, den_popAt, exe_asg, exe_own, exe_two, exe_three, exe_aug, exe_put, exe_app, exe_ex, exe_ife, exe_ret, exe_retN, exe_brk, exe_cont, exe_pas, exes_nil, exes_cons, cfg_cl, cfg_br, deno, opn, dens, denIfs, opL, op1, op2, vals, val, peek, noX, rd, isD, cmpF, truthy, outs, bind, Except.bind, slotsOf, slotOf, place, negF, back, asgT, asgTs, setS, gtD, isF, ioF, isNonC, slO, FL11, f11, h1]
  have k2 : den (cfgN FL W cl) (.call 11 (.cons (.v 5) (.cons (.v 3) .nil))) [.v sx, .o cd, s2, .v (.int fr), s4, .v P, s6, s7, s8, s9, s10, s11, .v (.int s), s13, s14, s15, s16, s17, s18, s19, s20] = .ok (a2, [.v sx, .o cd, s2, .v (.int fr), s4, .v P, s6, s7, s8, s9, s10, s11, .v (.int s), s13, s14, s15, s16, s17, s18, s19, s20]) := by
    simp [den_c, den_v, den_tup, den_lst, den_emp, den_neg, den_nt, den_bin, den_cmp, den_cmp2, den_and, den_or, den_ife, den_ix, den_sl, den_call, den_bi, den_meth, den_lrg, den_sst, den_slk, den_pop, den_lse, den_popAt, exe_asg, exe_own, exe_two, exe_three, exe_aug, exe_put, exe_app, exe_ex, exe_ife, exe_ret, exe_retN, exe_brk, exe_cont, exe_pas, exes_nil, exes_cons, cfg_cl, cfg_br, deno, opn, dens, denIfs, opL, op1, op2, vals, val, peek, noX, rd, isD, cmpF, truthy, outs, bind, Except.bind, slotsOf, slotOf, place, negF, back, asgT, asgTs, setS, gtD, isF, ioF, isNonC, slO, FL11, f11, h2]
  have k3 : den (cfgN FL W cl) (.cmp .lt (.call 11 (.cons (.v 5) (.cons (.bin .sub (.bin .pow (.c (.int 10)) (.c (.int 18))) (.c (.int 1))) .nil))) (.c (.int 3))) [.v sx, .o cd, s2, .v (.int fr), s4, .v P, s6, s7, s8, s9, s10, s11, .v (.int s), s13, s14, s15, s16, s17, s18, s19, s20] = .ok (.bl true, [.v sx, .o cd, s2, .v (.int fr), s4, .v P, s6, s7, s8, s9, s10, s11, .v (.int s), s13, s14, s15, s16, s17, s18, s19, s20]) := by
    simp [den_c, den_v, den_tup, den_lst, den_emp, den_neg, den_nt, den_bin, den_cmp, den_cmp2, den_and, den_or, den_ife, den_ix, den_sl, den_call, den_bi, den_meth, den_lrg, den_sst, den_slk, den_pop, den_lse, den_popAt, exe_asg, exe_own, exe_two, exe_three, exe_aug, exe_put, exe_app, exe_ex, exe_ife, exe_ret, exe_retN, exe_brk, exe_cont, exe_pas, exes_nil, exes_cons, cfg_cl, cfg_br, deno, opn, dens, denIfs, opL, op1, op2, vals, val, peek, noX, rd, isD, cmpF, truthy, outs, bind, Except.bind, slotsOf, slotOf, place, negF, back, asgT, asgTs, setS, gtD, isF, ioF, isNonC, slO, FL11, f11, p, q, h3, hl]
  exact asg_ok (tup_ok (dens_call k1 (dens_call k2 (dens_cmp k3 rfl))) rfl) rfl (show 7 < 21 by decide)
theorem sa8 (cl : CallT) (sx cd cd1 cd2 : D) (s2 s3 s4 s5 s6 s7 s8 s9 s10 s11 s12 s13 s14 s15 s16 s17 s18 s19 s20 : Slot) (G a1 a2 : D) (fr s p : Int) (x1 : ixF G (.int s) = .ok a1) (hm : binF .mod (.int fr) (.int p) = .ok (.int (fr % p))) (x2 : ixF G (.int (fr % p)) = .ok a2) (h19 : cl 18 [.v (.tup [a1, a2, .bl true]), .v (.tup [a1, a2, .bl true])] = .ok (.bl true, [.nil, .nil])) : exe (cfgN FL W cl) (nthS 8 lpB) [.v sx, .o cd, s2, .v (.int fr), s4, s5, s6, .v (.tup [a1, a2, .bl true]), s8, s9, s10, .v G, .v (.int s), .v (.int 0), .v (.int p), s15, s16, s17, s18, s19, s20] = .ok (.next, [.v sx, .o cd, s2, .v (.int fr), s4, s5, s6, .v (.tup [a1, a2, .bl true]), s8, s9, s10, .v G, .v (.int s), .v (.int 0), .v (.int p), s15, s16, s17, s18, s19, s20]) := by
  have kv : den (cfgN FL W cl) (.v 7) [.v sx, .o cd, s2, .v (.int fr), s4, s5, s6, .v (.tup [a1, a2, .bl true]), s8, s9, s10, .v G, .v (.int s), .v (.int 0), .v (.int p), s15, s16, s17, s18, s19, s20] = .ok ((.tup [a1, a2, .bl true]), [.v sx, .o cd, s2, .v (.int fr), s4, s5, s6, .v (.tup [a1, a2, .bl true]), s8, s9, s10, .v G, .v (.int s), .v (.int 0), .v (.int p), s15, s16, s17, s18, s19, s20]) := rfl
  have b0 : binF .sub (.int fr) (.int 0) = .ok (.int fr) := by rw [b_sub, Int.sub_zero]
  have b1 : binF .add (.int 0) (.int (fr % p)) = .ok (.int (fr % p)) := by rw [b_add, Int.zero_add]
  have bi := b_int fr
  have kd : den (cfgN FL W cl) (.tup (.cons (.ix (.v 11) (.v 12)) (.cons (.ix (.v 11) (.bin .add (.v 13) (.bin .mod (.bi .int (.cons (.bin .sub (.v 3) (.v 13)) .nil)) (.v 14)))) (.cons (.c (.bl true)) .nil)))) [.v sx, .o cd, s2, .v (.int fr), s4, s5, s6, .v (.tup [a1, a2, .bl true]), s8, s9, s10, .v G, .v (.int s), .v (.int 0), .v (.int p), s15, s16, s17, s18, s19, s20] = .ok ((.tup [a1, a2, .bl true]), [.v sx, .o cd, s2, .v (.int fr), s4, s5, s6, .v (.tup [a1, a2, .bl true]), s8, s9, s10, .v G, .v (.int s), .v (.int 0), .v (.int p), s15, s16, s17, s18, s19, s20]) := by
    simp [den_c, den_v, den_tup, den_lst, den_emp, den_neg, den_nt, den_bin, den_cmp, den_cmp2, den_and, den_or, den_ife, den_ix, den_sl, den_call, den_bi, den_meth, den_lrg, den_sst, den_slk, den_pop, den_lse, den_popAt, exe_asg, exe_own, exe_two, exe_three, exe_aug, exe_put, exe_app, exe_ex, exe_ife, exe_ret, exe_retN, exe_brk, exe_cont, exe_pas, exes_nil, exes_cons, cfg_cl, cfg_br, deno, opn, dens, denIfs, opL, op1, op2, vals, val, peek, noX, rd, isD, cmpF, truthy, outs, bind, Except.bind, slotsOf, slotOf, place, negF, back, asgT, asgTs, setS, gtD, ioF, isNonC, isF, x1, x2, b0, b1, hm, bi]
  have k9 := call_ok (X := (cfgN FL W cl)) (f := 18) (env := [.v sx, .o cd, s2, .v (.int fr), s4, s5, s6, .v (.tup [a1, a2, .bl true]), s8, s9, s10, .v G, .v (.int s), .v (.int 0), .v (.int p), s15, s16, s17, s18, s19, s20]) (env' := [.v sx, .o cd, s2, .v (.int fr), s4, s5, s6, .v (.tup [a1, a2, .bl true]), s8, s9, s10, .v G, .v (.int s), .v (.int 0), .v (.int p), s15, s16, s17, s18, s19, s20]) (as := [.v (.tup [a1, a2, .bl true]), .v (.tup [a1, a2, .bl true])]) (es := (.cons (.v 7) (.cons (.tup (.cons (.ix (.v 11) (.v 12)) (.cons (.ix (.v 11) (.bin .add (.v 13) (.bin .mod (.bi .int (.cons (.bin .sub (.v 3) (.v 13)) .nil)) (.v 14)))) (.cons (.c (.bl true)) .nil)))) .nil))) (by simp only [dens, opn, kv, kd, bind, Except.bind]) rfl h19
  simp only [nthS, lpB, bodyOf, f22]
  rw [exe_ife]
  simp only [deno, opn, den_nt, k9, bind, Except.bind, op1, val, noX, truthy, Bool.not_true, if_false, exes_nil]
  rfl
theorem sa9 (cl : CallT) (sx cd cd1 cd2 : D) (s2 s3 s4 s5 s6 s7 s8 s9 s10 s11 s12 s13 s14 s15 s16 s17 s18 s19 s20 : Slot) (Gd : D) (h : cl 19 [.o cd, .v (.int 3), .v (.int 100)] = .ok (Gd, [.o cd1, .nil, .nil])) : exe (cfgN FL W cl) (nthS 9 lpB) [.v sx, .o cd, s2, s3, s4, s5, s6, s7, s8, s9, s10, s11, s12, s13, s14, s15, s16, s17, s18, s19, s20] = .ok (.next, [.v sx, .o cd1, s2, s3, s4, s5, s6, s7, s8, s9, s10, s11, s12, s13, s14, .v Gd, .v (.int 0), s17, s18, s19, s20]) := by
  simp [den_c, den_v, den_tup, den_lst, den_emp, den_neg, den_nt, den_bin, den_cmp, den_cmp2, den_and, den_or, den_ife, den_ix, den_sl, den_call, den_bi, den_meth, den_lrg, den_sst, den_slk, den_pop, den_lse, den_popAt, exe_asg, exe_own, exe_two, exe_three, exe_aug, exe_put, exe_app, exe_ex, exe_ife, exe_ret, exe_retN, exe_brk, exe_cont, exe_pas, exes_nil, exes_cons, cfg_cl, cfg_br, deno, opn, dens, denIfs, opL, op1, op2, vals, val, peek, noX, rd, isD, cmpF, truthy, outs, bind, Except.bind, slotsOf, slotOf, place, negF, back, asgT, asgTs, setS, gtD, isF, ioF, isNonC, slO, lpB, gmL, nthS, bodyOf, f22, FL19, f19, h]
theorem sl0 (cl : CallT) (sx cd cd1 cd2 : D) (s2 s3 s4 s5 s6 s7 s8 s9 s10 s11 s12 s13 s14 s15 s16 s17 s18 s19 s20 : Slot) (P L : D) (sz0 w y z : Int) (h1 : cl 20 [.v P, .v (.int sz0)] = .ok (L, [.nil, .nil])) (hx : ixF L (.int sz0) = .ok (.int y)) (h2 : cl 21 [.v (.int w), .v (.int y)] = .ok (.int z, [.nil, .nil])) : exe (cfgN FL W cl) (nthS 0 gmL) [.v sx, .o cd, s2, s3, s4, s5, s6, s7, s8, s9, s10, s11, s12, s13, s14, s15, .v (.int w), .v (.int sz0), .v P, s19, s20] = .ok (.next, [.v sx, .o cd, s2, s3, s4, s5, s6, s7, s8, s9, s10, s11, s12, s13, s14, s15, .v (.int z), .v (.int sz0), .v P, s19, s20]) := by
  simp [den_c, den_v, den_tup, den_lst, den_emp, den_neg, den_nt, den_bin, den_cmp, den_cmp2, den_and, den_or, den_ife, den_ix, den_sl, den_call, den_bi, den_meth, den_lrg, den_sst, den_slk, den_pop, den_lse, den_popAt, exe_asg, exe_own, exe_two, exe_three, exe_aug, exe_put, exe_app, exe_ex, exe_ife, exe_ret, exe_retN, exe_brk, exe_cont, exe_pas, exes_nil, exes_cons, cfg_cl, cfg_br, deno, opn, dens, denIfs, opL, op1, op2, vals, val, peek, noX, rd, isD, cmpF, truthy, outs, bind, Except.bind, slotsOf, slotOf, place, negF, back, asgT, asgTs, setS, gtD, isF, ioF, isNonC, slO, lpB, gmL, nthS, bodyOf, f22, FL20, f20, FL21, f21, h1, hx, h2]
theorem sa11 (cl : CallT) (sx cd cd1 cd2 : D) (s2 s3 s4 s5 s6 s7 s8 s9 s10 s11 s12 s13 s14 s15 s16 s17 s18 s19 s20 : Slot) (G w L : D) (hc : den (cfgN FL W cl) (.comp [20] (.n 20) (.rg (.cons (.c (.int 121)) .nil)) (.cons (.cmp .eq (.ix (.v 11) (.v 20)) (.v 16)) .nil) (.v 20)) [.v sx, .o cd, s2, s3, s4, s5, s6, s7, s8, s9, s10, .v G, s12, s13, s14, s15, .v w, s17, s18, s19, s20] = .ok (L, [.v sx, .o cd, s2, s3, s4, s5, s6, s7, s8, s9, s10, .v G, s12, s13, s14, s15, .v w, s17, s18, s19, s20])) : exe (cfgN FL W cl) (nthS 11 lpB) [.v sx, .o cd, s2, s3, s4, s5, s6, s7, s8, s9, s10, .v G, s12, s13, s14, s15, .v w, s17, s18, s19, s20] = .ok (.next, [.v sx, .o cd, s2, s3, s4, s5, s6, s7, .v L, s9, s10, .v G, s12, s13, s14, s15, .v w, s17, s18, s19, s20]) := by
  simp [den_c, den_v, den_tup, den_lst, den_emp, den_neg, den_nt, den_bin, den_cmp, den_cmp2, den_and, den_or, den_ife, den_ix, den_sl, den_call, den_bi, den_meth, den_lrg, den_sst, den_slk, den_pop, den_lse, den_popAt, exe_asg, exe_own, exe_two, exe_three, exe_aug, exe_put, exe_app, exe_ex, exe_ife, exe_ret, exe_retN, exe_brk, exe_cont, exe_pas, exes_nil, exes_cons, cfg_cl, cfg_br, deno, opn, dens, denIfs, opL, op1, op2, vals, val, peek, noX, rd, isD, cmpF, truthy, outs, bind, Except.bind, slotsOf, slotOf, place, negF, back, asgT, asgTs, setS, gtD, isF, ioF, isNonC, slO, lpB, gmL, nthS, bodyOf, f22, hc]
theorem sa12 (cl : CallT) (sx cd cd1 cd2 : D) (s2 s3 s4 s5 s6 s7 s8 s9 s10 s11 s12 s13 s14 s15 s16 s17 s18 s19 s20 : Slot) (P Gd a1 a2 a3 : D) (h1 : cl 13 [.v Gd] = .ok (a1, [.nil])) (h2 : cl 14 [.v Gd] = .ok (a2, [.nil])) (h3 : cl 15 [.v Gd, .v P] = .ok (a3, [.nil, .nil])) : exe (cfgN FL W cl) (nthS 12 lpB) [.v sx, .o cd, s2, s3, s4, .v P, s6, s7, s8, s9, s10, s11, s12, s13, s14, .v Gd, s16, s17, s18, s19, s20] = .ok (.next, [.v sx, .o cd, s2, s3, s4, .v P, s6, .v (.tup [a1, a2, a3]), s8, s9, s10, s11, s12, s13, s14, .v Gd, s16, s17, s18, s19, s20]) := by
  have k1 : den (cfgN FL W cl) (.call 13 (.cons (.v 15) .nil)) [.v sx, .o cd, s2, s3, s4, .v P, s6, s7, s8, s9, s10, s11, s12, s13, s14, .v Gd, s16, s17, s18, s19, s20] = .ok (a1, [.v sx, .o cd, s2, s3, s4, .v P, s6, s7, s8, s9, s10, s11, s12, s13, s14, .v Gd, s16, s17, s18, s19, s20]) := by
    simp [den_c, den_v, den_tup, den_lst, den_emp, den_neg, den_nt, den_bin, den_cmp, den_cmp2, den_and, den_or, den_ife, den_ix, den_sl, den_call, den_bi, den_meth, den_lrg, den_sst, den_slk, den_pop, den_lse, den_popAt, exe_asg, exe_own, exe_two, exe_three, exe_aug, exe_put, exe_app, exe_ex, exe_ife, exe_ret, exe_retN, exe_brk, exe_cont, exe_pas, exes_nil, exes_cons, cfg_cl, cfg_br, deno, opn, dens, denIfs, opL, op1, op2, vals, val, peek, noX, rd, isD, cmpF, truthy, outs, bind, Except.bind, slotsOf, slotOf, place, negF, back, asgT, asgTs, setS, gtD, isF, ioF, isNonC, slO, FL13, f13, h1]
  have k2 : den (cfgN FL W cl) (.call 14 (.cons (.v 15) .nil)) [.v sx, .o cd, s2, s3, s4, .v P, s6, s7, s8, s9, s10, s11, s12, s13, s14, .v Gd, s16, s17, s18, s19, s20] = .ok (a2, [.v sx, .o cd, s2, s3, s4, .v P, s6, s7, s8, s9, s10, s11, s12, s13, s14, .v Gd, s16, s17, s18, s19, s20]) := by
    simp [den_c, den_v, den_tup, den_lst, den_emp, den_neg, den_nt, den_bin, den_cmp, den_cmp2, den_and, den_or, den_ife, den_ix, den_sl, den_call, den_bi, den_meth, den_lrg, den_sst, den_slk, den_pop, den_lse, den_popAt, exe_asg, exe_own, exe_two, exe_three, exe_aug, exe_put, exe_app, exe_ex, exe_ife, exe_ret, exe_retN, exe_brk, exe_cont, exe_pas, exes_nil, exes_cons, cfg_cl, cfg_br, deno, opn, dens, denIfs, opL, op1, op2, vals, val, peek, noX, rd, isD, cmpF, truthy, outs, bind, Except.bind, slotsOf, slotOf, place, negF, back, asgT, asgTs, setS, gtD, isF, ioF, isNonC, slO, FL14, f14, h2]
  have k3 : den (cfgN FL W cl) (.call 15 (.cons (.v 15) (.cons (.v 5) .nil))) [.v sx, .o cd, s2, s3, s4, .v P, s6, s7, s8, s9, s10, s11, s12, s13, s14, .v Gd, s16, s17, s18, s19, s20] = .ok (a3, [.v sx, .o cd, s2, s3, s4, .v P, s6, s7, s8, s9, s10, s11, s12, s13, s14, .v Gd, s16, s17, s18, s19, s20]) := by
    simp [den_c, den_v, den_tup, den_lst, den_emp, den_neg, den_nt, den_bin, den_cmp, den_cmp2, den_and, den_or, den_ife, den_ix, den_sl, den_call, den_bi, den_meth, den_lrg, den_sst, den_slk, den_pop, den_lse, den_popAt, exe_asg, exe_own, exe_two, exe_three, exe_aug, exe_put, exe_app, exe_ex, exe_ife, exe_ret, exe_retN, exe_brk, exe_cont, exe_pas, exes_nil, exes_cons, cfg_cl, cfg_br, deno, opn, dens, denIfs, opL, op1, op2, vals, val, peek, noX, rd, isD, cmpF, truthy, outs, bind, Except.bind, slotsOf, slotOf, place, negF, back, asgT, asgTs, setS, gtD, isF, ioF, isNonC, slO, FL15, f15, h3]
  exact asg_ok (tup_ok (dens_call k1 (dens_call k2 (dens_call k3 rfl))) rfl) rfl (show 7 < 21 by decide)
theorem sa13 (cl : CallT) (sx cd cd1 cd2 : D) (s2 s3 s4 s5 s6 s7 s8 s9 s10 s11 s12 s13 s14 s15 s16 s17 s18 s19 s20 : Slot) (w : Int) (X : List Int) (h19 : cl 18 [.v (.tup [.int w, .bl (!decide (w = 0)), hdD X.head?]), .v (.tup [.int w, .bl (!decide (w = 0)), hdD X.head?])] = .ok (.bl true, [.nil, .nil])) : exe (cfgN FL W cl) (nthS 13 lpB) [.v sx, .o cd, s2, s3, s4, s5, s6, .v (.tup [.int w, .bl (!decide (w = 0)), hdD X.head?]), .v (.lst (X.map .int)), s9, s10, s11, s12, s13, s14, s15, .v (.int w), s17, s18, s19, s20] = .ok (.next, [.v sx, .o cd, s2, s3, s4, s5, s6, .v (.tup [.int w, .bl (!decide (w = 0)), hdD X.head?]), .v (.lst (X.map .int)), s9, s10, s11, s12, s13, s14, s15, .v (.int w), s17, s18, s19, s20]) := by
  have kv : den (cfgN FL W cl) (.v 7) [.v sx, .o cd, s2, s3, s4, s5, s6, .v (.tup [.int w, .bl (!decide (w = 0)), hdD X.head?]), .v (.lst (X.map .int)), s9, s10, s11, s12, s13, s14, s15, .v (.int w), s17, s18, s19, s20] = .ok ((.tup [.int w, .bl (!decide (w = 0)), hdD X.head?]), [.v sx, .o cd, s2, s3, s4, s5, s6, .v (.tup [.int w, .bl (!decide (w = 0)), hdD X.head?]), .v (.lst (X.map .int)), s9, s10, s11, s12, s13, s14, s15, .v (.int w), s17, s18, s19, s20]) := rfl
  have hq := eq_int w 0
  have hn := eq_lnil X
  have kd : den (cfgN FL W cl) (.tup (.cons (.v 16) (.cons (.cmp .ne (.v 16) (.c (.int 0))) (.cons (.ife (.cmp .ne (.v 8) (.lst .nil)) (.ix (.v 8) (.c (.int 0))) (.c .non)) .nil)))) [.v sx, .o cd, s2, s3, s4, s5, s6, .v (.tup [.int w, .bl (!decide (w = 0)), hdD X.head?]), .v (.lst (X.map .int)), s9, s10, s11, s12, s13, s14, s15, .v (.int w), s17, s18, s19, s20] = .ok ((.tup [.int w, .bl (!decide (w = 0)), hdD X.head?]), [.v sx, .o cd, s2, s3, s4, s5, s6, .v (.tup [.int w, .bl (!decide (w = 0)), hdD X.head?]), .v (.lst (X.map .int)), s9, s10, s11, s12, s13, s14, s15, .v (.int w), s17, s18, s19, s20]) := by
    rcases hd_or (X := X) with ⟨h1, h2⟩ | ⟨x, X', h1, h2⟩
    · subst h1
      have hn : eqD (.lst (([] : List Int).map .int)) (.lst []) = .ok true := hn
      generalize (([] : List Int).map D.int) = XD at *
      generalize decide (w = 0) = wb at *
      cases wb <;> simp [den_c, den_v, den_tup, den_lst, den_emp, den_neg, den_nt, den_bin, den_cmp, den_cmp2, den_and, den_or, den_ife, den_ix, den_sl, den_call, den_bi, den_meth, den_lrg, den_sst, den_slk, den_pop, den_lse, den_popAt, exe_asg, exe_own, exe_two, exe_three, exe_aug, exe_put, exe_app, exe_ex, exe_ife, exe_ret, exe_retN, exe_brk, exe_cont, exe_pas, exes_nil, exes_cons, cfg_cl, cfg_br, deno, opn, dens, denIfs, opL, op1, op2, vals, val, peek, noX, rd, isD, cmpF, truthy, outs, bind, Except.bind, slotsOf, slotOf, place, negF, back, asgT, asgTs, setS, gtD, isF, ioF, isNonC, slO, hq, hn, hdD]
    · subst h1
      have hn : eqD (.lst ((x :: X').map .int)) (.lst []) = .ok false := hn
      have hx := ix_hd x X'
      generalize ((x :: X').map D.int) = XD at *
      generalize decide (w = 0) = wb at *
      cases wb <;> simp [den_c, den_v, den_tup, den_lst, den_emp, den_neg, den_nt, den_bin, den_cmp, den_cmp2, den_and, den_or, den_ife, den_ix, den_sl, den_call, den_bi, den_meth, den_lrg, den_sst, den_slk, den_pop, den_lse, den_popAt, exe_asg, exe_own, exe_two, exe_three, exe_aug, exe_put, exe_app, exe_ex, exe_ife, exe_ret, exe_retN, exe_brk, exe_cont, exe_pas, exes_nil, exes_cons, cfg_cl, cfg_br, deno, opn, dens, denIfs, opL, op1, op2, vals, val, peek, noX, rd, isD, cmpF, truthy, outs, bind, Except.bind, slotsOf, slotOf, place, negF, back, asgT, asgTs, setS, gtD, isF, ioF, isNonC, slO, hq, hn, hx, hdD]
  have k9 := call_ok (X := (cfgN FL W cl)) (f := 18) (env := [.v sx, .o cd, s2, s3, s4, s5, s6, .v (.tup [.int w, .bl (!decide (w = 0)), hdD X.head?]), .v (.lst (X.map .int)), s9, s10, s11, s12, s13, s14, s15, .v (.int w), s17, s18, s19, s20]) (env' := [.v sx, .o cd, s2, s3, s4, s5, s6, .v (.tup [.int w, .bl (!decide (w = 0)), hdD X.head?]), .v (.lst (X.map .int)), s9, s10, s11, s12, s13, s14, s15, .v (.int w), s17, s18, s19, s20]) (as := [.v (.tup [.int w, .bl (!decide (w = 0)), hdD X.head?]), .v (.tup [.int w, .bl (!decide (w = 0)), hdD X.head?])]) (es := (.cons (.v 7) (.cons (.tup (.cons (.v 16) (.cons (.cmp .ne (.v 16) (.c (.int 0))) (.cons (.ife (.cmp .ne (.v 8) (.lst .nil)) (.ix (.v 8) (.c (.int 0))) (.c .non)) .nil)))) .nil))) (by simp only [dens, opn, kv, kd, bind, Except.bind]) rfl h19
  simp only [nthS, lpB, bodyOf, f22]
  rw [exe_ife]
  simp only [deno, opn, den_nt, k9, bind, Except.bind, op1, val, noX, truthy, Bool.not_true, if_false, exes_nil]
  rfl
theorem sa14n (cl : CallT) (sx cd cd1 cd2 : D) (s2 s3 s4 s5 s6 s7 s8 s9 s10 s11 s12 s13 s14 s15 s16 s17 s18 s19 s20 : Slot) (P Gd : D) (X : List Int) (hX : X = []) : exe (cfgN FL W cl) (nthS 14 lpB) [.v sx, .o cd, s2, s3, s4, .v P, s6, s7, .v (.lst (X.map .int)), s9, s10, s11, s12, s13, s14, .v Gd, s16, s17, s18, s19, s20] = .ok (.next, [.v sx, .o cd, s2, s3, s4, .v P, s6, s7, .v (.lst (X.map .int)), s9, s10, s11, s12, s13, s14, .v Gd, s16, s17, s18, s19, s20]) := by
  subst hX
  have hn : eqD (.lst (([] : List Int).map .int)) (.lst []) = .ok true := rfl
  generalize (([] : List Int).map D.int) = XD at *
  simp [den_c, den_v, den_tup, den_lst, den_emp, den_neg, den_nt, den_bin, den_cmp, den_cmp2, den_and, den_or, den_ife, den_ix, den_sl, den_call, den_bi, den_meth, den_lrg, den_sst, den_slk, den_pop, den_lse, den_popAt, exe_asg, exe_own, exe_two, exe_three, exe_aug, exe_put, exe_app, exe_ex, exe_ife, exe_ret, exe_retN, exe_brk, exe_cont, exe_pas, exes_nil, exes_cons, cfg_cl, cfg_br, deno, opn, dens, denIfs, opL, op1, op2, vals, val, peek, noX, rd, isD, cmpF, truthy, outs, bind, Except.bind, slotsOf, slotOf, place, negF, back, asgT, asgTs, setS, gtD, isF, ioF, isNonC, slO, lpB, gmL, nthS, bodyOf, f22, hn]
theorem sa14y (cl : CallT) (sx cd cd1 cd2 : D) (s2 s3 s4 s5 s6 s7 s8 s9 s10 s11 s12 s13 s14 s15 s16 s17 s18 s19 s20 : Slot) (P Gd G2 : D) (X X2 : List Int) (x : Int) (hX : X = x :: X2) (ha : binF .add Gd (.tup [.tup [.int x, P]]) = .ok G2) (h : cl 14 [.v G2] = .ok (.bl false, [.nil])) : exe (cfgN FL W cl) (nthS 14 lpB) [.v sx, .o cd, s2, s3, s4, .v P, s6, s7, .v (.lst (X.map .int)), s9, s10, s11, s12, s13, s14, .v Gd, s16, s17, s18, s19, s20] = .ok (.next, [.v sx, .o cd, s2, s3, s4, .v P, s6, s7, .v (.lst (X.map .int)), s9, s10, s11, s12, s13, s14, .v Gd, s16, s17, s18, s19, s20]) := by
  subst hX
  have hn : eqD (.lst ((x :: X2).map .int)) (.lst []) = .ok false := rfl
  have hx := ix_hd x X2
  have hi : isF (.bl false) (.bl false) = .ok true := rfl
  generalize ((x :: X2).map D.int) = XD at *
  simp [den_c, den_v, den_tup, den_lst, den_emp, den_neg, den_nt, den_bin, den_cmp, den_cmp2, den_and, den_or, den_ife, den_ix, den_sl, den_call, den_bi, den_meth, den_lrg, den_sst, den_slk, den_pop, den_lse, den_popAt, exe_asg, exe_own, exe_two, exe_three, exe_aug, exe_put, exe_app, exe_ex, exe_ife, exe_ret, exe_retN, exe_brk, exe_cont, exe_pas, exes_nil, exes_cons, cfg_cl, cfg_br, deno, opn, dens, denIfs, opL, op1, op2, vals, val, peek, noX, rd, isD, cmpF, truthy, outs, bind, Except.bind, slotsOf, slotOf, place, negF, back, asgT, asgTs, setS, gtD, ioF, isNonC, lpB, gmL, nthS, bodyOf, f22, FL14, f14, hn, hx, ha, h, hi]
theorem z2 (cl : CallT) (sx cd cd1 cd2 : D) (s2 s3 s4 s5 s6 s7 s8 s9 s10 s11 s12 s13 s14 s15 s16 s17 s18 s19 s20 : Slot) (r : Int) (h : cl 17 [.o cd, .v (.int 1000000000000000000)] = .ok (.int r, [.o cd1, .nil])) : exe (cfgN FL W cl) (nthS 2 f22.body) [.v sx, .o cd, s2, s3, s4, s5, s6, s7, s8, s9, s10, s11, s12, s13, s14, s15, s16, s17, s18, s19, s20] = .ok (.next, [.v sx, .o cd1, s2, .v (.int r), s4, s5, s6, s7, s8, s9, s10, s11, s12, s13, s14, s15, s16, s17, s18, s19, s20]) := by
  have p := pw18
  simp [den_c, den_v, den_tup, den_lst, den_emp, den_neg, den_nt, den_bin, den_cmp, den_cmp2, den_and, den_or, den_ife, den_ix, den_sl, den_call, den_bi, den_meth, den_lrg, den_sst, den_slk, den_pop, den_lse, den_popAt, exe_asg, exe_own, exe_two, exe_three, exe_aug, exe_put, exe_app, exe_ex, exe_ife, exe_ret, exe_retN, exe_brk, exe_cont, exe_pas, exes_nil, exes_cons, cfg_cl, cfg_br, deno, opn, dens, denIfs, opL, op1, op2, vals, val, peek, noX, rd, isD, cmpF, truthy, outs, bind, Except.bind, slotsOf, slotOf, place, negF, back, asgT, asgTs, setS, gtD, isF, ioF, isNonC, slO, nthS, f22, FL17, f17, p, h]
theorem z3 (cl : CallT) (sx cd cd1 cd2 : D) (s2 s3 s4 s5 s6 s7 s8 s9 s10 s11 s12 s13 s14 s15 s16 s17 s18 s19 s20 : Slot) (r : Int) : exe (cfgN FL W cl) (nthS 3 f22.body) [.v sx, .o cd, s2, .v (.int r), s4, s5, s6, s7, s8, s9, s10, s11, s12, s13, s14, s15, s16, s17, s18, s19, s20] = .ok (.next, [.v sx, .o cd, s2, .v (.int r), .v (.tup [.tup [.int r, .tup [.int 2, .int 5]], .tup [.int r, .tup [.int 2, .int 5]]]), s5, s6, s7, s8, s9, s10, s11, s12, s13, s14, s15, s16, s17, s18, s19, s20]) := by
  simp [den_c, den_v, den_tup, den_lst, den_emp, den_neg, den_nt, den_bin, den_cmp, den_cmp2, den_and, den_or, den_ife, den_ix, den_sl, den_call, den_bi, den_meth, den_lrg, den_sst, den_slk, den_pop, den_lse, den_popAt, exe_asg, exe_own, exe_two, exe_three, exe_aug, exe_put, exe_app, exe_ex, exe_ife, exe_ret, exe_retN, exe_brk, exe_cont, exe_pas, exes_nil, exes_cons, cfg_cl, cfg_br, deno, opn, dens, denIfs, opL, op1, op2, vals, val, peek, noX, rd, isD, cmpF, truthy, outs, bind, Except.bind, slotsOf, slotOf, place, negF, back, asgT, asgTs, setS, gtD, isF, ioF, isNonC, slO, nthS, f22]
theorem z4 (cl : CallT) (sx cd cd1 cd2 : D) (s2 s3 s4 s5 s6 s7 s8 s9 s10 s11 s12 s13 s14 s15 s16 s17 s18 s19 s20 : Slot) (Gd : D) (h1 : cl 13 [.v Gd] = .ok (.int 0, [.nil])) (h2 : cl 14 [.v Gd] = .ok (.bl false, [.nil])) (h3 : cl 15 [.v Gd, .v (.tup [.int 1, .int 1])] = .ok (.int 0, [.nil, .nil])) (h4 : cl 12 [.v (.tup [.int 1, .int 1])] = .ok (.tup [.int 0, .int 2], [.nil])) (h5 : cl 12 [.v (.tup [.int 0, .int 4])] = .ok (.tup [.int 0, .int 8], [.nil])) (h19 : cl 18 [.v (.tup [.int 0, .bl false, .int 0, .tup [.int 0, .int 2], .tup [.int 0, .int 8]]), .v (.tup [.int 0, .bl false, .int 0, .tup [.int 0, .int 2], .tup [.int 0, .int 8]])] = .ok (.bl true, [.nil, .nil])) : exe (cfgN FL W cl) (nthS 4 f22.body) [.v sx, .o cd, s2, s3, .v Gd, s5, s6, s7, s8, s9, s10, s11, s12, s13, s14, s15, s16, s17, s18, s19, s20] = .ok (.ret (.bl true), [.v sx, .o cd, s2, s3, .v Gd, s5, s6, s7, s8, s9, s10, s11, s12, s13, s14, s15, s16, s17, s18, s19, s20]) := by
  have j1 : dens (cfgN FL W cl) (.cons (.v 4) .nil) [.v sx, .o cd, s2, s3, .v Gd, s5, s6, s7, s8, s9, s10, s11, s12, s13, s14, s15, s16, s17, s18, s19, s20] = .ok ([.v Gd], [.v sx, .o cd, s2, s3, .v Gd, s5, s6, s7, s8, s9, s10, s11, s12, s13, s14, s15, s16, s17, s18, s19, s20]) := by
    simp [den_c, den_v, den_tup, den_lst, den_emp, den_neg, den_nt, den_bin, den_cmp, den_cmp2, den_and, den_or, den_ife, den_ix, den_sl, den_call, den_bi, den_meth, den_lrg, den_sst, den_slk, den_pop, den_lse, den_popAt, exe_asg, exe_own, exe_two, exe_three, exe_aug, exe_put, exe_app, exe_ex, exe_ife, exe_ret, exe_retN, exe_brk, exe_cont, exe_pas, exes_nil, exes_cons, cfg_cl, cfg_br, deno, opn, dens, denIfs, opL, op1, op2, vals, val, peek, noX, rd, biF, isD, cmpF, binF, truthy, outs, bind, Except.bind, slotsOf, slotOf, ixF, place, negF, back, asgT, asgTs, setS, gtD, isF, ioF, isNonC, slO]
  have k1 : den (cfgN FL W cl) (.call 13 (.cons (.v 4) .nil)) [.v sx, .o cd, s2, s3, .v Gd, s5, s6, s7, s8, s9, s10, s11, s12, s13, s14, s15, s16, s17, s18, s19, s20] = .ok (.int 0, [.v sx, .o cd, s2, s3, .v Gd, s5, s6, s7, s8, s9, s10, s11, s12, s13, s14, s15, s16, s17, s18, s19, s20]) := call_ok (X := (cfgN FL W cl)) (f := 13) j1 rfl h1
  have j2 : dens (cfgN FL W cl) (.cons (.v 4) .nil) [.v sx, .o cd, s2, s3, .v Gd, s5, s6, s7, s8, s9, s10, s11, s12, s13, s14, s15, s16, s17, s18, s19, s20] = .ok ([.v Gd], [.v sx, .o cd, s2, s3, .v Gd, s5, s6, s7, s8, s9, s10, s11, s12, s13, s14, s15, s16, s17, s18, s19, s20]) := by
    simp [den_c, den_v, den_tup, den_lst, den_emp, den_neg, den_nt, den_bin, den_cmp, den_cmp2, den_and, den_or, den_ife, den_ix, den_sl, den_call, den_bi, den_meth, den_lrg, den_sst, den_slk, den_pop, den_lse, den_popAt, exe_asg, exe_own, exe_two, exe_three, exe_aug, exe_put, exe_app, exe_ex, exe_ife, exe_ret, exe_retN, exe_brk, exe_cont, exe_pas, exes_nil, exes_cons, cfg_cl, cfg_br, deno, opn, dens, denIfs, opL, op1, op2, vals, val, peek, noX, rd, biF, isD, cmpF, binF, truthy, outs, bind, Except.bind, slotsOf, slotOf, ixF, place, negF, back, asgT, asgTs, setS, gtD, isF, ioF, isNonC, slO]
  have k2 : den (cfgN FL W cl) (.call 14 (.cons (.v 4) .nil)) [.v sx, .o cd, s2, s3, .v Gd, s5, s6, s7, s8, s9, s10, s11, s12, s13, s14, s15, s16, s17, s18, s19, s20] = .ok (.bl false, [.v sx, .o cd, s2, s3, .v Gd, s5, s6, s7, s8, s9, s10, s11, s12, s13, s14, s15, s16, s17, s18, s19, s20]) := call_ok (X := (cfgN FL W cl)) (f := 14) j2 rfl h2
  have j3 : dens (cfgN FL W cl) (.cons (.v 4) (.cons (.tup (.cons (.c (.int 1)) (.cons (.c (.int 1)) .nil))) .nil)) [.v sx, .o cd, s2, s3, .v Gd, s5, s6, s7, s8, s9, s10, s11, s12, s13, s14, s15, s16, s17, s18, s19, s20] = .ok ([.v Gd, .v (.tup [.int 1, .int 1])], [.v sx, .o cd, s2, s3, .v Gd, s5, s6, s7, s8, s9, s10, s11, s12, s13, s14, s15, s16, s17, s18, s19, s20]) := by
    simp [den_c, den_v, den_tup, den_lst, den_emp, den_neg, den_nt, den_bin, den_cmp, den_cmp2, den_and, den_or, den_ife, den_ix, den_sl, den_call, den_bi, den_meth, den_lrg, den_sst, den_slk, den_pop, den_lse, den_popAt, exe_asg, exe_own, exe_two, exe_three, exe_aug, exe_put, exe_app, exe_ex, exe_ife, exe_ret, exe_retN, exe_brk, exe_cont, exe_pas, exes_nil, exes_cons, cfg_cl, cfg_br, deno, opn, dens, denIfs, opL, op1, op2, vals, val, peek, noX, rd, biF, isD, cmpF, binF, truthy, outs, bind, Except.bind, slotsOf, slotOf, ixF, place, negF, back, asgT, asgTs, setS, gtD, isF, ioF, isNonC, slO]
  have k3 : den (cfgN FL W cl) (.call 15 (.cons (.v 4) (.cons (.tup (.cons (.c (.int 1)) (.cons (.c (.int 1)) .nil))) .nil))) [.v sx, .o cd, s2, s3, .v Gd, s5, s6, s7, s8, s9, s10, s11, s12, s13, s14, s15, s16, s17, s18, s19, s20] = .ok (.int 0, [.v sx, .o cd, s2, s3, .v Gd, s5, s6, s7, s8, s9, s10, s11, s12, s13, s14, s15, s16, s17, s18, s19, s20]) := call_ok (X := (cfgN FL W cl)) (f := 15) j3 rfl h3
  have j4 : dens (cfgN FL W cl) (.cons (.tup (.cons (.c (.int 1)) (.cons (.c (.int 1)) .nil))) .nil) [.v sx, .o cd, s2, s3, .v Gd, s5, s6, s7, s8, s9, s10, s11, s12, s13, s14, s15, s16, s17, s18, s19, s20] = .ok ([.v (.tup [.int 1, .int 1])], [.v sx, .o cd, s2, s3, .v Gd, s5, s6, s7, s8, s9, s10, s11, s12, s13, s14, s15, s16, s17, s18, s19, s20]) := by
    simp [den_c, den_v, den_tup, den_lst, den_emp, den_neg, den_nt, den_bin, den_cmp, den_cmp2, den_and, den_or, den_ife, den_ix, den_sl, den_call, den_bi, den_meth, den_lrg, den_sst, den_slk, den_pop, den_lse, den_popAt, exe_asg, exe_own, exe_two, exe_three, exe_aug, exe_put, exe_app, exe_ex, exe_ife, exe_ret, exe_retN, exe_brk, exe_cont, exe_pas, exes_nil, exes_cons, cfg_cl, cfg_br, deno, opn, dens, denIfs, opL, op1, op2, vals, val, peek, noX, rd, biF, isD, cmpF, binF, truthy, outs, bind, Except.bind, slotsOf, slotOf, ixF, place, negF, back, asgT, asgTs, setS, gtD, isF, ioF, isNonC, slO]
  have k4 : den (cfgN FL W cl) (.call 12 (.cons (.tup (.cons (.c (.int 1)) (.cons (.c (.int 1)) .nil))) .nil)) [.v sx, .o cd, s2, s3, .v Gd, s5, s6, s7, s8, s9, s10, s11, s12, s13, s14, s15, s16, s17, s18, s19, s20] = .ok (.tup [.int 0, .int 2], [.v sx, .o cd, s2, s3, .v Gd, s5, s6, s7, s8, s9, s10, s11, s12, s13, s14, s15, s16, s17, s18, s19, s20]) := call_ok (X := (cfgN FL W cl)) (f := 12) j4 rfl h4
  have j5 : dens (cfgN FL W cl) (.cons (.tup (.cons (.c (.int 0)) (.cons (.c (.int 4)) .nil))) .nil) [.v sx, .o cd, s2, s3, .v Gd, s5, s6, s7, s8, s9, s10, s11, s12, s13, s14, s15, s16, s17, s18, s19, s20] = .ok ([.v (.tup [.int 0, .int 4])], [.v sx, .o cd, s2, s3, .v Gd, s5, s6, s7, s8, s9, s10, s11, s12, s13, s14, s15, s16, s17, s18, s19, s20]) := by
    simp [den_c, den_v, den_tup, den_lst, den_emp, den_neg, den_nt, den_bin, den_cmp, den_cmp2, den_and, den_or, den_ife, den_ix, den_sl, den_call, den_bi, den_meth, den_lrg, den_sst, den_slk, den_pop, den_lse, den_popAt, exe_asg, exe_own, exe_two, exe_three, exe_aug, exe_put, exe_app, exe_ex, exe_ife, exe_ret, exe_retN, exe_brk, exe_cont, exe_pas, exes_nil, exes_cons, cfg_cl, cfg_br, deno, opn, dens, denIfs, opL, op1, op2, vals, val, peek, noX, rd, biF, isD, cmpF, binF, truthy, outs, bind, Except.bind, slotsOf, slotOf, ixF, place, negF, back, asgT, asgTs, setS, gtD, isF, ioF, isNonC, slO]
  have k5 : den (cfgN FL W cl) (.call 12 (.cons (.tup (.cons (.c (.int 0)) (.cons (.c (.int 4)) .nil))) .nil)) [.v sx, .o cd, s2, s3, .v Gd, s5, s6, s7, s8, s9, s10, s11, s12, s13, s14, s15, s16, s17, s18, s19, s20] = .ok (.tup [.int 0, .int 8], [.v sx, .o cd, s2, s3, .v Gd, s5, s6, s7, s8, s9, s10, s11, s12, s13, s14, s15, s16, s17, s18, s19, s20]) := call_ok (X := (cfgN FL W cl)) (f := 12) j5 rfl h5
  have kt : den (cfgN FL W cl) (.tup (.cons (.call 13 (.cons (.v 4) .nil)) (.cons (.call 14 (.cons (.v 4) .nil)) (.cons (.call 15 (.cons (.v 4) (.cons (.tup (.cons (.c (.int 1)) (.cons (.c (.int 1)) .nil))) .nil))) (.cons (.call 12 (.cons (.tup (.cons (.c (.int 1)) (.cons (.c (.int 1)) .nil))) .nil)) (.cons (.call 12 (.cons (.tup (.cons (.c (.int 0)) (.cons (.c (.int 4)) .nil))) .nil)) .nil)))))) [.v sx, .o cd, s2, s3, .v Gd, s5, s6, s7, s8, s9, s10, s11, s12, s13, s14, s15, s16, s17, s18, s19, s20] = .ok ((.tup [.int 0, .bl false, .int 0, .tup [.int 0, .int 2], .tup [.int 0, .int 8]]), [.v sx, .o cd, s2, s3, .v Gd, s5, s6, s7, s8, s9, s10, s11, s12, s13, s14, s15, s16, s17, s18, s19, s20]) := tup_ok (dens_call k1 (dens_call k2 (dens_call k3 (dens_call k4 (dens_call k5 rfl))))) rfl
  have kd : den (cfgN FL W cl) (.tup (.cons (.c (.int 0)) (.cons (.c (.bl false)) (.cons (.c (.int 0)) (.cons (.tup (.cons (.c (.int 0)) (.cons (.c (.int 2)) .nil))) (.cons (.tup (.cons (.c (.int 0)) (.cons (.c (.int 8)) .nil))) .nil)))))) [.v sx, .o cd, s2, s3, .v Gd, s5, s6, s7, s8, s9, s10, s11, s12, s13, s14, s15, s16, s17, s18, s19, s20] = .ok ((.tup [.int 0, .bl false, .int 0, .tup [.int 0, .int 2], .tup [.int 0, .int 8]]), [.v sx, .o cd, s2, s3, .v Gd, s5, s6, s7, s8, s9, s10, s11, s12, s13, s14, s15, s16, s17, s18, s19, s20]) := by
    simp [den_c, den_v, den_tup, den_lst, den_emp, den_neg, den_nt, den_bin, den_cmp, den_cmp2, den_and, den_or, den_ife, den_ix, den_sl, den_call, den_bi, den_meth, den_lrg, den_sst, den_slk, den_pop, den_lse, den_popAt, exe_asg, exe_own, exe_two, exe_three, exe_aug, exe_put, exe_app, exe_ex, exe_ife, exe_ret, exe_retN, exe_brk, exe_cont, exe_pas, exes_nil, exes_cons, cfg_cl, cfg_br, deno, opn, dens, denIfs, opL, op1, op2, vals, val, peek, noX, rd, biF, isD, cmpF, binF, truthy, outs, bind, Except.bind, slotsOf, slotOf, ixF, place, negF, back, asgT, asgTs, setS, gtD, isF, ioF, isNonC, slO]
  have k9 := call_ok (X := (cfgN FL W cl)) (f := 18) (env := [.v sx, .o cd, s2, s3, .v Gd, s5, s6, s7, s8, s9, s10, s11, s12, s13, s14, s15, s16, s17, s18, s19, s20]) (env' := [.v sx, .o cd, s2, s3, .v Gd, s5, s6, s7, s8, s9, s10, s11, s12, s13, s14, s15, s16, s17, s18, s19, s20]) (as := [.v (.tup [.int 0, .bl false, .int 0, .tup [.int 0, .int 2], .tup [.int 0, .int 8]]), .v (.tup [.int 0, .bl false, .int 0, .tup [.int 0, .int 2], .tup [.int 0, .int 8]])]) (es := (.cons (.tup (.cons (.call 13 (.cons (.v 4) .nil)) (.cons (.call 14 (.cons (.v 4) .nil)) (.cons (.call 15 (.cons (.v 4) (.cons (.tup (.cons (.c (.int 1)) (.cons (.c (.int 1)) .nil))) .nil))) (.cons (.call 12 (.cons (.tup (.cons (.c (.int 1)) (.cons (.c (.int 1)) .nil))) .nil)) (.cons (.call 12 (.cons (.tup (.cons (.c (.int 0)) (.cons (.c (.int 4)) .nil))) .nil)) .nil)))))) (.cons (.tup (.cons (.c (.int 0)) (.cons (.c (.bl false)) (.cons (.c (.int 0)) (.cons (.tup (.cons (.c (.int 0)) (.cons (.c (.int 2)) .nil))) (.cons (.tup (.cons (.c (.int 0)) (.cons (.c (.int 8)) .nil))) .nil)))))) .nil))) (by simp only [dens, opn, kt, kd, bind, Except.bind]) rfl h19
  simp only [nthS, f22]
  rw [exe_ret]
  simp only [k9, bind, Except.bind]
  rfl
theorem xr_same {w : Int} (h : in3 w) : xr w w = 0 := by
  have := in3_mem h
  simp only [List.mem_cons, List.not_mem_nil, or_false] at this
  rcases this with rfl | rfl | rfl | rfl <;> decide
theorem xr_two {v : Int} (h : in3 v) : xr (xr 0 v) v = 0 := by
  have := in3_mem h
  simp only [List.mem_cons, List.not_mem_nil, or_false] at this
  rcases this with rfl | rfl | rfl | rfl <;> decide
theorem wv_far {r : Row} (hr : r ∈ TB) {s : Int} (hs : 120 ≤ s) : wv r s = gA r.G (s % r.pd) := by
  have f := row_f hr
  obtain ⟨b0, p0⟩ := row_b hr
  have hn := f.n
  have hp := f.p
  have m0 := Int.emod_nonneg s (b := r.pd) (by omega)
  have m1 := Int.emod_lt_of_pos s p0
  have hper := f.per (s % r.pd).toNat (by omega)
  rw [show (((s % r.pd).toNat : Nat) : Int) = s % r.pd by omega, b0, Int.zero_add, Int.sub_zero, Int.emod_eq_of_lt m0 m1] at hper
  rw [← hper]
  unfold wv
  rw [if_neg (by omega), ← hp]
  have : (s - r.ag - 1) % r.pd = (s % r.pd - r.ag - 1) % r.pd := by
    have h1 : s - r.ag - 1 = (s % r.pd - r.ag - 1) + r.pd * (s / r.pd) := by
      have := Int.emod_add_mul_ediv s r.pd
      omega
    rw [h1, Int.add_mul_emod_self_left]
  rw [this]
theorem atOf_mem {G : List Int} {w x : Int} (h : x ∈ atOf G w) : ∃ i : Nat, i < G.length ∧ x = (i : Int) ∧ G.getD i 0 = w := by
  unfold atOf at h
  obtain ⟨i, hi, hx⟩ := List.mem_filterMap.mp h
  have hi := List.mem_range.mp hi
  split at hx
  · rename_i hg
    exact ⟨i, hi, (Option.some.inj hx).symm, hg⟩
  · cases hx
theorem add_gm (gm : List Ge) (x : Int) (r : Row) (h : gm.length ≤ 10) : binF .add (gmD gm) (.tup [.tup [.int x, prD r.t]]) = .ok (gmD (gm ++ [(x, r)])) := by
  have hz : (gm.map geD).length + 1 ≤ sz := by rw [List.length_map]; unfold sz; omega
  unfold gmD
  rw [List.map_append]
  show (if (gm.map geD).length + 1 ≤ sz then (.ok (.tup (gm.map geD ++ [.tup [.int x, prD r.t]])) : M D) else stk) = _
  rw [if_pos hz]
  rfl
theorem gml (a b : Int) {gm : List Ge} (hg : ∀ g ∈ gm, 0 ≤ g.1 ∧ g.1 ≤ 100 ∧ g.2 ∈ TB) (sx : D) (s2 s3 s4 s5 s6 s7 s8 s9 s10 s11 s12 s13 s14 s15 s16 s17 s18 s19 s20 : Slot) : ∃ s17' s18', exe (cfgN FL 1000 (callN FL 1000 59)) (nthS 10 lpB) [.v sx, cupS a b, s2, s3, s4, s5, s6, s7, s8, s9, s10, s11, s12, s13, s14, .v (gmD gm), .v (.int 0), s17, s18, s19, s20] = .ok (.next, [.v sx, cupS a b, s2, s3, s4, s5, s6, s7, s8, s9, s10, s11, s12, s13, s14, .v (gmD gm), .v (.int (sumG gm)), s17', s18', s19, s20]) := by
  obtain ⟨ev, h1, s17', s18', rfl⟩ := for_inv (C := (cfgN FL 1000 (callN FL 1000 59))) (t := .p (.cons (.n 17) (.cons (.n 18) .nil))) (it := .e (.v 15)) (body := gmL)
    (env := [.v sx, cupS a b, s2, s3, s4, s5, s6, s7, s8, s9, s10, s11, s12, s13, s14, .v (gmD gm), .v (.int 0), s17, s18, s19, s20]) (env1 := [.v sx, cupS a b, s2, s3, s4, s5, s6, s7, s8, s9, s10, s11, s12, s13, s14, .v (gmD gm), .v (.int 0), s17, s18, s19, s20]) (gm.map geD)
    (fun i ev => ∃ s17 s18, ev = [.v sx, cupS a b, s2, s3, s4, s5, s6, s7, s8, s9, s10, s11, s12, s13, s14, .v (gmD gm), .v (.int (sumG (gm.take i))), s17, s18, s19, s20])
    (by
      unfold gmD
      simp [deni, den_c, den_v, den_tup, den_lst, den_emp, den_neg, den_nt, den_bin, den_cmp, den_cmp2, den_and, den_or, den_ife, den_ix, den_sl, den_call, den_bi, den_meth, den_lrg, den_sst, den_slk, den_pop, den_lse, den_popAt, exe_asg, exe_own, exe_two, exe_three, exe_aug, exe_put, exe_app, exe_ex, exe_ife, exe_ret, exe_retN, exe_brk, exe_cont, exe_pas, exes_nil, exes_cons, cfg_cl, cfg_br, deno, opn, dens, denIfs, opL, op1, op2, vals, val, peek, noX, rd, biF, isD, cmpF, binF, truthy, outs, bind, Except.bind, slotsOf, slotOf, ixF, place, negF, back, asgT, asgTs, setS, gtD, isF, ioF, isNonC, slO, seqD]) ⟨s17, s18, rfl⟩ (by
      rintro i d _ hd ⟨s17, s18, rfl⟩
      rw [List.getElem?_map] at hd
      obtain ⟨g, hgi, rfl⟩ : ∃ p, gm[i]? = some p ∧ geD p = d := by
        cases h : gm[i]? with
        | none => rw [h] at hd; cases hd
        | some p => rw [h] at hd; exact ⟨p, rfl, by injection hd⟩
      obtain ⟨g1, g2, g3⟩ := hg g (List.mem_of_getElem? hgi)
      have f := row_f g3
      have htk : gm.take (i + 1) = gm.take i ++ [g] := by rw [List.take_succ, hgi]; rfl
      have hw : in3 (sumG (gm.take i)) := sumG_in fun x hx => (hg x (List.mem_of_mem_take hx)).2.2
      obtain ⟨m, hm⟩ : ∃ m : Nat, g.1 = m := ⟨g.1.toNat, by omega⟩
      have e20 := c20 (W := 1000) 58 g.2.t m (by omega)
      rw [← gr_take (tkT g.2.t) 121 (m + 1) (by omega), f.g] at e20
      have hx := ix_G f (m + 1) (by omega) (i := (m : Int)) (by omega) (by omega)
      rw [← f.s m (by omega)] at hx
      have e21 := (runX hw (wv_3 f (m : Int))).2.1
      have hs := sl0 (W := 1000) (callN FL 1000 59) sx (.lst [.int a, .int b]) .non .non s2 s3 s4 s5 s6 s7 s8 s9 s10 s11 s12 s13 s14 (.v (gmD gm)) s16 s17 s18 s19 s20 (prD g.2.t) (.lst ((g.2.G.take (m + 1)).map .int)) (m : Int) _ _ _ e20 hx e21
      rw [← hm, ← sumG_snoc, ← htk] at hs
      exact ⟨_, (exes_ok (r := .nil) hs).trans exes_nil, _, _, rfl⟩)
  rw [List.length_map, List.take_length] at h1
  exact ⟨s17', s18', h1⟩
set_option maxHeartbeats 1000000 in
theorem turn (a b : Int) (sx : D) (s2 s3 s4 s5 s6 s7 s8 s9 s10 s11 s12 s13 s14 s15 s16 s17 s18 s19 s20 : Slot) : ∃ (a' b' : Int) (t3 t5 t6 t7 t8 t9 t10 t11 t12 t13 t14 t15 t16 t17 t18 : Slot), exes (cfgN FL 1000 (callN FL 1000 59)) lpB [.v sx, cupS a b, s2, s3, s4, s5, s6, s7, s8, s9, s10, s11, s12, s13, s14, s15, s16, s17, s18, s19, s20] = .ok (.next, [.v sx, cupS a' b', s2, t3, s4, t5, t6, t7, t8, t9, t10, t11, t12, t13, t14, t15, t16, t17, t18, s19, s20]) := by
  obtain ⟨x, a1, b1, g1, x1, x2⟩ := c17 (W := 1000) 58 a b 7 (by decide) (by decide)
  obtain ⟨y, a2, b2, g2, y1, y2⟩ := c17 (W := 1000) 58 a1 b1 6 (by decide) (by decide)
  have g1 : callN FL 1000 59 17 [.o (.lst [.int a, .int b]), .v (.int 7)] = .ok (.int x, [.o (.lst [.int a1, .int b1]), .nil]) := g1
  have g2 : callN FL 1000 59 17 [.o (.lst [.int a1, .int b1]), .v (.int 6)] = .ok (.int y, [.o (.lst [.int a2, .int b2]), .nil]) := g2
  have ht := mnx_ok (x := x) (y := 1 + y) ⟨x1, by omega⟩ ⟨by omega, by omega⟩
  obtain ⟨r, hr, hrt⟩ := row_of ht (by show 1 ≤ mxx x (1 + y); unfold mxx; split <;> omega)
  have hP : D.tup [.int (mn x (1 + y)), .int (mxx x (1 + y))] = prD r.t := by rw [hrt]; rfl
  have f := row_f hr
  obtain ⟨hb0, hp0⟩ := row_b hr
  have h0 : exe (cfgN FL 1000 (callN FL 1000 59)) (nthS 0 lpB) [.v sx, cupS a b, s2, s3, s4, s5, s6, s7, s8, s9, s10, s11, s12, s13, s14, s15, s16, s17, s18, s19, s20] = .ok (.next, [.v sx, cupS a2 b2, s2, s3, s4, s5, s6, s7, s8, .v (.int x), .v (.int (1 + y)), s11, s12, s13, s14, s15, s16, s17, s18, s19, s20]) := sa0 (W := 1000) (callN FL 1000 59) sx (.lst [.int a, .int b]) (.lst [.int a1, .int b1]) (.lst [.int a2, .int b2]) s2 s3 s4 s5 s6 s7 s8 s9 s10 s11 s12 s13 s14 s15 s16 s17 s18 s19 s20 x y (1 + y) g1 g2 (b_add _ _)
  have h1 := sa1 (W := 1000) (callN FL 1000 59) sx (.lst [.int a2, .int b2]) .non .non s2 s3 s4 s5 s6 s7 s8 (.v (.int x)) (.v (.int (1 + y))) s11 s12 s13 s14 s15 s16 s17 s18 s19 s20 x (1 + y)
  rw [hP] at h1
  obtain ⟨s, a3, b3, g3, s0, s1⟩ := c17 (W := 1000) 58 a2 b2 121 (by decide) (by decide)
  have g3 : callN FL 1000 59 17 [.o (.lst [.int a2, .int b2]), .v (.int 121)] = .ok (.int s, [.o (.lst [.int a3, .int b3]), .nil]) := g3
  have e20 : callN FL 1000 59 20 [.v (prD r.t), .v (.int 120)] = _ := c20 (W := 1000) 58 r.t 120 (Nat.le_refl _)
  rw [f.g] at e20
  have h2 : exe (cfgN FL 1000 (callN FL 1000 59)) (nthS 2 lpB) [.v sx, cupS a2 b2, s2, s3, s4, .v (prD r.t), s6, s7, s8, .v (.int x), .v (.int (1 + y)), s11, s12, s13, s14, s15, s16, s17, s18, s19, s20] = .ok (.next, [.v sx, cupS a3 b3, s2, s3, s4, .v (prD r.t), s6, s7, s8, .v (.int x), .v (.int (1 + y)), .v (.lst (r.G.map .int)), .v (.int s), s13, s14, s15, s16, s17, s18, s19, s20]) := sa2 (W := 1000) (callN FL 1000 59) sx (.lst [.int a2, .int b2]) (.lst [.int a3, .int b3]) .non s2 s3 s4 (.v (prD r.t)) s6 s7 s8 (.v (.int x)) (.v (.int (1 + y))) s11 s12 s13 s14 s15 s16 s17 s18 s19 s20 (prD r.t) _ s e20 g3
  have e12 := (run7 hr).2.2.2
  rw [hb0] at e12
  have h3 : exe (cfgN FL 1000 (callN FL 1000 59)) (nthS 3 lpB) [.v sx, cupS a3 b3, s2, s3, s4, .v (prD r.t), s6, s7, s8, .v (.int x), .v (.int (1 + y)), .v (.lst (r.G.map .int)), .v (.int s), s13, s14, s15, s16, s17, s18, s19, s20] = .ok (.next, [.v sx, cupS a3 b3, s2, s3, s4, .v (prD r.t), s6, s7, s8, .v (.int x), .v (.int (1 + y)), .v (.lst (r.G.map .int)), .v (.int s), .v (.int 0), .v (.int r.pd), s15, s16, s17, s18, s19, s20]) := sa3 (W := 1000) (callN FL 1000 59) sx (.lst [.int a3, .int b3]) .non .non s2 s3 s4 (.v (prD r.t)) s6 s7 s8 (.v (.int x)) (.v (.int (1 + y))) (.v (.lst (r.G.map .int))) (.v (.int s)) s13 s14 s15 s16 s17 s18 s19 s20 (prD r.t) _ _ e12
  have gc := goodC (W := 1000) (callN FL 1000 59) hr sx (.lst [.int a3, .int b3]) s2 s3 s4 (.v (prD r.t)) s6 s7 s8 (.v (.int x)) (.v (.int (1 + y))) (.v (.lst (r.G.map .int))) (.v (.int s)) (.v (.int 0)) (.v (.int r.pd)) s15 s16 s17 s18 s19 s20
  rw [hb0] at gc
  have h4 : exe (cfgN FL 1000 (callN FL 1000 59)) (nthS 4 lpB) [.v sx, cupS a3 b3, s2, s3, s4, .v (prD r.t), s6, s7, s8, .v (.int x), .v (.int (1 + y)), .v (.lst (r.G.map .int)), .v (.int s), .v (.int 0), .v (.int r.pd), s15, s16, s17, s18, s19, s20] = .ok (.next, [.v sx, cupS a3 b3, s2, s3, s4, .v (prD r.t), .v (.lst ((goodOf r).map .int)), s7, s8, .v (.int x), .v (.int (1 + y)), .v (.lst (r.G.map .int)), .v (.int s), .v (.int 0), .v (.int r.pd), s15, s16, s17, s18, s19, s20]) := sa4 (W := 1000) (callN FL 1000 59) sx (.lst [.int a3, .int b3]) .non .non s2 s3 s4 (.v (prD r.t)) s6 s7 s8 (.v (.int x)) (.v (.int (1 + y))) (.v (.lst (r.G.map .int))) (.v (.int s)) (.v (.int 0)) (.v (.int r.pd)) s15 s16 s17 s18 s19 s20 _ _ _ gc
  have hx0 : ixF (.lst ((goodOf r).map .int)) (.int 0) = .ok (.int r.pd) := by
    have := f.good
    cases hg : goodOf r with
    | nil => rw [hg] at this; cases this
    | cons p X =>
      rw [hg] at this
      have : p = r.pd := Option.some.inj this
      subst this
      exact ix_hd _ X
  have h5 : exe (cfgN FL 1000 (callN FL 1000 59)) (nthS 5 lpB) [.v sx, cupS a3 b3, s2, s3, s4, .v (prD r.t), .v (.lst ((goodOf r).map .int)), s7, s8, .v (.int x), .v (.int (1 + y)), .v (.lst (r.G.map .int)), .v (.int s), .v (.int 0), .v (.int r.pd), s15, s16, s17, s18, s19, s20] = .ok (.next, [.v sx, cupS a3 b3, s2, s3, s4, .v (prD r.t), .v (.lst ((goodOf r).map .int)), s7, s8, .v (.int x), .v (.int (1 + y)), .v (.lst (r.G.map .int)), .v (.int s), .v (.int 0), .v (.int r.pd), s15, s16, s17, s18, s19, s20]) := sa5 (W := 1000) (callN FL 1000 59) sx (.lst [.int a3, .int b3]) .non .non s2 s3 s4 (.v (prD r.t)) (.v (.lst ((goodOf r).map .int))) s7 s8 (.v (.int x)) (.v (.int (1 + y))) (.v (.lst (r.G.map .int))) (.v (.int s)) (.v (.int 0)) (.v (.int r.pd)) s15 s16 s17 s18 s19 s20 _ r.pd hx0
  obtain ⟨f0, a4, b4, g4, f1, f2⟩ := c17 (W := 1000) 58 a3 b3 999999999999999880 (by decide) (by decide)
  have g4 : callN FL 1000 59 17 [.o (.lst [.int a3, .int b3]), .v (.int 999999999999999880)] = .ok (.int f0, [.o (.lst [.int a4, .int b4]), .nil]) := g4
  have h6 : exe (cfgN FL 1000 (callN FL 1000 59)) (nthS 6 lpB) [.v sx, cupS a3 b3, s2, s3, s4, .v (prD r.t), .v (.lst ((goodOf r).map .int)), s7, s8, .v (.int x), .v (.int (1 + y)), .v (.lst (r.G.map .int)), .v (.int s), .v (.int 0), .v (.int r.pd), s15, s16, s17, s18, s19, s20] = .ok (.next, [.v sx, cupS a4 b4, s2, .v (.int (120 + f0)), s4, .v (prD r.t), .v (.lst ((goodOf r).map .int)), s7, s8, .v (.int x), .v (.int (1 + y)), .v (.lst (r.G.map .int)), .v (.int s), .v (.int 0), .v (.int r.pd), s15, s16, s17, s18, s19, s20]) := sa6 (W := 1000) (callN FL 1000 59) sx (.lst [.int a3, .int b3]) (.lst [.int a4, .int b4]) .non s2 s3 s4 (.v (prD r.t)) (.v (.lst ((goodOf r).map .int))) s7 s8 (.v (.int x)) (.v (.int (1 + y))) (.v (.lst (r.G.map .int))) (.v (.int s)) (.v (.int 0)) (.v (.int r.pd)) s15 s16 s17 s18 s19 s20 f0 (120 + f0) g4 (b_add _ _)
  have w1 := c11 hr (s := s) s0 (by omega)
  have w2 := c11 hr (s := 120 + f0) (by omega) (by omega)
  have w3 := c11 hr (s := 999999999999999999) (by decide) (by decide)
  have hlt : ltD (.int (wv r 999999999999999999)) (.int 3) = .ok true := by
    have := (wv_in f 999999999999999999).2
    rw [lt_int, decide_eq_true (by omega)]
  have h7 : exe (cfgN FL 1000 (callN FL 1000 59)) (nthS 7 lpB) [.v sx, cupS a4 b4, s2, .v (.int (120 + f0)), s4, .v (prD r.t), .v (.lst ((goodOf r).map .int)), s7, s8, .v (.int x), .v (.int (1 + y)), .v (.lst (r.G.map .int)), .v (.int s), .v (.int 0), .v (.int r.pd), s15, s16, s17, s18, s19, s20] = .ok (.next, [.v sx, cupS a4 b4, s2, .v (.int (120 + f0)), s4, .v (prD r.t), .v (.lst ((goodOf r).map .int)), .v (.tup [.int (wv r s), .int (wv r (120 + f0)), .bl true]), s8, .v (.int x), .v (.int (1 + y)), .v (.lst (r.G.map .int)), .v (.int s), .v (.int 0), .v (.int r.pd), s15, s16, s17, s18, s19, s20]) := sa7 (W := 1000) (callN FL 1000 59) sx (.lst [.int a4, .int b4]) .non .non s2 (.v (.int (120 + f0))) s4 (.v (prD r.t)) (.v (.lst ((goodOf r).map .int))) s7 s8 (.v (.int x)) (.v (.int (1 + y))) (.v (.lst (r.G.map .int))) (.v (.int s)) (.v (.int 0)) (.v (.int r.pd)) s15 s16 s17 s18 s19 s20 (prD r.t) _ _ (120 + f0) s _ w1 w2 w3 hlt
  have xs : ixF (.lst (r.G.map .int)) (.int s) = .ok (.int (wv r s)) := by
    have h := f.s s.toNat (by omega)
    rw [show ((s.toNat : Nat) : Int) = s by omega] at h
    rw [h]
    exact ix_G2 f s0 s1
  have m0 := Int.emod_nonneg (120 + f0) (b := r.pd) (by omega)
  have m1 := Int.emod_lt_of_pos (120 + f0) hp0
  have hpl : r.pd ≤ 100 := by have := f.bp; omega
  have xf : ixF (.lst (r.G.map .int)) (.int ((120 + f0) % r.pd)) = .ok (.int (wv r (120 + f0))) := by
    rw [wv_far hr (by omega)]
    exact ix_G2 f m0 (by omega)
  have gT3 : goodD 5 (.tup [.int (wv r s), .int (wv r (120 + f0)), .bl true]) = true := gd_tup 4 _ (by show 3 ≤ 1000; decide) fun z hz => by
    simp only [List.mem_cons, List.not_mem_nil, or_false] at hz
    rcases hz with rfl | rfl | rfl
    · exact gd_int _ _
    · exact gd_int _ _
    · exact gd_bl _ _
  have g18 : callN FL 1000 59 18 [.v (.tup [.int (wv r s), .int (wv r (120 + f0)), .bl true]), .v (.tup [.int (wv r s), .int (wv r (120 + f0)), .bl true])] = _ := c18 (W := 1000) 5 53 _ gT3
  have h8 : exe (cfgN FL 1000 (callN FL 1000 59)) (nthS 8 lpB) [.v sx, cupS a4 b4, s2, .v (.int (120 + f0)), s4, .v (prD r.t), .v (.lst ((goodOf r).map .int)), .v (.tup [.int (wv r s), .int (wv r (120 + f0)), .bl true]), s8, .v (.int x), .v (.int (1 + y)), .v (.lst (r.G.map .int)), .v (.int s), .v (.int 0), .v (.int r.pd), s15, s16, s17, s18, s19, s20] = .ok (.next, [.v sx, cupS a4 b4, s2, .v (.int (120 + f0)), s4, .v (prD r.t), .v (.lst ((goodOf r).map .int)), .v (.tup [.int (wv r s), .int (wv r (120 + f0)), .bl true]), s8, .v (.int x), .v (.int (1 + y)), .v (.lst (r.G.map .int)), .v (.int s), .v (.int 0), .v (.int r.pd), s15, s16, s17, s18, s19, s20]) := sa8 (W := 1000) (callN FL 1000 59) sx (.lst [.int a4, .int b4]) .non .non s2 (.v (.int (120 + f0))) s4 (.v (prD r.t)) (.v (.lst ((goodOf r).map .int))) (.v (.tup [.int (wv r s), .int (wv r (120 + f0)), .bl true])) s8 (.v (.int x)) (.v (.int (1 + y))) (.v (.lst (r.G.map .int))) (.v (.int s)) (.v (.int 0)) (.v (.int r.pd)) s15 s16 s17 s18 s19 s20 _ _ _ (120 + f0) s r.pd xs (b_mod hp0) xf g18
  obtain ⟨gm, a5, b5, g5, l1, l2, hg⟩ := c19 (W := 1000) 57 a4 b4
  have g5 : callN FL 1000 59 19 [.o (.lst [.int a4, .int b4]), .v (.int 3), .v (.int 100)] = .ok (gmD gm, [.o (.lst [.int a5, .int b5]), .nil, .nil]) := g5
  have hG : GmOk gm := ⟨l1, by omega, fun g h => ⟨(hg g h).1, by have := (hg g h).2.1; omega, (hg g h).2.2⟩⟩
  have h9 : exe (cfgN FL 1000 (callN FL 1000 59)) (nthS 9 lpB) [.v sx, cupS a4 b4, s2, .v (.int (120 + f0)), s4, .v (prD r.t), .v (.lst ((goodOf r).map .int)), .v (.tup [.int (wv r s), .int (wv r (120 + f0)), .bl true]), s8, .v (.int x), .v (.int (1 + y)), .v (.lst (r.G.map .int)), .v (.int s), .v (.int 0), .v (.int r.pd), s15, s16, s17, s18, s19, s20] = .ok (.next, [.v sx, cupS a5 b5, s2, .v (.int (120 + f0)), s4, .v (prD r.t), .v (.lst ((goodOf r).map .int)), .v (.tup [.int (wv r s), .int (wv r (120 + f0)), .bl true]), s8, .v (.int x), .v (.int (1 + y)), .v (.lst (r.G.map .int)), .v (.int s), .v (.int 0), .v (.int r.pd), .v (gmD gm), .v (.int 0), s17, s18, s19, s20]) := sa9 (W := 1000) (callN FL 1000 59) sx (.lst [.int a4, .int b4]) (.lst [.int a5, .int b5]) .non s2 (.v (.int (120 + f0))) s4 (.v (prD r.t)) (.v (.lst ((goodOf r).map .int))) (.v (.tup [.int (wv r s), .int (wv r (120 + f0)), .bl true])) s8 (.v (.int x)) (.v (.int (1 + y))) (.v (.lst (r.G.map .int))) (.v (.int s)) (.v (.int 0)) (.v (.int r.pd)) s15 s16 s17 s18 s19 s20 (gmD gm) g5
  obtain ⟨s17', s18', h10⟩ := gml a5 b5 hg sx s2 (.v (.int (120 + f0))) s4 (.v (prD r.t)) (.v (.lst ((goodOf r).map .int))) (.v (.tup [.int (wv r s), .int (wv r (120 + f0)), .bl true])) s8 (.v (.int x)) (.v (.int (1 + y))) (.v (.lst (r.G.map .int))) (.v (.int s)) (.v (.int 0)) (.v (.int r.pd)) (.v (gmD gm)) (.v (.int 0)) s17 s18 s19 s20
  have hw : in3 (sumG gm) := sumG_in fun x hx => (hg x hx).2.2
  have h11 : exe (cfgN FL 1000 (callN FL 1000 59)) (nthS 11 lpB) [.v sx, cupS a5 b5, s2, .v (.int (120 + f0)), s4, .v (prD r.t), .v (.lst ((goodOf r).map .int)), .v (.tup [.int (wv r s), .int (wv r (120 + f0)), .bl true]), s8, .v (.int x), .v (.int (1 + y)), .v (.lst (r.G.map .int)), .v (.int s), .v (.int 0), .v (.int r.pd), .v (gmD gm), .v (.int (sumG gm)), s17', s18', s19, s20] = .ok (.next, [.v sx, cupS a5 b5, s2, .v (.int (120 + f0)), s4, .v (prD r.t), .v (.lst ((goodOf r).map .int)), .v (.tup [.int (wv r s), .int (wv r (120 + f0)), .bl true]), .v (.lst ((atOf r.G (sumG gm)).map .int)), .v (.int x), .v (.int (1 + y)), .v (.lst (r.G.map .int)), .v (.int s), .v (.int 0), .v (.int r.pd), .v (gmD gm), .v (.int (sumG gm)), s17', s18', s19, s20]) := sa11 (W := 1000) (callN FL 1000 59) sx (.lst [.int a5, .int b5]) .non .non s2 (.v (.int (120 + f0))) s4 (.v (prD r.t)) (.v (.lst ((goodOf r).map .int))) (.v (.tup [.int (wv r s), .int (wv r (120 + f0)), .bl true])) s8 (.v (.int x)) (.v (.int (1 + y))) (.v (.lst (r.G.map .int))) (.v (.int s)) (.v (.int 0)) (.v (.int r.pd)) (.v (gmD gm)) (.v (.int (sumG gm))) (s17') (s18') s19 s20 _ _ _ (leastC (W := 1000) (callN FL 1000 59) hr (sumG gm) sx (.lst [.int a5, .int b5]) s2 (.v (.int (120 + f0))) s4 (.v (prD r.t)) (.v (.lst ((goodOf r).map .int))) (.v (.tup [.int (wv r s), .int (wv r (120 + f0)), .bl true])) s8 (.v (.int x)) (.v (.int (1 + y))) (.v (.lst (r.G.map .int))) (.v (.int s)) (.v (.int 0)) (.v (.int r.pd)) (.v (gmD gm)) (.v (.int (sumG gm))) (s17') (s18') s19 s20)
  have e15 := c15 hG hr
  rw [f.at' (sumG gm) (in3_mem hw)] at e15
  have h12 : exe (cfgN FL 1000 (callN FL 1000 59)) (nthS 12 lpB) [.v sx, cupS a5 b5, s2, .v (.int (120 + f0)), s4, .v (prD r.t), .v (.lst ((goodOf r).map .int)), .v (.tup [.int (wv r s), .int (wv r (120 + f0)), .bl true]), .v (.lst ((atOf r.G (sumG gm)).map .int)), .v (.int x), .v (.int (1 + y)), .v (.lst (r.G.map .int)), .v (.int s), .v (.int 0), .v (.int r.pd), .v (gmD gm), .v (.int (sumG gm)), s17', s18', s19, s20] = .ok (.next, [.v sx, cupS a5 b5, s2, .v (.int (120 + f0)), s4, .v (prD r.t), .v (.lst ((goodOf r).map .int)), .v (.tup [.int (sumG gm), .bl (!decide (sumG gm = 0)), hdD (atOf r.G (sumG gm)).head?]), .v (.lst ((atOf r.G (sumG gm)).map .int)), .v (.int x), .v (.int (1 + y)), .v (.lst (r.G.map .int)), .v (.int s), .v (.int 0), .v (.int r.pd), .v (gmD gm), .v (.int (sumG gm)), s17', s18', s19, s20]) := sa12 (W := 1000) (callN FL 1000 59) sx (.lst [.int a5, .int b5]) .non .non s2 (.v (.int (120 + f0))) s4 (.v (prD r.t)) (.v (.lst ((goodOf r).map .int))) (.v (.tup [.int (wv r s), .int (wv r (120 + f0)), .bl true])) (.v (.lst ((atOf r.G (sumG gm)).map .int))) (.v (.int x)) (.v (.int (1 + y))) (.v (.lst (r.G.map .int))) (.v (.int s)) (.v (.int 0)) (.v (.int r.pd)) (.v (gmD gm)) (.v (.int (sumG gm))) (s17') (s18') s19 s20 (prD r.t) (gmD gm) _ _ _ (c13 hG) (c14 hG) e15
  have gT4 : goodD 5 (.tup [.int (sumG gm), .bl (!decide (sumG gm = 0)), hdD (atOf r.G (sumG gm)).head?]) = true := gd_tup 4 _ (by show 3 ≤ 1000; decide) fun z hz => by
    simp only [List.mem_cons, List.not_mem_nil, or_false] at hz
    rcases hz with rfl | rfl | rfl
    · exact gd_int _ _
    · exact gd_bl _ _
    · cases (atOf r.G (sumG gm)).head? with
      | none => rfl
      | some i => exact gd_int _ _
  have g18b : callN FL 1000 59 18 [.v (.tup [.int (sumG gm), .bl (!decide (sumG gm = 0)), hdD (atOf r.G (sumG gm)).head?]), .v (.tup [.int (sumG gm), .bl (!decide (sumG gm = 0)), hdD (atOf r.G (sumG gm)).head?])] = _ := c18 (W := 1000) 5 53 _ gT4
  have h13 : exe (cfgN FL 1000 (callN FL 1000 59)) (nthS 13 lpB) [.v sx, cupS a5 b5, s2, .v (.int (120 + f0)), s4, .v (prD r.t), .v (.lst ((goodOf r).map .int)), .v (.tup [.int (sumG gm), .bl (!decide (sumG gm = 0)), hdD (atOf r.G (sumG gm)).head?]), .v (.lst ((atOf r.G (sumG gm)).map .int)), .v (.int x), .v (.int (1 + y)), .v (.lst (r.G.map .int)), .v (.int s), .v (.int 0), .v (.int r.pd), .v (gmD gm), .v (.int (sumG gm)), s17', s18', s19, s20] = .ok (.next, [.v sx, cupS a5 b5, s2, .v (.int (120 + f0)), s4, .v (prD r.t), .v (.lst ((goodOf r).map .int)), .v (.tup [.int (sumG gm), .bl (!decide (sumG gm = 0)), hdD (atOf r.G (sumG gm)).head?]), .v (.lst ((atOf r.G (sumG gm)).map .int)), .v (.int x), .v (.int (1 + y)), .v (.lst (r.G.map .int)), .v (.int s), .v (.int 0), .v (.int r.pd), .v (gmD gm), .v (.int (sumG gm)), s17', s18', s19, s20]) := sa13 (W := 1000) (callN FL 1000 59) sx (.lst [.int a5, .int b5]) .non .non s2 (.v (.int (120 + f0))) s4 (.v (prD r.t)) (.v (.lst ((goodOf r).map .int))) (.v (.tup [.int (sumG gm), .bl (!decide (sumG gm = 0)), hdD (atOf r.G (sumG gm)).head?])) (.v (.lst ((atOf r.G (sumG gm)).map .int))) (.v (.int x)) (.v (.int (1 + y))) (.v (.lst (r.G.map .int))) (.v (.int s)) (.v (.int 0)) (.v (.int r.pd)) (.v (gmD gm)) (.v (.int (sumG gm))) (s17') (s18') s19 s20 (sumG gm) (atOf r.G (sumG gm)) g18b
  have h14 : exe (cfgN FL 1000 (callN FL 1000 59)) (nthS 14 lpB) [.v sx, cupS a5 b5, s2, .v (.int (120 + f0)), s4, .v (prD r.t), .v (.lst ((goodOf r).map .int)), .v (.tup [.int (sumG gm), .bl (!decide (sumG gm = 0)), hdD (atOf r.G (sumG gm)).head?]), .v (.lst ((atOf r.G (sumG gm)).map .int)), .v (.int x), .v (.int (1 + y)), .v (.lst (r.G.map .int)), .v (.int s), .v (.int 0), .v (.int r.pd), .v (gmD gm), .v (.int (sumG gm)), s17', s18', s19, s20] = .ok (.next, [.v sx, cupS a5 b5, s2, .v (.int (120 + f0)), s4, .v (prD r.t), .v (.lst ((goodOf r).map .int)), .v (.tup [.int (sumG gm), .bl (!decide (sumG gm = 0)), hdD (atOf r.G (sumG gm)).head?]), .v (.lst ((atOf r.G (sumG gm)).map .int)), .v (.int x), .v (.int (1 + y)), .v (.lst (r.G.map .int)), .v (.int s), .v (.int 0), .v (.int r.pd), .v (gmD gm), .v (.int (sumG gm)), s17', s18', s19, s20]) := by
    cases hX : atOf r.G (sumG gm) with
    | nil =>
      rw [← hX]
      exact sa14n (W := 1000) (callN FL 1000 59) sx (.lst [.int a5, .int b5]) .non .non s2 (.v (.int (120 + f0))) s4 (.v (prD r.t)) (.v (.lst ((goodOf r).map .int))) (.v (.tup [.int (sumG gm), .bl (!decide (sumG gm = 0)), hdD (atOf r.G (sumG gm)).head?])) (.v (.lst ((atOf r.G (sumG gm)).map .int))) (.v (.int x)) (.v (.int (1 + y))) (.v (.lst (r.G.map .int))) (.v (.int s)) (.v (.int 0)) (.v (.int r.pd)) (.v (gmD gm)) (.v (.int (sumG gm))) (s17') (s18') s19 s20 (prD r.t) (gmD gm) _ hX
    | cons x0 X2 =>
      obtain ⟨i, hi, hxi, hgi⟩ := atOf_mem (show x0 ∈ atOf r.G (sumG gm) by rw [hX]; exact List.mem_cons_self)
      rw [f.l] at hi
      have hwi : wv r x0 = sumG gm := by
        rw [hxi, f.s i hi]
        exact hgi
      have hG2 : GmOk (gm ++ [(x0, r)]) := by
        refine ⟨by rw [List.length_append]; omega, by rw [List.length_append]; show gm.length + 1 ≤ 4; omega, fun g h => ?_⟩
        rcases List.mem_append.mp h with h | h
        · exact hG.g g h
        · rw [List.mem_singleton.mp h]
          exact ⟨by show 0 ≤ x0; omega, by show x0 ≤ _; omega, hr⟩
      have e14 := c14 hG2
      rw [sumG_snoc, hwi, xr_same hw] at e14
      rw [← hX]
      exact sa14y (W := 1000) (callN FL 1000 59) sx (.lst [.int a5, .int b5]) .non .non s2 (.v (.int (120 + f0))) s4 (.v (prD r.t)) (.v (.lst ((goodOf r).map .int))) (.v (.tup [.int (sumG gm), .bl (!decide (sumG gm = 0)), hdD (atOf r.G (sumG gm)).head?])) (.v (.lst ((atOf r.G (sumG gm)).map .int))) (.v (.int x)) (.v (.int (1 + y))) (.v (.lst (r.G.map .int))) (.v (.int s)) (.v (.int 0)) (.v (.int r.pd)) (.v (gmD gm)) (.v (.int (sumG gm))) (s17') (s18') s19 s20 (prD r.t) (gmD gm) _ (atOf r.G (sumG gm)) X2 x0 hX (add_gm gm x0 r (by omega)) e14
  exact ⟨a5, b5, _, _, _, _, _, _, _, _, _, _, _, _, _, _, _, (exes_ok (r := (.cons (nthS 1 lpB) (.cons (nthS 2 lpB) (.cons (nthS 3 lpB) (.cons (nthS 4 lpB) (.cons (nthS 5 lpB) (.cons (nthS 6 lpB) (.cons (nthS 7 lpB) (.cons (nthS 8 lpB) (.cons (nthS 9 lpB) (.cons (nthS 10 lpB) (.cons (nthS 11 lpB) (.cons (nthS 12 lpB) (.cons (nthS 13 lpB) (.cons (nthS 14 lpB) .nil))))))))))))))) h0).trans ((exes_ok (r := (.cons (nthS 2 lpB) (.cons (nthS 3 lpB) (.cons (nthS 4 lpB) (.cons (nthS 5 lpB) (.cons (nthS 6 lpB) (.cons (nthS 7 lpB) (.cons (nthS 8 lpB) (.cons (nthS 9 lpB) (.cons (nthS 10 lpB) (.cons (nthS 11 lpB) (.cons (nthS 12 lpB) (.cons (nthS 13 lpB) (.cons (nthS 14 lpB) .nil)))))))))))))) h1).trans ((exes_ok (r := (.cons (nthS 3 lpB) (.cons (nthS 4 lpB) (.cons (nthS 5 lpB) (.cons (nthS 6 lpB) (.cons (nthS 7 lpB) (.cons (nthS 8 lpB) (.cons (nthS 9 lpB) (.cons (nthS 10 lpB) (.cons (nthS 11 lpB) (.cons (nthS 12 lpB) (.cons (nthS 13 lpB) (.cons (nthS 14 lpB) .nil))))))))))))) h2).trans ((exes_ok (r := (.cons (nthS 4 lpB) (.cons (nthS 5 lpB) (.cons (nthS 6 lpB) (.cons (nthS 7 lpB) (.cons (nthS 8 lpB) (.cons (nthS 9 lpB) (.cons (nthS 10 lpB) (.cons (nthS 11 lpB) (.cons (nthS 12 lpB) (.cons (nthS 13 lpB) (.cons (nthS 14 lpB) .nil)))))))))))) h3).trans ((exes_ok (r := (.cons (nthS 5 lpB) (.cons (nthS 6 lpB) (.cons (nthS 7 lpB) (.cons (nthS 8 lpB) (.cons (nthS 9 lpB) (.cons (nthS 10 lpB) (.cons (nthS 11 lpB) (.cons (nthS 12 lpB) (.cons (nthS 13 lpB) (.cons (nthS 14 lpB) .nil))))))))))) h4).trans ((exes_ok (r := (.cons (nthS 6 lpB) (.cons (nthS 7 lpB) (.cons (nthS 8 lpB) (.cons (nthS 9 lpB) (.cons (nthS 10 lpB) (.cons (nthS 11 lpB) (.cons (nthS 12 lpB) (.cons (nthS 13 lpB) (.cons (nthS 14 lpB) .nil)))))))))) h5).trans ((exes_ok (r := (.cons (nthS 7 lpB) (.cons (nthS 8 lpB) (.cons (nthS 9 lpB) (.cons (nthS 10 lpB) (.cons (nthS 11 lpB) (.cons (nthS 12 lpB) (.cons (nthS 13 lpB) (.cons (nthS 14 lpB) .nil))))))))) h6).trans ((exes_ok (r := (.cons (nthS 8 lpB) (.cons (nthS 9 lpB) (.cons (nthS 10 lpB) (.cons (nthS 11 lpB) (.cons (nthS 12 lpB) (.cons (nthS 13 lpB) (.cons (nthS 14 lpB) .nil)))))))) h7).trans ((exes_ok (r := (.cons (nthS 9 lpB) (.cons (nthS 10 lpB) (.cons (nthS 11 lpB) (.cons (nthS 12 lpB) (.cons (nthS 13 lpB) (.cons (nthS 14 lpB) .nil))))))) h8).trans ((exes_ok (r := (.cons (nthS 10 lpB) (.cons (nthS 11 lpB) (.cons (nthS 12 lpB) (.cons (nthS 13 lpB) (.cons (nthS 14 lpB) .nil)))))) h9).trans ((exes_ok (r := (.cons (nthS 11 lpB) (.cons (nthS 12 lpB) (.cons (nthS 13 lpB) (.cons (nthS 14 lpB) .nil))))) h10).trans ((exes_ok (r := (.cons (nthS 12 lpB) (.cons (nthS 13 lpB) (.cons (nthS 14 lpB) .nil)))) h11).trans ((exes_ok (r := (.cons (nthS 13 lpB) (.cons (nthS 14 lpB) .nil))) h12).trans ((exes_ok (r := (.cons (nthS 14 lpB) .nil)) h13).trans ((exes_ok (r := .nil) h14).trans exes_nil))))))))))))))⟩
theorem turns (a b : Int) (sx : D) : ∃ (a' b' : Int) (t2 t3 t5 t6 t7 t8 t9 t10 t11 t12 t13 t14 t15 t16 t17 t18 : Slot), exe (cfgN FL 1000 (callN FL 1000 59)) (nthS 1 f22.body) [.v sx, cupS a b, .nil, .nil, .nil, .nil, .nil, .nil, .nil, .nil, .nil, .nil, .nil, .nil, .nil, .nil, .nil, .nil, .nil, .nil, .nil] = .ok (.next, [.v sx, cupS a' b', t2, t3, .nil, t5, t6, t7, t8, t9, t10, t11, t12, t13, t14, t15, t16, t17, t18, .nil, .nil]) := by
  obtain ⟨ev, h1, a', b', t2, t3, t5, t6, t7, t8, t9, t10, t11, t12, t13, t14, t15, t16, t17, t18, rfl⟩ := for_inv (C := (cfgN FL 1000 (callN FL 1000 59))) (t := .n 2) (it := .rg (.cons (.c (.int 5)) .nil)) (body := lpB)
    (env := [.v sx, cupS a b, .nil, .nil, .nil, .nil, .nil, .nil, .nil, .nil, .nil, .nil, .nil, .nil, .nil, .nil, .nil, .nil, .nil, .nil, .nil]) (env1 := [.v sx, cupS a b, .nil, .nil, .nil, .nil, .nil, .nil, .nil, .nil, .nil, .nil, .nil, .nil, .nil, .nil, .nil, .nil, .nil, .nil, .nil]) [.int 0, .int 1, .int 2, .int 3, .int 4]
    (fun i ev => ∃ (a b : Int) (t2 t3 t5 t6 t7 t8 t9 t10 t11 t12 t13 t14 t15 t16 t17 t18 : Slot), ev = [.v sx, cupS a b, t2, t3, .nil, t5, t6, t7, t8, t9, t10, t11, t12, t13, t14, t15, t16, t17, t18, .nil, .nil])
    (by
      have : rgF [.int 5] = .ok [.int 0, .int 1, .int 2, .int 3, .int 4] := rfl
      simp [deni, den_c, den_v, den_tup, den_lst, den_emp, den_neg, den_nt, den_bin, den_cmp, den_cmp2, den_and, den_or, den_ife, den_ix, den_sl, den_call, den_bi, den_meth, den_lrg, den_sst, den_slk, den_pop, den_lse, den_popAt, exe_asg, exe_own, exe_two, exe_three, exe_aug, exe_put, exe_app, exe_ex, exe_ife, exe_ret, exe_retN, exe_brk, exe_cont, exe_pas, exes_nil, exes_cons, cfg_cl, cfg_br, deno, opn, dens, denIfs, opL, op1, op2, vals, val, peek, noX, rd, biF, isD, cmpF, binF, truthy, outs, bind, Except.bind, slotsOf, slotOf, ixF, place, negF, back, asgT, asgTs, setS, gtD, isF, ioF, isNonC, slO, this]) ⟨a, b, .nil, .nil, .nil, .nil, .nil, .nil, .nil, .nil, .nil, .nil, .nil, .nil, .nil, .nil, .nil, .nil, rfl⟩ (by
      rintro i d _ hd ⟨a, b, t2, t3, t5, t6, t7, t8, t9, t10, t11, t12, t13, t14, t15, t16, t17, t18, rfl⟩
      obtain ⟨a', b', u3, u5, u6, u7, u8, u9, u10, u11, u12, u13, u14, u15, u16, u17, u18, e⟩ := turn a b sx (.v d) t3 .nil t5 t6 t7 t8 t9 t10 t11 t12 t13 t14 t15 t16 t17 t18 .nil .nil
      exact ⟨_, e, _, _, _, _, _, _, _, _, _, _, _, _, _, _, _, _, _, _, rfl⟩)
  exact ⟨_, _, _, _, _, _, _, _, _, _, _, _, _, _, _, _, _, _, h1⟩
theorem law77 (ns : List Int) (hns : ns.length ≤ 63) : ∃ o, callN FL 1000 60 22 [.v (.scr ns)] = .ok (.bl true, o) := by
  obtain ⟨a0, b0, e16⟩ := c16 (W := 1000) 58 ns hns
  obtain ⟨a1, b1, t2, t3, t5, t6, t7, t8, t9, t10, t11, t12, t13, t14, t15, t16, t17, t18, ht⟩ := turns a0 b0 (.scr ns)
  obtain ⟨fr, a2, b2, e17, r1, r2⟩ := c17 (W := 1000) 58 a1 b1 1000000000000000000 (by decide) (by decide)
  have e17 : callN FL 1000 59 17 [.o (.lst [.int a1, .int b1]), .v (.int 1000000000000000000)] = .ok (.int fr, [.o (.lst [.int a2, .int b2]), .nil]) := e17
  have m15 : row15 ∈ TB := by simp [TB]
  have m6 : row6 ∈ TB := by simp [TB]
  have m3 : row3 ∈ TB := by simp [TB]
  obtain ⟨pr, hpr⟩ : ∃ pr, ([(fr, row15), (fr, row15)] : List Ge) = pr := ⟨_, rfl⟩
  have hG : GmOk pr := by
    rw [← hpr]
    refine ⟨by show 1 ≤ 2; decide, by show 2 ≤ 4; decide, fun g h => ?_⟩
    simp only [List.mem_cons, List.not_mem_nil, or_false, or_self] at h
    rw [h]
    exact ⟨r1, by show fr ≤ _; omega, m15⟩
  have hs : sumG pr = 0 := by
    rw [← hpr]
    exact xr_two (wv_3 (row_f m15) fr)
  have hgD : gmD pr = .tup [.tup [.int fr, .tup [.int 2, .int 5]], .tup [.int fr, .tup [.int 2, .int 5]]] := by rw [← hpr]; rfl
  have h0 : exe (cfgN FL 1000 (callN FL 1000 59)) (nthS 0 f22.body) [.v (.scr ns), .nil, .nil, .nil, .nil, .nil, .nil, .nil, .nil, .nil, .nil, .nil, .nil, .nil, .nil, .nil, .nil, .nil, .nil, .nil, .nil] = .ok (.next, [.v (.scr ns), cupS a0 b0, .nil, .nil, .nil, .nil, .nil, .nil, .nil, .nil, .nil, .nil, .nil, .nil, .nil, .nil, .nil, .nil, .nil, .nil, .nil]) := by
    unfold cupS
    simp [den_c, den_v, den_tup, den_lst, den_emp, den_neg, den_nt, den_bin, den_cmp, den_cmp2, den_and, den_or, den_ife, den_ix, den_sl, den_call, den_bi, den_meth, den_lrg, den_sst, den_slk, den_pop, den_lse, den_popAt, exe_asg, exe_own, exe_two, exe_three, exe_aug, exe_put, exe_app, exe_ex, exe_ife, exe_ret, exe_retN, exe_brk, exe_cont, exe_pas, exes_nil, exes_cons, cfg_cl, cfg_br, deno, opn, dens, denIfs, opL, op1, op2, vals, val, peek, noX, rd, biF, isD, cmpF, binF, truthy, outs, bind, Except.bind, slotsOf, slotOf, ixF, place, negF, back, asgT, asgTs, setS, gtD, isF, ioF, isNonC, slO, nthS, f22, FL16, f16, e16]
  have h1 : exe (cfgN FL 1000 (callN FL 1000 59)) (nthS 1 f22.body) [.v (.scr ns), cupS a0 b0, .nil, .nil, .nil, .nil, .nil, .nil, .nil, .nil, .nil, .nil, .nil, .nil, .nil, .nil, .nil, .nil, .nil, .nil, .nil] = .ok (.next, [.v (.scr ns), cupS a1 b1, t2, t3, .nil, t5, t6, t7, t8, t9, t10, t11, t12, t13, t14, t15, t16, t17, t18, .nil, .nil]) := ht
  have h2 : exe (cfgN FL 1000 (callN FL 1000 59)) (nthS 2 f22.body) [.v (.scr ns), cupS a1 b1, t2, t3, .nil, t5, t6, t7, t8, t9, t10, t11, t12, t13, t14, t15, t16, t17, t18, .nil, .nil] = .ok (.next, [.v (.scr ns), cupS a2 b2, t2, .v (.int fr), .nil, t5, t6, t7, t8, t9, t10, t11, t12, t13, t14, t15, t16, t17, t18, .nil, .nil]) := z2 (W := 1000) (callN FL 1000 59) (.scr ns) _ _ .non t2 t3 .nil t5 t6 t7 t8 t9 t10 t11 t12 t13 t14 t15 t16 t17 t18 .nil .nil fr e17
  have h3 := z3 (W := 1000) (callN FL 1000 59) (.scr ns) (.lst [.int a2, .int b2]) .non .non t2 (.v (.int fr)) .nil t5 t6 t7 t8 t9 t10 t11 t12 t13 t14 t15 t16 t17 t18 .nil .nil fr
  rw [← hgD] at h3
  have e13 := c13 hG
  have e14 := c14 hG
  have e15 := c15 hG m6
  rw [hs] at e13 e14 e15
  have hat : (atOf (row6.G.take row6.N) 0).head? = some 0 := by decide
  rw [hat] at e15
  have e12 := (run7 m6).2.2.2
  have e12' := (run7 m3).2.2.2
  have gT : goodD 5 (.tup [.int 0, .bl false, .int 0, .tup [.int 0, .int 2], .tup [.int 0, .int 8]]) = true := rfl
  have g18 : callN FL 1000 59 18 [.v (.tup [.int 0, .bl false, .int 0, .tup [.int 0, .int 2], .tup [.int 0, .int 8]]), .v (.tup [.int 0, .bl false, .int 0, .tup [.int 0, .int 2], .tup [.int 0, .int 8]])] = _ := c18 (W := 1000) 5 53 _ gT
  have h4 := z4 (W := 1000) (callN FL 1000 59) (.scr ns) (.lst [.int a2, .int b2]) .non .non t2 (.v (.int fr)) (.v (gmD pr)) t5 t6 t7 t8 t9 t10 t11 t12 t13 t14 t15 t16 t17 t18 .nil .nil (gmD pr) e13 e14 e15 e12 e12' g18
  have hb : exes (cfgN FL 1000 (callN FL 1000 59)) f22.body [.v (.scr ns), .nil, .nil, .nil, .nil, .nil, .nil, .nil, .nil, .nil, .nil, .nil, .nil, .nil, .nil, .nil, .nil, .nil, .nil, .nil, .nil] = _ := (exes_ok (r := (.cons (nthS 1 f22.body) (.cons (nthS 2 f22.body) (.cons (nthS 3 f22.body) (.cons (nthS 4 f22.body) .nil))))) h0).trans ((exes_ok (r := (.cons (nthS 2 f22.body) (.cons (nthS 3 f22.body) (.cons (nthS 4 f22.body) .nil)))) h1).trans ((exes_ok (r := (.cons (nthS 3 f22.body) (.cons (nthS 4 f22.body) .nil))) h2).trans ((exes_ok (r := (.cons (nthS 4 f22.body) .nil)) h3).trans (exes_ret (r := .nil) h4))))
  exact ⟨_, callN_ret (ss := [.v (.scr ns)]) FL22 ⟨rfl, rfl⟩ hb⟩
end
end L2.DN

namespace L2.DN
open PySem PySem.Spec PyProof.Rows L2
def topS (i : Nat) : PySem.Stmt := PySem.Challenge.pw_dominohall_k77_whole_worths_far_on.main.body.getD i (.Pass ⟨0, 0, 0, 0⟩)
def d0 : PDef := ⟨PySem.Str.ofString "is_whole", [PySem.Str.ofString "value", PySem.Str.ofString "low", PySem.Str.ofString "high"], [PySem.Str.ofString "value", PySem.Str.ofString "low", PySem.Str.ofString "high"], topS 6, [false, false, false], false, (.cons (.ret (.and (.bi .isInt (.cons (.v 0) .nil)) (.and (.nt (.bi .isBool (.cons (.v 0) .nil))) (.cmp2 .le (.v 1) (.v 0) .le (.v 2))))) .nil)⟩
def d1 : PDef := ⟨PySem.Str.ofString "is_tuple_of", [PySem.Str.ofString "value", PySem.Str.ofString "low", PySem.Str.ofString "high"], [PySem.Str.ofString "value", PySem.Str.ofString "low", PySem.Str.ofString "high"], topS 7, [false, false, false], false, (.cons (.ret (.and (.bi .isTuple (.cons (.v 0) .nil)) (.cmp2 .le (.v 1) (.bi .len (.cons (.v 0) .nil)) .le (.v 2)))) .nil)⟩
def d2 : PDef := ⟨PySem.Str.ofString "fits_tile", [PySem.Str.ofString "value"], [PySem.Str.ofString "value", PySem.Str.ofString "one"], topS 8, [false], false, (.cons (.ret (.and (.call 1 (.cons (.v 0) (.cons (.c (.int 2)) (.cons (.c (.int 2)) .nil)))) (.and (.bi .all (.cons (.comp [1] (.n 1) (.e (.v 0)) .nil (.call 0 (.cons (.v 1) (.cons (.c (.int 0)) (.cons (.c (.int 6)) .nil))))) .nil)) (.cmp .le (.ix (.v 0) (.c (.int 0))) (.ix (.v 0) (.c (.int 1))))))) .nil)⟩
def d3 : PDef := ⟨PySem.Str.ofString "fits_game", [PySem.Str.ofString "value"], [PySem.Str.ofString "value", PySem.Str.ofString "size", PySem.Str.ofString "tile", PySem.Str.ofString "heap"], topS 12, [false], false, (.cons (.ife (.or (.nt (.call 1 (.cons (.v 0) (.cons (.c (.int 1)) (.cons (.c (.int 4)) .nil))))) (.nt (.bi .all (.cons (.comp [3] (.n 3) (.e (.v 0)) .nil (.call 1 (.cons (.v 3) (.cons (.c (.int 2)) (.cons (.c (.int 2)) .nil))))) .nil)))) (.cons (.ret (.c (.bl false))) .nil) .nil) (.cons (.ife (.nt (.bi .all (.cons (.comp [1,2] (.p (.cons (.n 1) (.cons (.n 2) .nil))) (.e (.v 0)) .nil (.and (.call 0 (.cons (.v 1) (.cons (.c (.int 0)) (.cons (.c (.int 1000000000000000000)) .nil)))) (.call 2 (.cons (.v 2) .nil)))) .nil))) (.cons (.ret (.c (.bl false))) .nil) .nil) (.cons (.ret (.bi .all (.cons (.comp [1,2] (.p (.cons (.n 1) (.cons (.n 2) .nil))) (.e (.v 0)) .nil (.cmp .gt (.ix (.v 2) (.c (.int 1))) (.c (.int 0)))) .nil))) .nil)))⟩
def d4 : PDef := ⟨PySem.Str.ofString "need_game", [PySem.Str.ofString "game"], [PySem.Str.ofString "game"], topS 13, [false], false, (.cons (.ife (.nt (.call 3 (.cons (.v 0) .nil))) (.cons .nvr .nil) .nil) .nil)⟩
def d5 : PDef := ⟨PySem.Str.ofString "need_tile", [PySem.Str.ofString "tile"], [PySem.Str.ofString "tile"], topS 14, [false], false, (.cons (.ife (.or (.nt (.call 2 (.cons (.v 0) .nil))) (.cmp .eq (.ix (.v 0) (.c (.int 1))) (.c (.int 0)))) (.cons .nvr .nil) .nil) .nil)⟩
def d6 : PDef := ⟨PySem.Str.ofString "takes_of", [PySem.Str.ofString "tile"], [PySem.Str.ofString "tile", PySem.Str.ofString "half"], topS 15, [false], false, (.cons (.ret (.sst (.comp [1] (.n 1) (.e (.v 0)) (.cons (.cmp .gt (.v 1) (.c (.int 0))) .nil) (.v 1)))) .nil)⟩
def d7 : PDef := ⟨PySem.Str.ofString "course_of", [PySem.Str.ofString "tile"], [PySem.Str.ofString "tile", PySem.Str.ofString "found", PySem.Str.ofString "known", PySem.Str.ofString "rows", PySem.Str.ofString "key", PySem.Str.ofString "take", PySem.Str.ofString "own"], topS 16, [false], false, (.cons (.two 1 2 true true (.lst .nil) .emp) (.cons (.whl (.c (.bl true)) (.cons (.asg (.n 3) (.comp [5] (.n 5) (.e (.call 6 (.cons (.v 0) .nil))) (.cons (.cmp .le (.v 5) (.bi .len (.cons (.b 1) .nil))) .nil) (.ix (.b 1) (.bin .sub (.bi .len (.cons (.b 1) .nil)) (.v 5))))) (.cons (.app 1 (.ix (.comp [6] (.n 6) (.rg (.cons (.bin .add (.bi .len (.cons (.v 3) .nil)) (.c (.int 1))) .nil)) (.cons (.cmp .nin (.v 6) (.v 3)) .nil) (.v 6)) (.c (.int 0)))) (.cons (.asg (.n 4) (.bi .tuple (.cons (.sl (.b 1) (.neg (.c (.int 6))) (.c .non)) .nil))) (.cons (.ife (.and (.cmp .ge (.bi .len (.cons (.b 1) .nil)) (.c (.int 6))) (.cmp .isin (.v 4) (.b 2))) (.cons (.ret (.tup (.cons (.v 1) (.cons (.ix (.b 2) (.v 4)) .nil)))) .nil) .nil) (.cons (.put 2 (.v 4) (.bin .sub (.bi .len (.cons (.b 1) .nil)) (.c (.int 1)))) .nil)))))) .nil))⟩
def d8 : PDef := ⟨PySem.Str.ofString "worth_in", [PySem.Str.ofString "tile", PySem.Str.ofString "size"], [PySem.Str.ofString "tile", PySem.Str.ofString "size", PySem.Str.ofString "last", PySem.Str.ofString "found", PySem.Str.ofString "again"], topS 17, [false, false], false, (.cons (.asg (.p (.cons (.n 3) (.cons (.n 4) .nil))) (.call 7 (.cons (.v 0) .nil))) (.cons (.asg (.n 2) (.bin .sub (.bi .len (.cons (.v 3) .nil)) (.c (.int 1)))) (.cons (.ret (.ife (.cmp .le (.v 1) (.v 2)) (.ix (.v 3) (.v 1)) (.ix (.v 3) (.bin .add (.bin .add (.v 4) (.c (.int 1))) (.bin .mod (.bin .sub (.bin .sub (.v 1) (.v 4)) (.c (.int 1))) (.bin .sub (.v 2) (.v 4))))))) .nil)))⟩
def d9 : PDef := ⟨PySem.Str.ofString "joined", [PySem.Str.ofString "one", PySem.Str.ofString "other"], [PySem.Str.ofString "one", PySem.Str.ofString "other", PySem.Str.ofString "found", PySem.Str.ofString "step"], topS 18, [false, false], false, (.cons (.two 2 3 false false (.c (.int 0)) (.c (.int 1))) (.cons (.whl (.or (.cmp .gt (.v 0) (.c (.int 0))) (.cmp .gt (.v 1) (.c (.int 0)))) (.cons (.two 2 3 false false (.bin .add (.v 2) (.bin .mul (.v 3) (.bi .int (.cons (.cmp .ne (.bin .mod (.v 0) (.c (.int 2))) (.bin .mod (.v 1) (.c (.int 2)))) .nil)))) (.bin .mul (.c (.int 2)) (.v 3))) (.cons (.two 0 1 false false (.bin .fdiv (.v 0) (.c (.int 2))) (.bin .fdiv (.v 1) (.c (.int 2)))) .nil))) (.cons (.ret (.v 2)) .nil)))⟩
def d10 : PDef := ⟨PySem.Str.ofString "sum_in", [PySem.Str.ofString "game"], [PySem.Str.ofString "game", PySem.Str.ofString "found", PySem.Str.ofString "size", PySem.Str.ofString "tile"], topS 19, [false], false, (.cons (.asg (.n 1) (.c (.int 0))) (.cons (.for (.p (.cons (.n 2) (.cons (.n 3) .nil))) (.e (.v 0)) (.cons (.asg (.n 1) (.call 9 (.cons (.v 1) (.cons (.call 8 (.cons (.v 3) (.cons (.v 2) .nil))) .nil)))) .nil)) (.cons (.ret (.v 1)) .nil)))⟩
def d11 : PDef := ⟨PySem.Str.ofString "worth", [PySem.Str.ofString "tile", PySem.Str.ofString "size"], [PySem.Str.ofString "tile", PySem.Str.ofString "size"], topS 20, [false, false], false, (.cons (.ex (.call 5 (.cons (.v 0) .nil))) (.cons (.ife (.nt (.call 0 (.cons (.v 1) (.cons (.c (.int 0)) (.cons (.c (.int 1000000000000000000)) .nil))))) (.cons .nvr .nil) .nil) (.cons (.ret (.call 8 (.cons (.v 0) (.cons (.v 1) .nil)))) .nil)))⟩
def d12 : PDef := ⟨PySem.Str.ofString "comes_again", [PySem.Str.ofString "tile"], [PySem.Str.ofString "tile", PySem.Str.ofString "period", PySem.Str.ofString "begin", PySem.Str.ofString "found", PySem.Str.ofString "again"], topS 21, [false], false, (.cons (.ex (.call 5 (.cons (.v 0) .nil))) (.cons (.asg (.p (.cons (.n 3) (.cons (.n 4) .nil))) (.call 7 (.cons (.v 0) .nil))) (.cons (.asg (.n 1) (.bin .sub (.bin .sub (.bi .len (.cons (.v 3) .nil)) (.c (.int 1))) (.v 4))) (.cons (.asg (.n 2) (.bin .add (.v 4) (.c (.int 1)))) (.cons (.whl (.and (.cmp .gt (.v 2) (.c (.int 0))) (.cmp .eq (.ix (.v 3) (.bin .sub (.v 2) (.c (.int 1)))) (.ix (.v 3) (.bin .add (.bin .sub (.v 2) (.c (.int 1))) (.v 1))))) (.cons (.asg (.n 2) (.bin .sub (.v 2) (.c (.int 1)))) .nil)) (.cons (.ret (.tup (.cons (.v 2) (.cons (.v 1) .nil)))) .nil))))))⟩
def d13 : PDef := ⟨PySem.Str.ofString "whole_worth", [PySem.Str.ofString "game"], [PySem.Str.ofString "game"], topS 22, [false], false, (.cons (.ex (.call 4 (.cons (.v 0) .nil))) (.cons (.ret (.call 10 (.cons (.v 0) .nil))) .nil))⟩
def d14 : PDef := ⟨PySem.Str.ofString "first_wins", [PySem.Str.ofString "game"], [PySem.Str.ofString "game"], topS 23, [false], false, (.cons (.ex (.call 4 (.cons (.v 0) .nil))) (.cons (.ret (.cmp .ne (.call 10 (.cons (.v 0) .nil)) (.c (.int 0)))) .nil))⟩
def d15 : PDef := ⟨PySem.Str.ofString "add_to_lose", [PySem.Str.ofString "game", PySem.Str.ofString "tile"], [PySem.Str.ofString "game", PySem.Str.ofString "tile", PySem.Str.ofString "good", PySem.Str.ofString "found", PySem.Str.ofString "again", PySem.Str.ofString "size", PySem.Str.ofString "own"], topS 24, [false, false], false, (.cons (.ex (.call 4 (.cons (.v 0) .nil))) (.cons (.ex (.call 5 (.cons (.v 1) .nil))) (.cons (.asg (.p (.cons (.n 3) (.cons (.n 4) .nil))) (.call 7 (.cons (.v 1) .nil))) (.cons (.asg (.n 2) (.comp [5,6] (.p (.cons (.n 5) (.cons (.n 6) .nil))) (.enm (.v 3)) (.cons (.cmp .eq (.v 6) (.call 10 (.cons (.v 0) .nil))) .nil) (.v 5))) (.cons (.ret (.ife (.cmp .ne (.v 2) (.lst .nil)) (.ix (.v 2) (.c (.int 0))) (.c .non))) .nil)))))⟩
def d16 : PDef := ⟨PySem.Str.ofString "_law_cup", [PySem.Str.ofString "script"], [PySem.Str.ofString "script", PySem.Str.ofString "cell"], topS 26, [false], true, (.cons (.asg (.n 1) (.bi .abs (.cons (.ix (.bin .add (.bi .list (.cons (.v 0) .nil)) (.lst (.cons (.c (.int 0)) .nil))) (.c (.int 0))) .nil))) (.cons (.ret (.lst (.cons (.ife (.cmp .ge (.v 1) (.bin .pow (.c (.int 10)) (.c (.int 18)))) (.bin .fdiv (.v 1) (.c (.int 79))) (.c (.int 0))) (.cons (.bin .add (.bin .mod (.bi .int (.cons (.bin .add (.bin .mul (.v 1) (.c (.int 313))) (.c (.int 4021))) .nil)) (.c (.int 2077487181))) (.c (.int 163))) .nil)))) .nil))⟩
def d17 : PDef := ⟨PySem.Str.ofString "_law_roll", [PySem.Str.ofString "cup", PySem.Str.ofString "many"], [PySem.Str.ofString "cup", PySem.Str.ofString "many", PySem.Str.ofString "deep", PySem.Str.ofString "found"], topS 27, [true, false], false, (.cons (.ife (.cmp .gt (.ix (.b 0) (.c (.int 0))) (.c (.int 0))) (.cons (.asg (.n 3) (.bin .mod (.bi .int (.cons (.ix (.b 0) (.c (.int 0))) .nil)) (.v 1))) (.cons (.put 0 (.c (.int 0)) (.bin .fdiv (.ix (.b 0) (.c (.int 0))) (.v 1))) (.cons (.ret (.v 3)) .nil))) .nil) (.cons (.put 0 (.c (.int 1)) (.bin .mod (.bi .int (.cons (.bin .add (.bin .mul (.ix (.b 0) (.c (.int 1))) (.c (.int 30881))) (.c (.int 7879))) .nil)) (.c (.int 2147483399)))) (.cons (.asg (.n 2) (.bin .mod (.bi .int (.cons (.bin .mul (.ix (.b 0) (.c (.int 1))) (.bin .add (.ix (.b 0) (.c (.int 1))) (.c (.int 233)))) .nil)) (.c (.int 2147483563)))) (.cons (.ret (.bin .mod (.bi .int (.cons (.bin .fdiv (.v 2) (.c (.int 821))) .nil)) (.v 1))) .nil))))⟩
def d18 : PDef := ⟨PySem.Str.ofString "_law_same", [PySem.Str.ofString "told", PySem.Str.ofString "due"], [PySem.Str.ofString "told", PySem.Str.ofString "due", PySem.Str.ofString "at"], topS 28, [false, false], false, (.cons (.ife (.bi .isTuple (.cons (.v 1) .nil)) (.cons (.ife (.or (.nt (.bi .isTuple (.cons (.v 0) .nil))) (.cmp .ne (.bi .len (.cons (.v 0) .nil)) (.bi .len (.cons (.v 1) .nil)))) (.cons (.ret (.c (.bl false))) .nil) .nil) (.cons (.ret (.bi .all (.cons (.comp [2] (.n 2) (.rg (.cons (.bi .len (.cons (.v 1) .nil)) .nil)) .nil (.call 18 (.cons (.ix (.v 0) (.v 2)) (.cons (.ix (.v 1) (.v 2)) .nil)))) .nil))) .nil)) .nil) (.cons (.ife (.cmp .is (.v 1) (.c .non)) (.cons (.ret (.cmp .is (.v 0) (.c .non))) .nil) .nil) (.cons (.ife (.bi .isBool (.cons (.v 1) .nil)) (.cons (.ret (.ife (.v 1) (.cmp .is (.v 0) (.c (.bl true))) (.cmp .is (.v 0) (.c (.bl false))))) .nil) .nil) (.cons (.ife (.bi .isInt (.cons (.v 1) .nil)) (.cons (.ret (.and (.bi .isInt (.cons (.v 0) .nil)) (.and (.nt (.bi .isBool (.cons (.v 0) .nil))) (.cmp .eq (.bi .int (.cons (.v 0) .nil)) (.v 1))))) .nil) .nil) (.cons (.ret (.and (.bi .isStr (.cons (.v 0) .nil)) (.cmp .eq .nvr (.v 1)))) .nil)))))⟩
def d19 : PDef := ⟨PySem.Str.ofString "_law_game", [PySem.Str.ofString "cup", PySem.Str.ofString "heaps", PySem.Str.ofString "most"], [PySem.Str.ofString "cup", PySem.Str.ofString "heaps", PySem.Str.ofString "most", PySem.Str.ofString "found", PySem.Str.ofString "heap", PySem.Str.ofString "one", PySem.Str.ofString "other"], topS 29, [true, false, false], false, (.cons (.asg (.n 3) (.tup .nil)) (.cons (.for (.n 4) (.rg (.cons (.bin .add (.c (.int 1)) (.call 17 (.cons (.b 0) (.cons (.v 1) .nil)))) .nil)) (.cons (.two 5 6 false false (.call 17 (.cons (.b 0) (.cons (.c (.int 7)) .nil))) (.bin .add (.c (.int 1)) (.call 17 (.cons (.b 0) (.cons (.c (.int 6)) .nil))))) (.cons (.asg (.n 3) (.bin .add (.v 3) (.tup (.cons (.tup (.cons (.call 17 (.cons (.b 0) (.cons (.bin .add (.v 2) (.c (.int 1))) .nil))) (.cons (.tup (.cons (.bi .min (.cons (.v 5) (.cons (.v 6) .nil))) (.cons (.bi .max (.cons (.v 5) (.cons (.v 6) .nil))) .nil))) .nil))) .nil)))) .nil))) (.cons (.ret (.v 3)) .nil)))⟩
def d20 : PDef := ⟨PySem.Str.ofString "_law_worths", [PySem.Str.ofString "tile", PySem.Str.ofString "many"], [PySem.Str.ofString "tile", PySem.Str.ofString "many", PySem.Str.ofString "found", PySem.Str.ofString "size", PySem.Str.ofString "rows", PySem.Str.ofString "take", PySem.Str.ofString "own"], topS 30, [false, false], false, (.cons (.own 2 (.lst .nil)) (.cons (.for (.n 3) (.rg (.cons (.bin .add (.v 1) (.c (.int 1))) .nil)) (.cons (.asg (.n 4) (.comp [5] (.n 5) (.e (.sst (.v 0))) (.cons (.cmp2 .lt (.c (.int 0)) (.v 5) .le (.v 3)) .nil) (.ix (.b 2) (.bin .sub (.v 3) (.v 5))))) (.cons (.app 2 (.ix (.comp [6] (.n 6) (.rg (.cons (.c (.int 3)) .nil)) (.cons (.cmp .nin (.v 6) (.v 4)) .nil) (.v 6)) (.c (.int 0)))) .nil))) (.cons (.ret (.v 2)) .nil)))⟩
def d21 : PDef := ⟨PySem.Str.ofString "_law_joined", [PySem.Str.ofString "one", PySem.Str.ofString "other"], [PySem.Str.ofString "one", PySem.Str.ofString "other"], topS 31, [false, false], false, (.cons (.ret (.ix (.ix (.lst (.cons (.lst (.cons (.c (.int 0)) (.cons (.c (.int 1)) (.cons (.c (.int 2)) (.cons (.c (.int 3)) .nil))))) (.cons (.lst (.cons (.c (.int 1)) (.cons (.c (.int 0)) (.cons (.c (.int 3)) (.cons (.c (.int 2)) .nil))))) (.cons (.lst (.cons (.c (.int 2)) (.cons (.c (.int 3)) (.cons (.c (.int 0)) (.cons (.c (.int 1)) .nil))))) (.cons (.lst (.cons (.c (.int 3)) (.cons (.c (.int 2)) (.cons (.c (.int 1)) (.cons (.c (.int 0)) .nil))))) .nil))))) (.v 0)) (.v 1))) .nil)⟩
def d22 : PDef := ⟨PySem.Str.ofString "law", [PySem.Str.ofString "script"], [PySem.Str.ofString "script", PySem.Str.ofString "cup", PySem.Str.ofString "turn", PySem.Str.ofString "far", PySem.Str.ofString "pair", PySem.Str.ofString "tile", PySem.Str.ofString "good", PySem.Str.ofString "told", PySem.Str.ofString "least", PySem.Str.ofString "one", PySem.Str.ofString "other", PySem.Str.ofString "rows", PySem.Str.ofString "size", PySem.Str.ofString "begin", PySem.Str.ofString "period", PySem.Str.ofString "game", PySem.Str.ofString "whole", PySem.Str.ofString "own", PySem.Str.ofString "kind", PySem.Str.ofString "step", PySem.Str.ofString "at"], topS 32, [false], false, (.cons (.own 1 (.call 16 (.cons (.v 0) .nil))) (.cons (.for (.n 2) (.rg (.cons (.c (.int 5)) .nil)) (.cons (.two 9 10 false false (.call 17 (.cons (.b 1) (.cons (.c (.int 7)) .nil))) (.bin .add (.c (.int 1)) (.call 17 (.cons (.b 1) (.cons (.c (.int 6)) .nil))))) (.cons (.asg (.n 5) (.tup (.cons (.bi .min (.cons (.v 9) (.cons (.v 10) .nil))) (.cons (.bi .max (.cons (.v 9) (.cons (.v 10) .nil))) .nil)))) (.cons (.two 11 12 false false (.call 20 (.cons (.v 5) (.cons (.c (.int 120)) .nil))) (.call 17 (.cons (.b 1) (.cons (.c (.int 121)) .nil)))) (.cons (.asg (.p (.cons (.n 13) (.cons (.n 14) .nil))) (.call 12 (.cons (.v 5) .nil))) (.cons (.asg (.n 6) (.comp [19] (.n 19) (.rg (.cons (.c (.int 1)) (.cons (.c (.int 40)) .nil))) (.cons (.cmp .eq (.comp [20] (.n 20) (.rg (.cons (.v 13) (.cons (.c (.int 80)) .nil))) (.cons (.cmp .ne (.ix (.v 11) (.v 20)) (.ix (.v 11) (.bin .add (.v 20) (.v 19)))) .nil) (.v 20)) (.lst .nil)) .nil) (.v 19))) (.cons (.ife (.or (.cmp .ne (.v 14) (.ix (.v 6) (.c (.int 0)))) (.and (.cmp .gt (.v 13) (.c (.int 0))) (.cmp .eq (.ix (.v 11) (.bin .sub (.v 13) (.c (.int 1)))) (.ix (.v 11) (.bin .add (.bin .sub (.v 13) (.c (.int 1))) (.v 14)))))) (.cons (.ret (.c (.bl false))) .nil) .nil) (.cons (.asg (.n 3) (.bin .add (.c (.int 120)) (.call 17 (.cons (.b 1) (.cons (.bin .sub (.bin .pow (.c (.int 10)) (.c (.int 18))) (.c (.int 120))) .nil))))) (.cons (.asg (.n 7) (.tup (.cons (.call 11 (.cons (.v 5) (.cons (.v 12) .nil))) (.cons (.call 11 (.cons (.v 5) (.cons (.v 3) .nil))) (.cons (.cmp .lt (.call 11 (.cons (.v 5) (.cons (.bin .sub (.bin .pow (.c (.int 10)) (.c (.int 18))) (.c (.int 1))) .nil))) (.c (.int 3))) .nil))))) (.cons (.ife (.nt (.call 18 (.cons (.v 7) (.cons (.tup (.cons (.ix (.v 11) (.v 12)) (.cons (.ix (.v 11) (.bin .add (.v 13) (.bin .mod (.bi .int (.cons (.bin .sub (.v 3) (.v 13)) .nil)) (.v 14)))) (.cons (.c (.bl true)) .nil)))) .nil)))) (.cons (.ret (.c (.bl false))) .nil) .nil) (.cons (.two 15 16 false false (.call 19 (.cons (.b 1) (.cons (.c (.int 3)) (.cons (.c (.int 100)) .nil)))) (.c (.int 0))) (.cons (.for (.p (.cons (.n 17) (.cons (.n 18) .nil))) (.e (.v 15)) (.cons (.asg (.n 16) (.call 21 (.cons (.v 16) (.cons (.ix (.call 20 (.cons (.v 18) (.cons (.v 17) .nil))) (.v 17)) .nil)))) .nil)) (.cons (.asg (.n 8) (.comp [20] (.n 20) (.rg (.cons (.c (.int 121)) .nil)) (.cons (.cmp .eq (.ix (.v 11) (.v 20)) (.v 16)) .nil) (.v 20))) (.cons (.asg (.n 7) (.tup (.cons (.call 13 (.cons (.v 15) .nil)) (.cons (.call 14 (.cons (.v 15) .nil)) (.cons (.call 15 (.cons (.v 15) (.cons (.v 5) .nil))) .nil))))) (.cons (.ife (.nt (.call 18 (.cons (.v 7) (.cons (.tup (.cons (.v 16) (.cons (.cmp .ne (.v 16) (.c (.int 0))) (.cons (.ife (.cmp .ne (.v 8) (.lst .nil)) (.ix (.v 8) (.c (.int 0))) (.c .non)) .nil)))) .nil)))) (.cons (.ret (.c (.bl false))) .nil) .nil) (.cons (.ife (.and (.cmp .ne (.v 8) (.lst .nil)) (.cmp .isn (.call 14 (.cons (.bin .add (.v 15) (.tup (.cons (.tup (.cons (.ix (.v 8) (.c (.int 0))) (.cons (.v 5) .nil))) .nil))) .nil)) (.c (.bl false)))) (.cons (.ret (.c (.bl false))) .nil) .nil) .nil)))))))))))))))) (.cons (.asg (.n 3) (.call 17 (.cons (.b 1) (.cons (.bin .pow (.c (.int 10)) (.c (.int 18))) .nil)))) (.cons (.asg (.n 4) (.tup (.cons (.tup (.cons (.v 3) (.cons (.tup (.cons (.c (.int 2)) (.cons (.c (.int 5)) .nil))) .nil))) (.cons (.tup (.cons (.v 3) (.cons (.tup (.cons (.c (.int 2)) (.cons (.c (.int 5)) .nil))) .nil))) .nil)))) (.cons (.ret (.call 18 (.cons (.tup (.cons (.call 13 (.cons (.v 4) .nil)) (.cons (.call 14 (.cons (.v 4) .nil)) (.cons (.call 15 (.cons (.v 4) (.cons (.tup (.cons (.c (.int 1)) (.cons (.c (.int 1)) .nil))) .nil))) (.cons (.call 12 (.cons (.tup (.cons (.c (.int 1)) (.cons (.c (.int 1)) .nil))) .nil)) (.cons (.call 12 (.cons (.tup (.cons (.c (.int 0)) (.cons (.c (.int 4)) .nil))) .nil)) .nil)))))) (.cons (.tup (.cons (.c (.int 0)) (.cons (.c (.bl false)) (.cons (.c (.int 0)) (.cons (.tup (.cons (.c (.int 0)) (.cons (.c (.int 2)) .nil))) (.cons (.tup (.cons (.c (.int 0)) (.cons (.c (.int 8)) .nil))) .nil)))))) .nil)))) .nil)))))⟩
def DD : List PDef := [d0, d1, d2, d3, d4, d5, d6, d7, d8, d9, d10, d11, d12, d13, d14, d15, d16, d17, d18, d19, d20, d21, d22]
def CS : List (PySem.Str × Int) := [(PySem.Str.ofString "PIPS", 6), (PySem.Str.ofString "HEAPS", 4), (PySem.Str.ofString "FAR", 1000000000000000000)]
def GB : List (PySem.Str × String) := []
def BL : List PySem.Str := [PySem.Str.ofString "abs", PySem.Str.ofString "all", PySem.Str.ofString "bool", PySem.Str.ofString "enumerate", PySem.Str.ofString "int", PySem.Str.ofString "isinstance", PySem.Str.ofString "len", PySem.Str.ofString "list", PySem.Str.ofString "max", PySem.Str.ofString "min", PySem.Str.ofString "range", PySem.Str.ofString "set", PySem.Str.ofString "sorted", PySem.Str.ofString "str", PySem.Str.ofString "tuple"]

set_option maxHeartbeats 0 in
theorem ckAll : DD.all (ckD DD CS BL GB) = true := by decide +kernel
theorem bindsAll : BindsIn DD := ⟨fun _ _ _ _ _ _ us hl => match us, hl with | [_, _, _], _ => rfl, fun _ _ _ _ _ _ us hl => match us, hl with | [_, _, _], _ => rfl, fun _ _ _ _ _ _ us hl => match us, hl with | [_], _ => rfl, fun _ _ _ _ _ _ us hl => match us, hl with | [_], _ => rfl, fun _ _ _ _ _ _ us hl => match us, hl with | [_], _ => rfl, fun _ _ _ _ _ _ us hl => match us, hl with | [_], _ => rfl, fun _ _ _ _ _ _ us hl => match us, hl with | [_], _ => rfl, fun _ _ _ _ _ _ us hl => match us, hl with | [_], _ => rfl, fun _ _ _ _ _ _ us hl => match us, hl with | [_, _], _ => rfl, fun _ _ _ _ _ _ us hl => match us, hl with | [_, _], _ => rfl, fun _ _ _ _ _ _ us hl => match us, hl with | [_], _ => rfl, fun _ _ _ _ _ _ us hl => match us, hl with | [_, _], _ => rfl, fun _ _ _ _ _ _ us hl => match us, hl with | [_], _ => rfl, fun _ _ _ _ _ _ us hl => match us, hl with | [_], _ => rfl, fun _ _ _ _ _ _ us hl => match us, hl with | [_], _ => rfl, fun _ _ _ _ _ _ us hl => match us, hl with | [_, _], _ => rfl, fun _ _ _ _ _ _ us hl => match us, hl with | [_], _ => rfl, fun _ _ _ _ _ _ us hl => match us, hl with | [_, _], _ => rfl, fun _ _ _ _ _ _ us hl => match us, hl with | [_, _], _ => rfl, fun _ _ _ _ _ _ us hl => match us, hl with | [_, _, _], _ => rfl, fun _ _ _ _ _ _ us hl => match us, hl with | [_, _], _ => rfl, fun _ _ _ _ _ _ us hl => match us, hl with | [_, _], _ => rfl, fun _ _ _ _ _ _ us hl => match us, hl with | [_], _ => rfl, trivial⟩
theorem fnsFL : fns DD = FL := by rfl
theorem callAll (ns : List Int) (h : ns.length ≤ 63) : ∃ o, callN (fns DD) 1000 60 22 [.v (.scr ns)] = .ok (.bl true, o) := by
  rw [fnsFL]
  exact law77 ns h
end L2.DN
open PySem PySem.W PyProof.Rows
set_option maxHeartbeats 0 in
theorem PySem.Challenge.cw_dominohall_k77_whole_worths_far_on_holds : PySem.Challenge.rw_dominohall_k77_whole_worths_far_on.Holds := by
  w_on; o_law; k_head; (case hw => w_witness2)
  k_fill
  refine L2.DN.den_walk (l := PySem.Challenge.rw_dominohall_k77_whole_worths_far_on) (n := 63) (k := 60) (x := PySem.Str.ofString "script") (D := L2.DN.DD) (cs := L2.DN.CS) (bl := L2.DN.BL) (gb := L2.DN.GB) (W := 1000) (i := 22) (e := L2.DN.d22) rfl (by decide) rfl ⟨rfl, by decide, by decide⟩ (fun w h Y => PySem.W.kIn_of Y) rfl rfl rfl rfl L2.DN.ckAll L2.DN.bindsAll L2.DN.callAll ?F
  case F =>
    intro w
    refine' ⟨⟨L2.DN.DefIn.of ?a0 ?l0 ?c0 ?k0, L2.DN.DefIn.of ?a1 ?l1 ?c1 ?k1, L2.DN.DefIn.of ?a2 ?l2 ?c2 ?k2, L2.DN.DefIn.of ?a3 ?l3 ?c3 ?k3, L2.DN.DefIn.of ?a4 ?l4 ?c4 ?k4, L2.DN.DefIn.of ?a5 ?l5 ?c5 ?k5, L2.DN.DefIn.of ?a6 ?l6 ?c6 ?k6, L2.DN.DefIn.of ?a7 ?l7 ?c7 ?k7, L2.DN.DefIn.of ?a8 ?l8 ?c8 ?k8, L2.DN.DefIn.of ?a9 ?l9 ?c9 ?k9, L2.DN.DefIn.of ?a10 ?l10 ?c10 ?k10, L2.DN.DefIn.of ?a11 ?l11 ?c11 ?k11, L2.DN.DefIn.of ?a12 ?l12 ?c12 ?k12, L2.DN.DefIn.of ?a13 ?l13 ?c13 ?k13, L2.DN.DefIn.of ?a14 ?l14 ?c14 ?k14, L2.DN.DefIn.of ?a15 ?l15 ?c15 ?k15, L2.DN.DefIn.of ?a16 ?l16 ?c16 ?k16, L2.DN.DefIn.of ?a17 ?l17 ?c17 ?k17, L2.DN.DefIn.of ?a18 ?l18 ?c18 ?k18, L2.DN.DefIn.of ?a19 ?l19 ?c19 ?k19, L2.DN.DefIn.of ?a20 ?l20 ?c20 ?k20, L2.DN.DefIn.of ?a21 ?l21 ?c21 ?k21, L2.DN.DefIn.of ?a22 ?l22 ?c22 ?k22, trivial⟩, L2.DN.NsInt.of ?u0 (L2.DN.NsInt.of ?u1 (L2.DN.NsInt.of ?u2 (trivial))), ⟨?v0, ?v1, ?v2, ?v3, ?v4, ?v5, ?v6, ?v7, ?v8, ?v9, ?v10, ?v11, ?v12, ?v13, ?v14, trivial⟩, trivial⟩
    (case a0 => k_is); (case l0 => k_is); (case c0 => k_is); (case k0 => k_is)
    (case a1 => k_is); (case l1 => k_is); (case c1 => k_is); (case k1 => k_is)
    (case a2 => k_is); (case l2 => k_is); (case c2 => k_is); (case k2 => k_is)
    (case a3 => k_is); (case l3 => k_is); (case c3 => k_is); (case k3 => k_is)
    (case a4 => k_is); (case l4 => k_is); (case c4 => k_is); (case k4 => k_is)
    (case a5 => k_is); (case l5 => k_is); (case c5 => k_is); (case k5 => k_is)
    (case a6 => k_is); (case l6 => k_is); (case c6 => k_is); (case k6 => k_is)
    (case a7 => k_is); (case l7 => k_is); (case c7 => k_is); (case k7 => k_is)
    (case a8 => k_is); (case l8 => k_is); (case c8 => k_is); (case k8 => k_is)
    (case a9 => k_is); (case l9 => k_is); (case c9 => k_is); (case k9 => k_is)
    (case a10 => k_is); (case l10 => k_is); (case c10 => k_is); (case k10 => k_is)
    (case a11 => k_is); (case l11 => k_is); (case c11 => k_is); (case k11 => k_is)
    (case a12 => k_is); (case l12 => k_is); (case c12 => k_is); (case k12 => k_is)
    (case a13 => k_is); (case l13 => k_is); (case c13 => k_is); (case k13 => k_is)
    (case a14 => k_is); (case l14 => k_is); (case c14 => k_is); (case k14 => k_is)
    (case a15 => k_is); (case l15 => k_is); (case c15 => k_is); (case k15 => k_is)
    (case a16 => k_is); (case l16 => k_is); (case c16 => k_is); (case k16 => k_is)
    (case a17 => k_is); (case l17 => k_is); (case c17 => k_is); (case k17 => k_is)
    (case a18 => k_is); (case l18 => k_is); (case c18 => k_is); (case k18 => k_is)
    (case a19 => k_is); (case l19 => k_is); (case c19 => k_is); (case k19 => k_is)
    (case a20 => k_is); (case l20 => k_is); (case c20 => k_is); (case k20 => k_is)
    (case a21 => k_is); (case l21 => k_is); (case c21 => k_is); (case k21 => k_is)
    (case a22 => k_is); (case l22 => k_is); (case c22 => k_is); (case k22 => k_is)
    (case u0 => k_is)
    (case u1 => k_is)
    (case u2 => k_is)
    (case v0 => k_is)
    (case v1 => k_is)
    (case v2 => k_is)
    (case v3 => k_is)
    (case v4 => k_is)
    (case v5 => k_is)
    (case v6 => k_is)
    (case v7 => k_is)
    (case v8 => k_is)
    (case v9 => k_is)
    (case v10 => k_is)
    (case v11 => k_is)
    (case v12 => k_is)
    (case v13 => k_is)
    (case v14 => k_is)

