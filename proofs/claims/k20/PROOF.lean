import PyProof.Rows.All
import Wide.All
import OpenK.AllK
import Wide.FinOn
import KE.KStateDown
import Lean
import HandS.Base
import HandS.Call
import HandS.Ends
import HandS.More
import HandS.Words
import HandS.WordsExc
import HandS.Defaults
import PySem.PyData
import PyProof.P3Statements
import KE.LtData
import KE.DataEq
import HandS.ForMost
import HandS.Walk
import KE.KeyNested
import KE.KDictCopyH
import HandS.TupAny
import HandS.TupMul
import HandS.Wide
import KE.DataFind
import KE.DataMinMax
import KE.DataAny
import KE.DataCmp
import KE.SortData
import HandS.Star
import HandS.Style
import HandS.Small
import HandS.Codes
import HandS.IsInst
import HandS.Deep
import HandS.Conv
import HandS.StrMore
import KE.GoesMore
import HandS.Strs
import HandS.SetFor
import HandS.TupSets
import HandS.Head0
import HandS.Head1
import HandS.Head2
import HandS.HeadEnd
import HandS.HeadHook1
import HandS.HeadHook2
import PySem.Challenge.RW_lastholders_k20_whole_colours
set_option Elab.async false
set_option linter.all false
set_option maxRecDepth 100000
set_option maxHeartbeats 0
section
set_option linter.all false
set_option autoImplicit false
/-! Ev0: a small language without positions, its values (PyData), a big-step evaluator with value semantics. -/
namespace Ev
open PySem (Str PyData)
abbrev AV := PyData

/-- what a run ends with -/
inductive R (α : Type) where
  | ok (a : α) | exc (c : Str) (args : List AV) | bad
namespace R
@[inline] def bind {α β : Type} : R α → (α → R β) → R β
  | .ok a, f => f a
  | .exc c as, _ => .exc c as
  | .bad, _ => .bad
instance : Monad R where
  pure := .ok
  bind := R.bind
theorem nrfl0 {α : Sort _} {a b : α} (h : a = b) : a = b := h
@[simp] theorem ok_bind {α β : Type} (a : α) (f : α → R β) : ((R.ok a : R α) >>= f) = f a := nrfl0 rfl
@[simp] theorem exc_bind {α β : Type} (c : Str) (as : List AV) (f : α → R β) : ((R.exc c as : R α) >>= f) = .exc c as := nrfl0 rfl
@[simp] theorem bad_bind {α β : Type} (f : α → R β) : ((R.bad : R α) >>= f) = .bad := nrfl0 rfl
@[simp] theorem pure_ok {α : Type} (a : α) : (pure a : R α) = .ok a := nrfl0 rfl
theorem bind_eq_ok {α β : Type} {x : R α} {f : α → R β} {b : β} (h : (x >>= f) = .ok b) : ∃ a, x = .ok a ∧ f a = .ok b := by
  cases x with
  | ok a => exact ⟨a, rfl, h⟩
  | exc c as => cases h
  | bad => cases h
end R

abbrev Env := List (Option AV)
def line : Nat := 16777216
/-- a value where it may be as long as the machine has it -/
def lstR (xs : List AV) : R AV := if xs.length ≤ line then .ok (.list xs) else .bad
def tupR (xs : List AV) : R AV := if xs.length ≤ line then .ok (.tuple xs) else .bad

inductive Bop | add | sub | mul | fdiv | mod | pow deriving DecidableEq
inductive Cop | eq | ne | lt | le | gt | ge | isN | notN | in_ | nin deriving DecidableEq
inductive Blt | len | sum | all | any | min | max | min2 | max2 | sorted | list | tuple | int | abs | str | sset | lset | dict
  | isInt | isBool | isTup | isStr | isTL | isList | lrng1 | lrng2 | trng1 | trng2 | lvals | litems | sitems | rev deriving DecidableEq
inductive Mth | index | count | get1 | get2 | join | split | replace deriving DecidableEq
inductive Tg | var (i : Nat) | tup (is : List Nat) deriving DecidableEq

mutual
inductive X
  | var (i : Nat) | con (a : AV)
  | bin (op : Bop) (a b : X) | neg (a : X) | not (a : X) | and (a b : X) | or (a b : X)
  | cmp (op : Cop) (a b : X) | chain (op op' : Cop) (a b c : X)
  | ite (c a b : X)
  | tup (es : Xs) | lst (es : Xs) | dict (es : Ds)
  | idx (a i : X) | slc (a : X) (lo hi : Ox)
  | comp (own : List Nat) (cs : Cs) (e : X) | dcomp (own : List Nat) (cs : Cs) (k v : X)
  | call (f : Nat) (es : Xs) | blt (f : Blt) (es : Xs) | meth (m : Mth) (o : X) (es : Xs)
  | pop (i : Nat) (e : Ox)
/-- arguments, items; star: spliced in; io: a name whose list or dict the callee may change; tmp: a new list or dict that the callee may change -/
inductive Xs | nil | cons (e : X) (r : Xs) | star (e : X) (r : Xs) | io (i : Nat) (r : Xs) | tmp (e : X) (r : Xs)
inductive Ox | none | some (e : X)
inductive Ds | nil | kv (k v : X) (r : Ds) | star (d : X) (r : Ds)
/-- the clauses of a comprehension; ws: forgotten at each turn -/
inductive Cs | nil | cons (ws : List Nat) (tg : Tg) (it : It) (c : Ox) (r : Cs)
inductive It | expr (e : X) | rng1 (a : X) | rng2 (a b : X) | enum (e : X) | items (e : X) | vals (e : X)
end

mutual
inductive S
  | asg (i : Nat) (e : X) | move (i j : Nat)
  | unp (is : List Nat) (e : X) | par (is : List Nat) (es : Xs)
  | seti (i : Nat) (k v : X) | app (i : Nat) (e : X) | ext (i : Nat) (e : X)
  | aug (i : Nat) (op : Bop) (e : X)
  | expr (e : X) | ret (e : X)
  | ite (c : X) (a b : Ss)
  | whl (inv ws : List Nat) (c : X) (b : Ss)
  | for_ (inv ws : List Nat) (tg : Tg) (it : It) (b : Ss)
  | raise | brk | cont | pass
inductive Ss | nil | cons (s : S) (r : Ss)
end

/-- how a statement ends -/
inductive Fl | nx (e : Env) | bk (e : Env) | ct (e : Env) | rt (v : AV) (e : Env)

structure Def where
  ps : Nat
  n : Nat
  io : List Nat
  body : Ss

/-! ### values -/
mutual
/-- x < y, for alike values -/
def ltD : AV → AV → Bool
  | .int a, .int b => decide (a < b)
  | .bool a, .bool b => !a && b
  | .str x, .str y => decide (x.cps.toList < y.cps.toList)
  | .tuple xs, .tuple ys => ltL xs ys
  | .list xs, .list ys => ltL xs ys
  | _, _ => false
def ltL : List AV → List AV → Bool
  | [], [] => false
  | [], _ :: _ => true
  | _ :: _, [] => false
  | x :: xs, y :: ys => if PyData.eqv x y then ltL xs ys else ltD x y
end
def alikeA (xs : List AV) : Bool := PyData.plainAll xs && xs.all fun x => xs.all fun y => PySem.W.alike x y
def isort : List AV → List AV
  | [] => []
  | x :: xs => insB x (isort xs)
where
  /-- put in its place: ahead of those that are not less -/
  insB (x : AV) : List AV → List AV
  | [] => [x]
  | y :: ys => if ltD y x then y :: insB x ys else x :: y :: ys
def dOk (a b : AV) : Bool := decide (Nat.min a.depth b.depth ≤ 48)
def dOk1 (a : AV) : Bool := decide (a.depth ≤ 48)
def tupNE : AV → Bool
  | .tuple (_ :: _) => true
  | _ => false
def notTup : AV → Bool
  | .tuple _ => false
  | .none => false
  | _ => true
def isTup0 : AV → Bool
  | .tuple _ => true
  | _ => false
def sortD (xs : List AV) : R AV := if alikeA xs && xs.all dOk1 && (xs.all isTup0 || xs.all notTup) then .ok (.list (isort xs)) else .bad
def minD' : AV → List AV → AV
  | b, [] => b
  | b, x :: xs => minD' (if ltD x b then x else b) xs
def maxD' : AV → List AV → AV
  | b, [] => b
  | b, x :: xs => maxD' (if ltD b x then x else b) xs
/-- the different ones, the first of each -/
def dedup : List AV → List AV → List AV
  | [], acc => acc
  | x :: xs, acc => dedup xs (if acc.any (fun y => PyData.eqv y x) then acc else acc ++ [x])

mutual
def keyOk : Nat → AV → Bool
  | _, .int _ => true
  | _, .str _ => true
  | _, .none => true
  | d + 1, .tuple xs => keyOks d xs
  | _, _ => false
def keyOks : Nat → List AV → Bool
  | _, [] => true
  | d, x :: xs => keyOk d x && keyOks d xs
end
def isTup : AV → Bool
  | .tuple _ => true
  | _ => false
/-- a key: a number or a text -/
def leafK : AV → Bool
  | .int _ => true
  | .str _ => true
  | _ => false
def kindOk (kvs : List (AV × AV)) (k : AV) : Bool := leafK k
def dget (kvs : List (AV × AV)) (k : AV) : Option AV := match kvs with
  | [] => none
  | (a, v) :: r => if PyData.eqv a k then some v else dget r k
def dput (kvs : List (AV × AV)) (k v : AV) : List (AV × AV) := if (kvs.any fun p => PyData.eqv p.1 k) = true then kvs.map fun p => if PyData.eqv p.1 k = true then (p.1, v) else p else kvs ++ [(k, v)]
def dput' (kvs : List (AV × AV)) (k v : AV) : R (List (AV × AV)) := if kindOk kvs k && decide (kvs.length < line) then .ok (dput kvs k v) else .bad
def dputs : List (AV × AV) → List (AV × AV) → R (List (AV × AV))
  | kvs, [] => .ok kvs
  | kvs, (k, v) :: r => do dputs (← dput' kvs k v) r

/-! ### operators -/
def big : Int := 18446744073709551616
def smallI (i : Int) : Bool := decide (-big < i) && decide (i < big)
/-- numbers below 2 ^ 8000 -/
def wide (i : Int) : Bool := decide (i.natAbs.log2 < 8000)
def binop : Bop → AV → AV → R AV
  | .add, .int a, .int b => .ok (.int (a + b))
  | .add, .list a, .list b => lstR (a ++ b)
  | .add, .tuple a, .tuple b => tupR (a ++ b)
  | .add, .str a, .str b => if a.length + b.length ≤ line then .ok (.str (a ++ b)) else .bad
  | .sub, .int a, .int b => .ok (.int (a - b))
  | .mul, .int a, .int b => if smallI a || smallI b || (wide a && wide b) then .ok (.int (a * b)) else .bad
  | .mul, .list a, .int b => if decide (0 ≤ b) && decide (b < 1000) then lstR (List.flatten (List.replicate b.toNat a)) else .bad
  | .mul, .tuple a, .int b => if decide (-1000 ≤ b) && decide (b ≤ 1000) && decide (a.length ≤ 1000) then tupR (List.flatten (List.replicate b.toNat a)) else .bad
  | .fdiv, .int a, .int b => if decide (b ≠ 0) && decide (b.natAbs < 1073741824) then .ok (.int (a.fdiv b)) else if decide (0 < b) && wide a && wide b then .ok (.int (a.fdiv b)) else .bad
  | .mod, .int a, .int b => if decide (b ≠ 0) then .ok (.int (a.fmod b)) else .bad
  | .pow, .int a, .int b => if decide (0 ≤ b) && decide (b ≤ 1000) && smallI a then .ok (.int (a ^ b.toNat)) else .bad
  | _, _, _ => .bad
def isNone : AV → Bool
  | .none => true
  | _ => false
def ordop (f : AV → AV → Bool) (a b : AV) : R AV := if PySem.W.alike a b && a.plain && b.plain && dOk a b && !isNone a then .ok (.bool (f a b)) else .bad
def items? : AV → Option (List AV)
  | .list xs => some xs
  | .tuple xs => some xs
  | _ => none
/-- a text within a text -/
def subIn (x y : Str) : Bool := !(PySem.Builtin.Str.occurrences y x 0 y.length 1).isEmpty
def inop (x c : AV) : R Bool := match c with
  | .list xs => if x.plain && PyData.plainAll xs && decide (Nat.min (PyData.depthAll xs) x.depth ≤ 48) then .ok (xs.any fun y => PyData.eqv y x) else .bad
  | .tuple xs => if x.plain && PyData.plainAll xs && decide (Nat.min (PyData.depthAll xs) x.depth ≤ 48) then .ok (xs.any fun y => PyData.eqv y x) else .bad
  | .str y => match x with
    | .str z => .ok (subIn z y)
    | _ => .bad
  | _ => .bad
def eqop (a b : AV) : R Bool := if a.plain && b.plain && dOk a b then .ok (PyData.eqv a b) else .bad
def cmpop : Cop → AV → AV → R AV
  | .eq, a, b => do .ok (.bool (← eqop a b))
  | .ne, a, b => do .ok (.bool (!(← eqop a b)))
  | .lt, a, b => ordop ltD a b
  | .gt, a, b => ordop (fun a b => ltD b a) a b
  | .le, a, b => ordop (fun a b => !ltD b a) a b
  | .ge, a, b => ordop (fun a b => !ltD a b) a b
  | .isN, a, .none => .ok (.bool (isNone a))
  | .notN, a, .none => .ok (.bool (!isNone a))
  | .in_, a, b => do .ok (.bool (← inop a b))
  | .nin, a, b => do .ok (.bool (!(← inop a b)))
  | _, _, _ => .bad
/-- the place of an index -/
def isL : AV → R Unit
  | .list _ => .ok ()
  | _ => .bad
def ixOf (n : Nat) (i : Int) : Option Nat := if 0 ≤ i then (if i < n then some i.toNat else none) else if -(n : Int) ≤ i then some (i + n).toNat else none
def idxop : AV → AV → R AV
  | .list xs, .int i => match ixOf xs.length i with
    | some k => match xs[k]? with
      | some v => .ok v
      | none => .bad
    | none => .bad
  | .tuple xs, .int i => match ixOf xs.length i with
    | some k => match xs[k]? with
      | some v => .ok v
      | none => .bad
    | none => .bad
  | _, _ => .bad
/-- the ends of a slice -/
def slIx (n d : Nat) : Option Int → Nat
  | none => d
  | some i => if i < 0 then (i + n).toNat else Nat.min i.toNat n
def cutL (xs : List AV) (lo hi : Option Int) : List AV := (xs.drop (slIx xs.length 0 lo)).take (slIx xs.length xs.length hi - slIx xs.length 0 lo)
def slcop (a : AV) (lo hi : Option Int) : R AV := match a with
  | .list xs => .ok (.list (cutL xs lo hi))
  | .tuple xs => .ok (.tuple (cutL xs lo hi))
  | _ => .bad

/-! ### built-ins -/
def ints? : List AV → Option (List Int)
  | [] => some []
  | .int i :: r => (ints? r).map (i :: ·)
  | _ :: _ => none
def bools? : List AV → Option (List Bool)
  | [] => some []
  | .bool i :: r => (bools? r).map (i :: ·)
  | _ :: _ => none
def strs? : List AV → Option (List Str)
  | [] => some []
  | .str i :: r => (strs? r).map (i :: ·)
  | _ :: _ => none
/-- tuples of numbers, all as many -/
def rows? : List AV → Option (List (List Int))
  | [] => some []
  | .tuple t :: r => match ints? t, rows? r with
    | some x, some xs => some (x :: xs)
    | _, _ => none
  | _ :: _ => none
def pairs? : List AV → Option (List (AV × AV))
  | [] => some []
  | .tuple [k, v] :: r => (pairs? r).map ((k, v) :: ·)
  | _ :: _ => none
def insI (x : Int) : (List Int → List Int)
  | [] => [x]
  | y :: ys => if y < x then y :: insI x ys else if x = y then y :: ys else x :: y :: ys
/-- sorted(set(..)) of numbers -/
def isetI : List Int → List Int
  | [] => []
  | x :: xs => insI x (isetI xs)
def insR (x : List Int) : List (List Int) → List (List Int)
  | [] => [x]
  | y :: ys => if y < x then y :: insR x ys else if x = y then y :: ys else x :: y :: ys
def isetR : List (List Int) → List (List Int)
  | [] => []
  | x :: xs => insR x (isetR xs)
/-- sorted(set(..)) -/
def ssetD (xs : List AV) : R AV := match ints? xs with
  | some is => if decide (is.length ≤ 1000) && decide ((isetI is).length < 64) then .ok (.list ((isetI is).map .int)) else .bad
  | none => .bad
def rangeD (lo hi : Int) : List AV := (List.range (hi - lo).toNat).map fun (k : Nat) => .int (lo + (k : Int))
def okRng (i : Int) : Bool := decide (-1000000000 ≤ i) && decide (i ≤ 1000000000)
def bltop : Blt → List AV → R AV
  | .len, [.list xs] => .ok (.int xs.length)
  | .len, [.tuple xs] => .ok (.int xs.length)
  | .len, [.str x] => if x.length ≤ line then .ok (.int x.length) else .bad
  | .sum, [.list xs] => match ints? xs with
    | some is => .ok (.int is.sum)
    | none => .bad
  | .all, [.list xs] => match bools? xs with
    | some bs => .ok (.bool (bs.all id))
    | none => .bad
  | .any, [.list xs] => match bools? xs with
    | some bs => .ok (.bool (bs.any id))
    | none => .bad
  | .min, [.list (x :: xs)] => if alikeA (x :: xs) && (x :: xs).all dOk1 && !isNone x then .ok (minD' x xs) else .bad
  | .min, [.tuple (x :: xs)] => if alikeA (x :: xs) && (x :: xs).all dOk1 && !isNone x then .ok (minD' x xs) else .bad
  | .max, [.list (x :: xs)] => if alikeA (x :: xs) && (x :: xs).all dOk1 && !isNone x then .ok (maxD' x xs) else .bad
  | .max, [.tuple (x :: xs)] => if alikeA (x :: xs) && (x :: xs).all dOk1 && !isNone x then .ok (maxD' x xs) else .bad
  | .min2, [.int i, .int j] => .ok (.int (if j < i then j else i))
  | .max2, [.int i, .int j] => .ok (.int (if j > i then j else i))
  | .sorted, [.list xs] => sortD xs
  | .sorted, [.tuple xs] => sortD xs
  | .list, [.list xs] => .ok (.list xs)
  | .list, [.tuple xs] => .ok (.list xs)
  | .list, [.dict kvs] => .ok (.list (kvs.map (·.1)))
  | .tuple, [.list xs] => .ok (.tuple xs)
  | .tuple, [.tuple xs] => .ok (.tuple xs)
  | .int, [.int i] => .ok (.int i)
  | .int, [.bool b] => .ok (.int (if b then 1 else 0))
  | .abs, [.int i] => .ok (.int (if i < 0 then -i else i))
  | .str, [.int i] => if decide (i.natAbs.log2 < 1920) then .ok (.str (Str.ofString (toString i))) else .bad
  | .sset, [.list xs] => ssetD xs
  | .sset, [.tuple xs] => ssetD xs
  | .lset, [.list xs] => match ints? xs with
    | some is => if decide (is.length ≤ 1000) then .ok (.int (isetI is).length) else .bad
    | none => .bad
  | .dict, [.tuple xs] => match pairs? xs with
    | some kvs => do .ok (.dict (← dputs [] kvs))
    | none => .bad
  | .isInt, [a] => match a with
    | .int _ => .ok (.bool true)
    | .bool _ => .ok (.bool true)
    | .dict _ => .bad
    | _ => .ok (.bool false)
  | .isBool, [a] => match a with
    | .bool _ => .ok (.bool true)
    | .dict _ => .bad
    | _ => .ok (.bool false)
  | .isTup, [a] => match a with
    | .tuple _ => .ok (.bool true)
    | .dict _ => .bad
    | _ => .ok (.bool false)
  | .isStr, [a] => match a with
    | .str _ => .ok (.bool true)
    | .dict _ => .bad
    | _ => .ok (.bool false)
  | .isList, [a] => match a with
    | .list _ => .ok (.bool true)
    | .dict _ => .bad
    | _ => .ok (.bool false)
  | .isTL, [a] => match a with
    | .tuple _ => .ok (.bool true)
    | .list _ => .ok (.bool true)
    | .dict _ => .bad
    | _ => .ok (.bool false)
  | .lrng1, [.int n] => if okRng n then lstR (rangeD 0 n) else .bad
  | .lrng2, [.int m, .int n] => if okRng m && okRng n then lstR (rangeD m n) else .bad
  | .trng1, [.int n] => if okRng n then tupR (rangeD 0 n) else .bad
  | .trng2, [.int m, .int n] => if okRng m && okRng n then tupR (rangeD m n) else .bad
  | .lvals, [.dict kvs] => .ok (.list (kvs.map (·.2)))
  | .litems, [.dict kvs] => .ok (.list (kvs.map fun p => .tuple [p.1, p.2]))
  | .sitems, [.dict kvs] => sortD (kvs.map fun p => .tuple [p.1, p.2])
  | .rev, [.list xs] => .ok (.list xs.reverse)
  | .rev, [.tuple xs] => .ok (.tuple xs.reverse)
  | _, _ => .bad
def findIx (xs : List AV) (x : AV) : Option Nat := match xs with
  | [] => none
  | y :: ys => if PyData.eqv y x then some 0 else (findIx ys x).map (· + 1)
def mthop : Mth → AV → List AV → R AV
  | .index, .list xs, [x] => if x.plain && PyData.plainAll xs && decide (Nat.min (PyData.depthAll xs) x.depth ≤ 48) then (match findIx xs x with
    | some k => .ok (.int k)
    | none => .bad) else .bad
  | .count, .list xs, [x] => if x.plain && PyData.plainAll xs && decide (Nat.min (PyData.depthAll xs) x.depth ≤ 48) then .ok (.int (xs.countP fun y => PyData.eqv y x)) else .bad
  | .get1, .dict kvs, [k] => if kindOk kvs k then .ok ((dget kvs k).getD .none) else .bad
  | .get2, .dict kvs, [k, d] => if kindOk kvs k then .ok ((dget kvs k).getD d) else .bad
  | _, _, _ => .bad

/-- a list or a dict: what may be changed -/
def mutA : AV → Bool
  | .list _ => true
  | .dict _ => true
  | _ => false
/-! ### the evaluator -/
def wipeE (env : Env) : List Nat → Env
  | [] => env
  | i :: is => (wipeE env is).set i none
/-- behind a comprehension: its own names as they were -/
def back (env0 env : Env) : List Nat → Env
  | [] => env
  | i :: is => (back env0 env is).set i (env0[i]?.getD none)
def setAll : List Nat → List AV → Env → Option Env
  | [], [], env => some env
  | i :: is, v :: vs, env => setAll is vs (env.set i (some v))
  | _, _, _ => none
def bindTg : Tg → AV → Env → R Env
  | .var i, v, env => .ok (env.set i (some v))
  | .tup is, .tuple vs, env => match setAll is vs env with
    | some e => .ok e
    | none => .bad
  | _, _, _ => .bad
def look (env : Env) (i : Nat) : R AV := match env[i]? with
  | some (some v) => .ok v
  | _ => .bad
def asB : AV → R Bool
  | .bool b => .ok b
  | _ => .bad
def asL : AV → R (List AV)
  | .list xs => .ok xs
  | _ => .bad
def enumD : Nat → List AV → List AV
  | _, [] => []
  | k, x :: xs => .tuple [.int k, x] :: enumD (k + 1) xs
def loopC (f : AV → Env → R (List AV × Env)) : List AV → Env → R (List AV × Env)
  | [], env => .ok ([], env)
  | x :: xs, env => do
    let (a, env1) ← f x env
    let (b, env2) ← loopC f xs env1
    .ok (a ++ b, env2)
/-- the io slots' new values -/
def putIos : Xs → List AV → Env → R Env
  | .nil, [], env => .ok env
  | .cons _ r, vs, env => putIos r vs env
  | .star _ r, vs, env => putIos r vs env
  | .io i r, v :: vs, env => putIos r vs (env.set i (some v))
  | .tmp _ r, _ :: vs, env => putIos r vs env
  | _, _, _ => .bad

abbrev Cal := Nat → List AV → R (AV × List AV)
section
variable (cal : Cal)
mutual
def evE : X → Env → R (AV × Env)
  | .var i, env => do .ok (← look env i, env)
  | .con a, env => .ok (a, env)
  | .bin op a b, env => do
    let (x, env1) ← evE a env
    let (y, env2) ← evE b env1
    .ok (← binop op x y, env2)
  | .neg a, env => do
    let (x, env1) ← evE a env
    match x with
    | .int i => .ok (.int (-i), env1)
    | _ => .bad
  | .not a, env => do
    let (x, env1) ← evE a env
    .ok (.bool (!(← asB x)), env1)
  | .and a b, env => do
    let (x, env1) ← evE a env
    match (← asB x) with
    | true => do
      let (y, env2) ← evE b env1
      .ok (.bool (← asB y), env2)
    | false => .ok (.bool false, env1)
  | .or a b, env => do
    let (x, env1) ← evE a env
    match (← asB x) with
    | true => .ok (.bool true, env1)
    | false => do
      let (y, env2) ← evE b env1
      .ok (.bool (← asB y), env2)
  | .cmp op a b, env => do
    let (x, env1) ← evE a env
    let (y, env2) ← evE b env1
    .ok (← cmpop op x y, env2)
  | .chain op op' a b c, env => do
    let (x, env1) ← evE a env
    let (y, env2) ← evE b env1
    match (← asB (← cmpop op x y)) with
    | true => do
      let (z, env3) ← evE c env2
      .ok (.bool (← asB (← cmpop op' y z)), env3)
    | false => .ok (.bool false, env2)
  | .ite c a b, env => do
    let (x, env1) ← evE c env
    match (← asB x) with
    | true => evE a env1
    | false => evE b env1
  | .tup es, env => do
    let (vs, env1) ← evXs es env
    .ok (← tupR vs, env1)
  | .lst es, env => do
    let (vs, env1) ← evXs es env
    .ok (← lstR vs, env1)
  | .dict es, env => do
    let (kvs, env1) ← evDs es [] env
    .ok (.dict kvs, env1)
  | .idx a i, env => do
    let (x, env1) ← evE a env
    let (y, env2) ← evE i env1
    .ok (← idxop x y, env2)
  | .slc a lo hi, env => do
    let (x, env1) ← evE a env
    let (l, env2) ← evOx lo env1
    let (h, env3) ← evOx hi env2
    match l, h with
    | none, none => .ok (← slcop x none none, env3)
    | some (.int i), none => .ok (← slcop x (some i) none, env3)
    | none, some (.int j) => .ok (← slcop x none (some j), env3)
    | some (.int i), some (.int j) => .ok (← slcop x (some i) (some j), env3)
    | _, _ => .bad
  | .comp own cs e, env => do
    let (vs, env1) ← evCs cs (fun env => do let (v, env') ← evE e env; .ok ([v], env')) env
    .ok (← lstR vs, back env env1 own)
  | .dcomp own cs k v, env => do
    let (vs, env1) ← evCs cs (fun env => do
      let (a, env1) ← evE k env
      let (b, env2) ← evE v env1
      .ok ([.tuple [a, b]], env2)) env
    match pairs? vs with
    | some kvs => do .ok (.dict (← dputs [] kvs), back env env1 own)
    | none => .bad
  | .call f es, env => do
    let (vs, env1) ← evXs es env
    let (v, outs) ← cal f vs
    .ok (v, ← putIos es outs env1)
  | .blt f es, env => do
    let (vs, env1) ← evXs es env
    .ok (← bltop f vs, env1)
  | .meth m o es, env => do
    let (x, env1) ← evE o env
    let (vs, env2) ← evXs es env1
    .ok (← mthop m x vs, env2)
  | .pop i e, env => do
    let x0 ← look env i
    let _ ← isL x0
    let (k, env1) ← evOx e env
    match (← look env1 i), k with
    | .list xs, none => match xs.getLast? with
      | some v => .ok (v, env1.set i (some (.list xs.dropLast)))
      | none => .bad
    | .list xs, some (.int j) => match ixOf xs.length j with
      | some n => match xs[n]? with
        | some v => .ok (v, env1.set i (some (.list (xs.eraseIdx n))))
        | none => .bad
      | none => .bad
    | _, _ => .bad
def evXs : Xs → Env → R (List AV × Env)
  | .nil, env => .ok ([], env)
  | .cons e r, env => do
    let (v, env1) ← evE e env
    let (vs, env2) ← evXs r env1
    .ok (v :: vs, env2)
  | .star e r, env => do
    let (v, env1) ← evE e env
    let (vs, env2) ← evXs r env1
    match items? v with
    | some xs => if xs.length ≤ line then .ok (xs ++ vs, env2) else .bad
    | none => .bad
  | .tmp e r, env => do
    let (v, env1) ← evE e env
    let (vs, env2) ← evXs r env1
    if mutA v then .ok (v :: vs, env2) else .bad
  | .io i r, env => do
    let _ ← look env i
    let (vs, env1) ← evXs r env
    let v ← look env1 i
    if mutA v then .ok (v :: vs, env1) else .bad
def evOx : Ox → Env → R (Option AV × Env)
  | .none, env => .ok (none, env)
  | .some e, env => do
    let (v, env1) ← evE e env
    .ok (some v, env1)
def evDs : Ds → List (AV × AV) → Env → R (List (AV × AV) × Env)
  | .nil, acc, env => .ok (acc, env)
  | .kv k v r, acc, env => do
    let (a, env1) ← evE k env
    let (b, env2) ← evE v env1
    evDs r (← dput' acc a b) env2
  | .star d r, acc, env => do
    let (a, env1) ← evE d env
    match a with
    | .dict kvs => if acc.isEmpty && kvs.all (fun p => !isTup p.1) then evDs r kvs env1 else .bad
    | _ => .bad
def evCs : Cs → (Env → R (List AV × Env)) → Env → R (List AV × Env)
  | .nil, last, env => last env
  | .cons ws tg it c r, last, env => do
    let (xs, env1) ← evIt it env
    loopC (fun x env => do
      let env2 ← bindTg tg x (wipeE env ws)
      let (b, env3) ← evOx c env2
      match b with
      | none => evCs r last env3
      | some b => match (← asB b) with
        | true => evCs r last env3
        | false => .ok ([], env3)) xs env1
def evIt : It → Env → R (List AV × Env)
  | .expr e, env => do
    let (v, env1) ← evE e env
    match v with
    | .list xs => .ok (xs, env1)
    | .tuple xs => .ok (xs, env1)
    | _ => .bad
  | .rng1 a, env => do
    let (v, env1) ← evE a env
    match v with
    | .int n => if okRng n then .ok (rangeD 0 n, env1) else .bad
    | _ => .bad
  | .rng2 a b, env => do
    let (v, env1) ← evE a env
    let (u, env2) ← evE b env1
    match v, u with
    | .int m, .int n => if okRng m && okRng n then .ok (rangeD m n, env2) else .bad
    | _, _ => .bad
  | .enum e, env => do
    let (v, env1) ← evE e env
    match items? v with
    | some xs => .ok (enumD 0 xs, env1)
    | none => .bad
  | .items e, env => do
    let (v, env1) ← evE e env
    match v with
    | .dict kvs => .ok (kvs.map (fun p => .tuple [p.1, p.2]), env1)
    | _ => .bad
  | .vals e, env => do
    let (v, env1) ← evE e env
    match v with
    | .dict kvs => .ok (kvs.map (·.2), env1)
    | _ => .bad
end

def forF (f : AV → Env → R Fl) : List AV → Env → R Fl
  | [], env => .ok (.nx env)
  | x :: xs, env => do
    match (← f x env) with
    | .nx e => forF f xs e
    | .ct e => forF f xs e
    | .bk e => .ok (.nx e)
    | .rt v e => .ok (.rt v e)
def whlF (c : Env → R (Bool × Env)) (f : Env → R Fl) : Nat → Env → R Fl
  | 0, _ => .bad
  | n + 1, env => do
    let (b, env1) ← c env
    match b with
    | true => match (← f env1) with
      | .nx e => whlF c f n e
      | .ct e => whlF c f n e
      | .bk e => .ok (.nx e)
      | .rt v e => .ok (.rt v e)
    | false => .ok (.nx env1)
/-- forgotten slots at a turn's end -/
def wipeF (ws : List Nat) : Fl → Fl
  | .nx e => .nx (wipeE e ws)
  | .ct e => .ct (wipeE e ws)
  | .bk e => .bk e
  | .rt v e => .rt v e
def turns : Nat := 100000
mutual
def evS : S → Env → R Fl
  | .asg i e, env => do
    let (v, env1) ← evE cal e env
    .ok (.nx (env1.set i (some v)))
  | .move i j, env => do
    let v ← look env j
    .ok (.nx ((env.set j none).set i (some v)))
  | .unp is e, env => do
    let (v, env1) ← evE cal e env
    .ok (.nx (← bindTg (.tup is) v env1))
  | .par is es, env => do
    let (vs, env1) ← evXs cal es env
    match setAll is vs env1 with
    | some e => .ok (.nx e)
    | none => .bad
  | .seti i k v, env => do
    let (x, env1) ← evE cal v env
    let _ ← look env1 i
    let (y, env2) ← evE cal k env1
    match (← look env2 i), y with
    | .list xs, .int j => match ixOf xs.length j with
      | some n => .ok (.nx (env2.set i (some (.list (xs.set n x)))))
      | none => .bad
    | .dict kvs, y => do
      let kvs' ← dput' kvs y x
      .ok (.nx (env2.set i (some (.dict kvs'))))
    | _, _ => .bad
  | .app i e, env => do
    let _ ← (do asL (← look env i))
    let (x, env1) ← evE cal e env
    match (← look env1 i) with
    | .list xs => if xs.length < line then .ok (.nx (env1.set i (some (.list (xs ++ [x]))))) else .bad
    | _ => .bad
  | .ext i e, env => do
    let _ ← (do asL (← look env i))
    let (x, env1) ← evE cal e env
    match (← look env1 i), x with
    | .list xs, .list ys => if xs.length + ys.length ≤ line then .ok (.nx (env1.set i (some (.list (xs ++ ys))))) else .bad
    | _, _ => .bad
  | .aug i op e, env => do
    let x ← look env i
    let (y, env1) ← evE cal e env
    match op, x, y with
    | .add, .int a, .int b => .ok (.nx (env1.set i (some (.int (a + b)))))
    | .sub, .int a, .int b => .ok (.nx (env1.set i (some (.int (a - b)))))
    | _, _, _ => .bad
  | .expr e, env => do
    let (_, env1) ← evE cal e env
    .ok (.nx env1)
  | .ret e, env => do
    let (v, env1) ← evE cal e env
    .ok (.rt v env1)
  | .ite c a b, env => do
    let (x, env1) ← evE cal c env
    match (← asB x) with
    | true => evSs a env1
    | false => evSs b env1
  | .whl _ ws c b, env => whlF (fun env => do
      let (x, env1) ← evE cal c env
      .ok (← asB x, env1)) (fun env => do .ok (wipeF ws (← evSs b env))) turns env
  | .for_ _ ws tg it b, env => do
    let (xs, env1) ← evIt cal it env
    forF (fun x env => do
      let env2 ← bindTg tg x env
      .ok (wipeF ws (← evSs b env2))) xs env1
  | .raise, _ => .bad
  | .brk, env => .ok (.bk env)
  | .cont, env => .ok (.ct env)
  | .pass, env => .ok (.nx env)
def evSs : Ss → Env → R Fl
  | .nil, env => .ok (.nx env)
  | .cons s r, env => do
    match (← evS s env) with
    | .nx e => evSs r e
    | .bk e => .ok (.bk e)
    | .ct e => .ok (.ct e)
    | .rt v e => .ok (.rt v e)
end
end
def outsOf (env : Env) : List Nat → R (List AV)
  | [] => .ok []
  | i :: is => do
    let v ← look env i
    let vs ← outsOf env is
    if mutA v then .ok (v :: vs) else .bad
def runD (cal : Cal) (D : Def) (vs : List AV) : R (AV × List AV) :=
  if vs.length = D.ps then do
    match (← evSs cal D.body (vs.map some ++ List.replicate (D.n - D.ps) none)) with
    | .rt v env => .ok (v, ← outsOf env D.io)
    | .nx env => .ok (.none, ← outsOf env D.io)
    | _ => .bad
  else .bad
/-- the defs by their names -/
structure Tab where
  d : Nat → Option Def
  /-- their names -/
  nm : Nat → Str
  /-- the module's constants -/
  g : Str → Option AV
instance : CoeFun Tab (fun _ => Nat → Option Def) := ⟨Tab.d⟩
mutual
def beqA : AV → AV → Bool
  | .int a, .int b => decide (a = b)
  | .str a, .str b => decide (a = b)
  | .tuple a, .tuple b => beqAs a b
  | _, _ => false
def beqAs : List AV → List AV → Bool
  | [], [] => true
  | x :: xs, y :: ys => beqA x y && beqAs xs ys
  | _, _ => false
end
def callD (P : Tab) : Nat → Cal
  | 0, _, _ => .bad
  | d + 1, f, vs => match P f with
    | some D => runD (callD P d) D vs
    | none => .bad
end Ev
end

section
set_option linter.all false
set_option autoImplicit false
/-! EvA: which names alone hold their list or dict (owned slots), along a text. O: owned slots. -/
namespace Ev
abbrev Sl := List Nat
def er (O : Sl) (i : Nat) : Sl := O.filter fun j => j != i
def minus (O P : Sl) : Sl := O.filter fun j => !P.contains j
def meet (A B : Sl) : Sl := A.filter fun j => B.contains j
def sub (A B : Sl) : Bool := A.all fun j => B.contains j
def apartS (A B : Sl) : Bool := A.all fun j => !B.contains j
def isVar : X → Option Nat
  | .var i => some i
  | _ => none
/-- built-ins that give a new list or dict -/
def freshB (b : Blt) : Bool := [Blt.list, .sorted, .sset, .dict, .lrng1, .lrng2, .lvals, .litems, .sitems, .rev].contains b
/-- a new list or dict, if any -/
def freshE : X → Bool
  | .lst _ | .comp .. | .dcomp .. | .dict _ | .slc .. => true
  | .bin .add _ _ | .bin .mul _ _ => true
  | .blt b _ => freshB b
  | _ => false
mutual
/-- nothing that is held is changed -/
def prE : X → Bool
  | .var _ | .con _ => true
  | .bin _ a b => prE a && prE b
  | .neg a => prE a
  | .not a => prE a
  | .and a b => prE a && prE b
  | .or a b => prE a && prE b
  | .cmp _ a b => prE a && prE b
  | .chain _ _ a b c => prE a && prE b && prE c
  | .ite c a b => prE c && prE a && prE b
  | .tup es => prXs es
  | .lst es => prXs es
  | .dict es => prDs es
  | .idx a i => prE a && prE i
  | .slc a lo hi => prE a && prOx lo && prOx hi
  | .comp _ cs e => prCs cs && prE e
  | .dcomp _ cs k v => prCs cs && prE k && prE v
  | .call _ es => prXs es
  | .blt _ es => prXs es
  | .meth _ o es => prE o && prXs es
  | .pop _ _ => false
def prXs : Xs → Bool
  | .nil => true
  | .cons e r => prE e && prXs r
  | .star e r => prE e && prXs r
  | .tmp _ _ => false
  | .io _ _ => false
def prOx : Ox → Bool
  | .none => true
  | .some e => prE e
def prDs : Ds → Bool
  | .nil => true
  | .kv k v r => prE k && prE v && prDs r
  | .star d r => prE d && prDs r
def prCs : Cs → Bool
  | .nil => true
  | .cons _ _ it c r => prIt it && prOx c && prCs r
def prIt : It → Bool
  | .expr e => prE e
  | .rng1 a => prE a
  | .rng2 a b => prE a && prE b
  | .enum e => prE e
  | .items e => prE e
  | .vals e => prE e
end
/-- the io slots of an argument list -/
def iosOf : Xs → Sl
  | .nil => []
  | .cons _ r => iosOf r
  | .star _ r => iosOf r
  | .tmp _ r => iosOf r
  | .io i r => i :: iosOf r
def tgsOf : Tg → Sl
  | .var i => [i]
  | .tup is => is
/-- an operand that is looked at alone: a name keeps what it holds -/
def bor (e : X) (O : Sl) (r : Option Sl) : Option Sl := match isVar e with
  | some _ => some O
  | none => r
def andThen (r : Option Sl) (f : Sl → Option Sl) : Option Sl := match r with
  | some O => f O
  | none => none
def both (a b : Option Sl) : Option Sl := match a, b with
  | some A, some B => some (meet A B)
  | _, _ => none
/-- turns: what is owned behind one turn is owned behind the next -/
def steady (l : Sl) (f : Sl → Option Sl) (O : Sl) : Option Sl := match f O with
  | some O1 => match f O1 with
    | some O2 => if sub O1 O && sub O1 O2 && apartS l O1 then some O1 else none
    | none => none
  | none => none
mutual
def owE (O : Sl) : X → Option Sl
  | .var i => some (er O i)
  | .con _ => some O
  | .bin _ a b => andThen (if prE b then bor a O (owE O a) else owE O a) fun O1 => bor b O1 (owE O1 b)
  | .neg a => owE O a
  | .not a => owE O a
  | .and a b => andThen (owE O a) fun O1 => both (some O1) (owE O1 b)
  | .or a b => andThen (owE O a) fun O1 => both (some O1) (owE O1 b)
  | .cmp _ a b => andThen (if prE b then bor a O (owE O a) else owE O a) fun O1 => bor b O1 (owE O1 b)
  | .chain _ _ a b c => andThen (owE O a) fun O1 => andThen (owE O1 b) fun O2 => both (some O2) (owE O2 c)
  | .ite c a b => andThen (owE O c) fun O1 => both (owE O1 a) (owE O1 b)
  | .tup es => owXs O es
  | .lst es => owXs O es
  | .dict es => owDs O es
  | .idx a i => andThen (if prE i then bor a O (owE O a) else owE O a) fun O1 => bor i O1 (owE O1 i)
  | .slc a lo hi => andThen (if prOx lo && prOx hi then bor a O (owE O a) else owE O a) fun O1 => andThen (owOx O1 lo) fun O2 => owOx O2 hi
  | .comp own cs e => if apartS own O then owCs O cs (prE e) fun O => owE O e else none
  | .dcomp own cs k v => if apartS own O then owCs O cs (prE k && prE v) fun O => andThen (owE O k) fun O1 => owE O1 v else none
  | .call _ es => owXs O es
  | .blt _ (.cons e .nil) => bor e O (owE O e)
  | .blt _ es => owXs O es
  | .meth _ o es => andThen (if prXs es then bor o O (owE O o) else owE O o) fun O1 => owXs O1 es
  | .pop i e => andThen (owOx O e) fun O1 => if O1.contains i then some O1 else none
def owXs (O : Sl) : Xs → Option Sl
  | .nil => some O
  | .cons e r => andThen (owE O e) fun O1 => owXs O1 r
  | .star e r => andThen (bor e O (owE O e)) fun O1 => owXs O1 r
  | .tmp e r => andThen (owE O e) fun O1 => if freshE e then owXs O1 r else none
  | .io i r => andThen (owXs O r) fun O1 => if O1.contains i && !(iosOf r).contains i then some O1 else none
def owOx (O : Sl) : Ox → Option Sl
  | .none => some O
  | .some e => owE O e
def owDs (O : Sl) : Ds → Option Sl
  | .nil => some O
  | .kv k v r => andThen (owE O k) fun O1 => andThen (owE O1 v) fun O2 => owDs O2 r
  | .star d r => andThen (bor d O (owE O d)) fun O1 => owDs O1 r
/-- pb: the last part changes nothing that is held -/
def owCs (O : Sl) : Cs → Bool → (Sl → Option Sl) → Option Sl
  | .nil, _, last => last O
  | .cons ws tg it c r, pb, last => andThen (owIt (prOx c && prCs r && pb) O it) fun O1 => steady (ws ++ tgsOf tg) (fun O => andThen (owOx (minus O (ws ++ tgsOf tg)) c) fun O2 => both (some O2) (owCs O2 r pb last)) O1
/-- b: what is walked may be a name that keeps what it holds -/
def owIt (b : Bool) (O : Sl) : It → Option Sl
  | .expr e => if b then bor e O (owE O e) else owE O e
  | .rng1 a => owE O a
  | .rng2 a b => andThen (owE O a) fun O1 => owE O1 b
  | .enum e => if b then bor e O (owE O e) else owE O e
  | .items e => if b then bor e O (owE O e) else owE O e
  | .vals e => if b then bor e O (owE O e) else owE O e
end

/-- what is owned where a statement ends, by its ways out -/
structure Flw where
  nx : Option Sl := none
  bk : Option Sl := none
  ct : Option Sl := none
def mo : Option Sl → Option Sl → Option Sl
  | none, b => b
  | a, none => a
  | some a, some b => some (meet a b)
def Flw.join (f g : Flw) : Flw := ⟨mo f.nx g.nx, mo f.bk g.bk, mo f.ct g.ct⟩
def keeps (inv : Sl) : Option Sl → Bool
  | none => true
  | some O => sub inv O
def nxt (r : Option Sl) : Option Flw := r.map fun O => { nx := some O }
def freshs : List Nat → Xs → Option Sl
  | [], .nil => some []
  | _ :: is, .cons _ r => freshs is r
  | i :: is, .tmp _ r => (freshs is r).map fun l => i :: l
  | _, _ => none
mutual
def owS (io O : Sl) : S → Option Flw
  | .asg i e => if io.contains i then none else nxt ((owE O e).map fun O1 => if freshE e then i :: er O1 i else er O1 i)
  | .move i j => if io.contains i || io.contains j || i == j then none else nxt (some (if O.contains j then i :: er (er O j) i else er (er O j) i))
  | .unp is e => if apartS is io then nxt ((owE O e).map fun O1 => minus O1 is) else none
  | .par is es => if apartS is io && decide is.Nodup then nxt (andThen (owXs O es) fun O1 => (freshs is es).map fun l => l ++ minus O1 is) else none
  | .seti i k v => nxt (andThen (owE O v) fun O1 => andThen (owE O1 k) fun O2 => if O2.contains i then some O2 else none)
  | .app i e => nxt (andThen (owE O e) fun O1 => if O1.contains i then some O1 else none)
  | .ext i e => nxt (andThen (bor e O (owE O e)) fun O1 => if O1.contains i then some O1 else none)
  | .aug i _ e => if io.contains i then none else nxt ((owE O e).map fun O1 => er O1 i)
  | .expr e => nxt (owE O e)
  | .ret e => match owE O e with
    | some O1 => if sub io O1 then some {} else none
    | none => none
  | .ite c a b => match owE O c with
    | some O1 => match owSs io O1 a, owSs io O1 b with
      | some f, some g => some (f.join g)
      | _, _ => none
    | none => none
  | .whl inv ws c b => if sub inv O && apartS ws io && apartS ws inv then match owE inv c with
    | some O1 => match owSs io O1 b with
      | some f => if sub inv O1 && keeps inv f.nx && keeps inv f.ct then some { nx := mo (some O1) f.bk } else none
      | none => none
    | none => none else none
  | .for_ inv ws tg it b => match owIt false O it with
    | some O1 => if sub inv O1 && apartS ws io && apartS ws inv && apartS (tgsOf tg) io && apartS (tgsOf tg) inv then match owSs io inv b with
      | some f => if keeps inv f.nx && keeps inv f.ct then some { nx := mo (some inv) f.bk } else none
      | none => none else none
    | none => none
  | .raise => some {}
  | .brk => some { bk := some O }
  | .cont => some { ct := some O }
  | .pass => some { nx := some O }
def owSs (io O : Sl) : Ss → Option Flw
  | .nil => some { nx := some O }
  | .cons s r => match owS io O s with
    | some f => match f.nx with
      | none => some f
      | some O1 => match owSs io O1 r with
        | some g => some { nx := g.nx, bk := mo f.bk g.bk, ct := mo f.ct g.ct }
        | none => none
    | none => none
end
/-- a def whose lists and dicts are changed by the names alone that hold them -/
def owD (D : Def) : Bool := match owSs D.io D.io D.body with
  | some f => keeps D.io f.nx
  | none => false
end Ev
end

section
set_option linter.all false
set_option autoImplicit false
set_option maxRecDepth 100000
/-! EvB: what a value of Ev is over the hand layer's heap; the state that a frame keeps. -/
namespace Ev
open PySem L2
/-! ### keys -/
def keyA : AV → Option Key
  | .int i => some (.inl i)
  | .str x => some (.inr x)
  | _ => none
/-- an entry of a dict: its key, its value -/
abbrev Ent := Key × V
/-- a dict, its entries in order -/
def dictH (w : World) (a : Addr) (ep : Nat) (L : List Ent) : HO := .dK L
/-- a list that is read: tracked, frozen, or a plain one of the module's objects -/
def LstX (K : PySem.W.Frag) (F : Hp) (a : Addr) (xs : List V) : Prop := Rd F a (.lst xs) ∨ ∃ (its : List Value) (n : Nat), K.lookup a = some { cls := .type "list", data := .seq its.toArray n } ∧ its.length ≤ sizeLine ∧ Vals xs its
theorem LstX.sql {K : PySem.W.Frag} {F : Hp} {a : Addr} {xs : List V} (h : LstX K F a xs) : SqL K F a xs := by
  rcases h with h | ⟨its, n, h1, h2, h3⟩
  · exact .inl h
  · exact .inr ⟨_, its.toArray, n, h1, rfl, rfl, rfl, by simpa using h2, by simpa using h3⟩
section
variable (K : PySem.W.Frag) (w : World)
mutual
inductive Rep : Hp → V → AV → Prop
  | non {F} : Rep F .non .none
  | bl {F} (b : Bool) : Rep F (.bl b) (.bool b)
  | int {F} (i : Int) : Rep F (.int i) (.int i)
  | str {F} (x : Str) : Rep F (.str x) (.str x)
  | lst {F} {a : Addr} {xs : List V} {ds : List AV} : LstX K F a xs → RepL F xs ds → Rep F (.ref a) (.list ds)
  | tup {F} {a : Addr} {xs : List V} {ds : List AV} : SqT K F a xs → RepL F xs ds → Rep F (.ref a) (.tuple ds)
  | dct {F} {a : Addr} {ep : Nat} {L : List Ent} {kvs : List (AV × AV)} {tk : Bool} : F a = some (dictH w a ep L) → RepD F tk L kvs → Rep F (.ref a) (.dict kvs)
inductive RepL : Hp → List V → List AV → Prop
  | nil {F} : RepL F [] []
  | cons {F} {v : V} {vs : List V} {d : AV} {ds : List AV} : Rep F v d → RepL F vs ds → RepL F (v :: vs) (d :: ds)
inductive RepD : Hp → Bool → List Ent → List (AV × AV) → Prop
  | nil {F} {tk : Bool} : RepD F tk [] []
  | cons {F} {tk : Bool} {nk : Key} {vv : V} {L : List Ent} {k v : AV} {kvs : List (AV × AV)} : keyA k = some nk → Rep F vv v → RepD F tk L kvs → RepD F tk ((nk, vv) :: L) ((k, v) :: kvs)
end
end
section
variable {K : PySem.W.Frag} {w : World} {F F' H : Hp}
theorem Same.tup {H H' : Hp} {a : Addr} {xs : List V} (e : Same H H') (h : SqT K H a xs) : SqT K H' a xs := by
  rcases h with (h | ⟨o, h⟩) | h
  · exact .inl (.inl (e _ _ h))
  · exact .inl (.inr ⟨o, e _ _ h⟩)
  · exact .inr h
theorem Same.rd {H H' : Hp} {a : Addr} {u : HO} (e : Same H H') (h : Rd H a u) : Rd H' a u := by
  rcases h with h | ⟨o, h⟩
  · exact .inl (e _ _ h)
  · exact .inr ⟨o, e _ _ h⟩
theorem LstX.mono {a : Addr} {xs : List V} (s : Same F F') (h : LstX K F a xs) : LstX K F' a xs := h.imp (Same.rd s) id
mutual
theorem Rep.mono (s : Same F F') : ∀ {v : V} {d : AV}, Rep K w F v d → Rep K w F' v d
  | _, _, .non => .non
  | _, _, .bl b => .bl b
  | _, _, .int i => .int i
  | _, _, .str x => .str x
  | _, _, .lst h r => .lst (h.mono s) (RepL.mono s r)
  | _, _, .tup h r => .tup (Same.tup s h) (RepL.mono s r)
  | _, _, .dct h r => .dct (s _ _ h) (RepD.mono s r)
theorem RepL.mono (s : Same F F') : ∀ {v : List V} {d : List AV}, RepL K w F v d → RepL K w F' v d
  | _, _, .nil => .nil
  | _, _, .cons h r => .cons (Rep.mono s h) (RepL.mono s r)
theorem RepD.mono (s : Same F F') : ∀ {tk : Bool} {L : List Ent} {d : List (AV × AV)}, RepD K w F tk L d → RepD K w F' tk L d
  | _, _, _, .nil => .nil
  | _, _, _, .cons h1 r1 r => .cons h1 (Rep.mono s r1) (RepD.mono s r)
end
theorem RepL.length : ∀ {vs : List V} {ds : List AV}, RepL K w F vs ds → vs.length = ds.length
  | _, _, .nil => rfl
  | _, _, .cons _ r => by rw [List.length_cons, List.length_cons, r.length]
theorem keyA_leaf {k : AV} (h : leafK k = true) : ∃ nk, keyA k = some nk := by
  cases k <;> first | exact ⟨_, rfl⟩ | cases h
theorem keyA_rep {k : AV} {nk : Key} {v : V} (h : keyA k = some nk) (r : Rep K w F v k) : v = kV nk := by
  cases k with
  | int i => cases h; cases r; rfl
  | str x => cases h; cases r; rfl
  | _ => cases h
theorem rep_keyA {k : AV} {nk : Key} (h : keyA k = some nk) : Rep K w F (kV nk) k := by
  cases k with
  | int i => cases h; exact .int _
  | str x => cases h; exact .str _
  | _ => cases h
theorem keyA_eqv {a b : AV} {x y : Key} (h : keyA a = some x) (g : keyA b = some y) : PyData.eqv a b = decide (x = y) := by
  cases a with
  | int i =>
    cases h
    cases b with
    | int j => cases g; rw [PyData.eqv.eq_def]; exact Bool.eq_iff_iff.mpr (by simp)
    | str z => cases g; rw [PyData.eqv.eq_def]; simp
    | _ => cases g
  | str u =>
    cases h
    cases b with
    | int j => cases g; rw [PyData.eqv.eq_def]; exact Bool.eq_iff_iff.mpr (by simp)
    | str z => cases g; rw [PyData.eqv.eq_def]; exact Bool.eq_iff_iff.mpr (by simp)
    | _ => cases g
  | _ => cases h
theorem RepD.length : ∀ {tk : Bool} {L : List Ent} {kvs : List (AV × AV)}, RepD K w F tk L kvs → L.length = kvs.length
  | _, _, _, .nil => rfl
  | _, _, _, .cons _ _ r => by rw [List.length_cons, List.length_cons, r.length]
theorem RepD.any {k : AV} {nk : Key} (hk : keyA k = some nk) : ∀ {tk : Bool} {L : List Ent} {kvs : List (AV × AV)}, RepD K w F tk L kvs → (kvs.any fun p => PyData.eqv p.1 k) = L.any fun p => decide (p.1 = nk)
  | _, _, _, .nil => rfl
  | _, _, _, .cons h _ r => by rw [List.any_cons, List.any_cons, r.any hk, keyA_eqv h hk]
theorem RepD.repl {k : AV} {nk : Key} {v : AV} {vv : V} (hk : keyA k = some nk) (hv : Rep K w F vv v) : ∀ {tk : Bool} {L : List Ent} {kvs : List (AV × AV)}, RepD K w F tk L kvs → RepD K w F tk (L.map fun p => if p.1 = nk then (p.1, vv) else p) (kvs.map fun p => if PyData.eqv p.1 k = true then (p.1, v) else p)
  | _, _, _, .nil => .nil
  | _, _, _, .cons (nk := nk') h r1 r => by
    rw [List.map_cons, List.map_cons, keyA_eqv h hk]
    by_cases e : nk' = nk
    · rw [if_pos (decide_eq_true e), if_pos e]; exact .cons h hv (r.repl hk hv)
    · rw [if_neg (fun z => e (of_decide_eq_true z)), if_neg e]; exact .cons h r1 (r.repl hk hv)
theorem RepD.snoc {k : AV} {nk : Key} {v : AV} {vv : V} (hk : keyA k = some nk) (hv : Rep K w F vv v) : ∀ {tk : Bool} {L : List Ent} {kvs : List (AV × AV)}, RepD K w F tk L kvs → RepD K w F tk (L ++ [(nk, vv)]) (kvs ++ [(k, v)])
  | _, _, _, .nil => .cons hk hv .nil
  | _, _, _, .cons h r1 r => .cons h r1 (r.snoc hk hv)
theorem RepD.put {k : AV} {nk : Key} {v : AV} {vv : V} (hk : keyA k = some nk) (hv : Rep K w F vv v) {tk : Bool} {L : List Ent} {kvs : List (AV × AV)} (r : RepD K w F tk L kvs) : RepD K w F tk (putK L nk vv) (dput kvs k v) := by
  unfold putK dput
  rw [r.any hk]
  split
  · exact r.repl hk hv
  · exact r.snoc hk hv
theorem RepD.keys : ∀ {tk : Bool} {L : List Ent} {kvs : List (AV × AV)}, RepD K w F tk L kvs → RepL K w F (L.map fun p => kV p.1) (kvs.map (·.1))
  | _, _, _, .nil => .nil
  | _, _, _, .cons h _ r => .cons (rep_keyA h) r.keys
theorem RepL.get : ∀ {vs : List V} {ds : List AV} {i : Nat} {d : AV}, RepL K w F vs ds → ds[i]? = some d → ∃ v, vs[i]? = some v ∧ Rep K w F v d
  | _, _, _, _, .nil, e => by simp at e
  | _, _, 0, _, .cons h _, e => by simp at e; subst e; exact ⟨_, rfl, h⟩
  | _, _, i + 1, _, .cons _ r, e => by
    obtain ⟨v, h1, h2⟩ := RepL.get (i := i) r (by simpa using e)
    exact ⟨v, by simpa using h1, h2⟩
theorem RepL.get' : ∀ {vs : List V} {ds : List AV} {i : Nat} {v : V}, RepL K w F vs ds → vs[i]? = some v → ∃ d, ds[i]? = some d ∧ Rep K w F v d
  | _, _, _, _, .nil, e => by simp at e
  | _, _, 0, _, .cons h _, e => by simp at e; subst e; exact ⟨_, rfl, h⟩
  | _, _, i + 1, _, .cons _ r, e => by
    obtain ⟨v, h1, h2⟩ := RepL.get' (i := i) r (by simpa using e)
    exact ⟨v, by simpa using h1, h2⟩
theorem RepL.append : ∀ {vs us : List V} {ds es : List AV}, RepL K w F vs ds → RepL K w F us es → RepL K w F (vs ++ us) (ds ++ es)
  | _, _, _, _, .nil, s => s
  | _, _, _, _, .cons h r, s => .cons h (r.append s)
theorem RepL.take : ∀ {vs : List V} {ds : List AV} (n : Nat), RepL K w F vs ds → RepL K w F (vs.take n) (ds.take n)
  | _, _, 0, _ => .nil
  | _, _, _ + 1, .nil => .nil
  | _, _, n + 1, .cons h r => .cons h (r.take n)
theorem RepL.drop : ∀ {vs : List V} {ds : List AV} (n : Nat), RepL K w F vs ds → RepL K w F (vs.drop n) (ds.drop n)
  | _, _, 0, r => r
  | _, _, _ + 1, .nil => .nil
  | _, _, n + 1, .cons _ r => r.drop n
theorem RepL.set {v : V} {d : AV} (h : Rep K w F v d) : ∀ {vs : List V} {ds : List AV} (n : Nat), RepL K w F vs ds → RepL K w F (vs.set n v) (ds.set n d)
  | _, _, _, .nil => .nil
  | _, _, 0, .cons _ r => .cons h r
  | _, _, n + 1, .cons h' r => .cons h' (RepL.set h n r)
theorem RepL.erase : ∀ {vs : List V} {ds : List AV} (n : Nat), RepL K w F vs ds → RepL K w F (vs.eraseIdx n) (ds.eraseIdx n)
  | _, _, _, .nil => .nil
  | _, _, 0, .cons _ r => r
  | _, _, n + 1, .cons h' r => .cons h' (RepL.erase n r)
theorem RepL.dropLast {vs : List V} {ds : List AV} (r : RepL K w F vs ds) : RepL K w F vs.dropLast ds.dropLast := by
  rw [List.dropLast_eq_take, List.dropLast_eq_take, r.length]
  exact r.take _
theorem RepL.snoc {vs : List V} {ds : List AV} {v : V} {d : AV} (r : RepL K w F vs ds) (h : Rep K w F v d) : RepL K w F (vs ++ [v]) (ds ++ [d]) := r.append (.cons h .nil)
end

/-! ### the state of a frame -/
section
variable (K : PySem.W.Frag) (w : World)
/-- v alone holds the value: not among the frozen objects (F), not among those of others (B) -/
def OwnV (F B H : Hp) (v : V) : AV → Prop
  | .list ds => ∃ a xs, v = .ref a ∧ F a = none ∧ B a = none ∧ H a = some (.lst xs) ∧ RepL K w F xs ds
  | .dict kvs => ∃ a ep L tk, v = .ref a ∧ F a = none ∧ B a = none ∧ H a = some (dictH w a ep L) ∧ RepD K w F tk L kvs
  | d => Rep K w F v d
/-- IO: the io parameters and where their lists and dicts stand; F0: what was frozen at the entry, F: what is; B: what others hold; O: the owned slots -/
structure SR (IO : List (Nat × Addr)) (F0 F B : Hp) (O : Sl) (σ : St) (H : Hp) (env : Env) : Prop where
  fh : Same F H
  bh : Same B H
  f0 : Same F0 F
  fb : ∀ a o, F a = some o → F0 a = some o ∨ B a = none
  slot : ∀ i d, env[i]? = some (some d) → ∃ v, σ[i]? = some (some v) ∧ (i ∈ O → OwnV K w F B H v d) ∧ (i ∉ O → Rep K w F v d)
  apart : ∀ i j a d e, i ∈ O → j ∈ O → env[i]? = some (some d) → env[j]? = some (some e) → mutA d = true → mutA e = true → σ[i]? = some (some (.ref a)) → σ[j]? = some (some (.ref a)) → i = j
  len : env.length = σ.length
  io : ∀ p ∈ IO, p.1 ∈ O → σ[p.1]? = some (some (.ref p.2))
end
theorem same_upd' {H : Hp} {p : Addr} {o : HO} (h : H p = none) : Same H (upd H p o) := fun b x e => by
  rw [upd_ne (ne_of_none e h)]
  exact e
section
variable {K : PySem.W.Frag} {w : World} {IO : List (Nat × Addr)} {F0 F F' B H H' : Hp} {O : Sl} {σ : St} {env : Env}
theorem OwnV.of_rep {v : V} {d : AV} (h : mutA d = false) (r : Rep K w F v d) : OwnV K w F B H v d := by
  cases d <;> first | exact r | cases h
theorem OwnV.rep {v : V} {d : AV} (h : mutA d = false) (r : OwnV K w F B H v d) : Rep K w F v d := by
  cases d <;> first | exact r | cases h
/-- what is laid anew: old things stay, what is frozen now was frozen or is new -/
structure Ext (F H F' H' : Hp) : Prop where
  hh : Same H H'
  ff : Same F F'
  fh : Same F' H'
  nw : ∀ a o, F' a = some o → F a = some o ∨ H a = none
theorem Ext.refl (h : Same F H) : Ext F H F H := ⟨Same.refl _, Same.refl _, h, fun _ _ e => .inl e⟩
theorem Ext.trans {F'' H'' : Hp} (a : Ext F H F' H') (b : Ext F' H' F'' H'') : Ext F H F'' H'' :=
  ⟨a.hh.trans b.hh, a.ff.trans b.ff, b.fh, fun c o e => (b.nw c o e).elim (fun q => a.nw c o q) fun q => .inr (a.hh.free q)⟩
theorem Same.none {H H' : Hp} (s : Same H H') {a : Addr} (h : H' a = Option.none) : H a = Option.none := s.free h
/-- an owned value under what is laid anew -/
theorem OwnV.ext {v : V} {d : AV} (x : Ext F H F' H') (r : OwnV K w F B H v d) : OwnV K w F' B H' v d := by
  have key : ∀ {a : Addr} {o : HO}, F a = none → H a = some o → F' a = none := fun {a o} h1 h2 => by
    cases q : F' a with
    | none => rfl
    | some u =>
      rcases x.nw a u q with e | e
      · rw [h1] at e; cases e
      · rw [h2] at e; cases e
  cases d with
  | list ds =>
    obtain ⟨a, xs, e, h1, h2, h3, h4⟩ := r
    exact ⟨a, xs, e, key h1 h3, h2, x.hh _ _ h3, h4.mono x.ff⟩
  | dict kvs =>
    obtain ⟨a, ep, L, tk, e, h1, h2, h3, h4⟩ := r
    exact ⟨a, ep, L, tk, e, key h1 h3, h2, x.hh _ _ h3, h4.mono x.ff⟩
  | none => exact Rep.mono x.ff r
  | bool b => exact Rep.mono x.ff r
  | int b => exact Rep.mono x.ff r
  | str b => exact Rep.mono x.ff r
  | tuple b => exact Rep.mono x.ff r
theorem SR.ext (S : SR K w IO F0 F B O σ H env) (x : Ext F H F' H') : SR K w IO F0 F' B O σ H' env where
  fh := x.fh
  bh := S.bh.trans x.hh
  f0 := S.f0.trans x.ff
  fb := fun a o e => (x.nw a o e).elim (S.fb a o) fun q => .inr (S.bh.free q)
  slot := fun i d e => let ⟨v, h1, h2, h3⟩ := S.slot i d e; ⟨v, h1, fun q => (h2 q).ext x, fun q => (h3 q).mono x.ff⟩
  apart := S.apart
  len := S.len
  io := S.io
/-- fewer slots are owned: the value of one is frozen -/
theorem SR.freeze {i : Nat} (S : SR K w IO F0 F B O σ H env) : ∃ F', SR K w IO F0 F' B (er O i) σ H env ∧ Same F F' ∧ (∀ d v, env[i]? = some (some d) → σ[i]? = some (some v) → Rep K w F' v d) := by
  have out : ∀ j, j ∈ er O i → j ∈ O ∧ j ≠ i := fun j h => by simpa [er] using h
  have inn : ∀ j, j ∈ O → j ≠ i → j ∈ er O i := fun j h1 h2 => by simp [er, h1, h2]
  by_cases hO : i ∈ O
  · by_cases hex : ∃ d, env[i]? = some (some d)
    · obtain ⟨d, hd⟩ := hex
      obtain ⟨v, hv, h2, _⟩ := S.slot i d hd
      have own := h2 hO
      -- the value is frozen where it stands
      have fin : ∀ (F' : Hp), Same F F' → Same F' H → (∀ a o, F' a = some o → F a = some o ∨ (v = .ref a ∧ B a = none ∧ mutA d = true)) → Rep K w F' v d →
          ∃ F', SR K w IO F0 F' B (er O i) σ H env ∧ Same F F' ∧ (∀ d v, env[i]? = some (some d) → σ[i]? = some (some v) → Rep K w F' v d) := fun F' s1 s2 s3 r => by
        refine ⟨F', ⟨s2, S.bh, S.f0.trans s1, fun a o e => (s3 a o e).elim (S.fb a o) fun q => .inr q.2.1, fun j e hj => ?_, fun j k a d e h1 h2 => S.apart j k a d e (out j h1).1 (out k h2).1, S.len, fun p hp h => S.io p hp (out _ h).1⟩, s1, fun d' v' e1 e2 => ?_⟩
        · obtain ⟨u, g1, g2, g3⟩ := S.slot j e hj
          refine ⟨u, g1, fun q => ?_, fun q => ?_⟩
          · obtain ⟨q1, q2⟩ := out j q
            have o1 := g2 q1
            have key : ∀ {b : Addr}, u = .ref b → F b = none → mutA e = true → F' b = none := fun {b} eb hb hm => by
              cases q' : F' b with
              | none => rfl
              | some o =>
                rcases s3 b o q' with z | ⟨z1, _, z3⟩
                · rw [hb] at z; cases z
                · exact absurd (S.apart j i b e d q1 hO hj hd hm z3 (by rw [g1, eb]) (by rw [hv, z1])) q2
            cases e with
            | list ds =>
              obtain ⟨a, xs, e1, f1, f2, f3, f4⟩ := o1
              exact ⟨a, xs, e1, key e1 f1 rfl, f2, f3, f4.mono s1⟩
            | dict kvs =>
              obtain ⟨a, ep, L, tk, e1, f1, f2, f3, f4⟩ := o1
              exact ⟨a, ep, L, tk, e1, key e1 f1 rfl, f2, f3, f4.mono s1⟩
            | none => exact Rep.mono s1 o1
            | bool b => exact Rep.mono s1 o1
            | int b => exact Rep.mono s1 o1
            | str b => exact Rep.mono s1 o1
            | tuple b => exact Rep.mono s1 o1
          · by_cases hji : j = i
            · subst hji
              rw [hd] at hj; cases hj
              rw [hv] at g1; cases g1
              exact r
            · exact (g3 fun z => q (inn j z hji)).mono s1
        · rw [hd] at e1; cases e1
          rw [hv] at e2; cases e2
          exact r
      have frz : ∀ (a : Addr) (o : HO), v = .ref a → F a = none → B a = none → H a = some o → mutA d = true → (Same F (upd F a o) ∧ Same (upd F a o) H ∧ ∀ b u, upd F a o b = some u → F b = some u ∨ (v = .ref b ∧ B b = none ∧ mutA d = true)) := fun a o e1 e2 e3 e4 e5 => by
        refine ⟨same_upd' e2, fun b u q => ?_, fun b u q => ?_⟩
        · by_cases hb : b = a
          · subst hb; rw [upd_same] at q; cases q; exact e4
          · rw [upd_ne hb] at q; exact S.fh _ _ q
        · by_cases hb : b = a
          · subst hb; exact .inr ⟨e1, e3, e5⟩
          · rw [upd_ne hb] at q; exact .inl q
      cases d with
      | list ds =>
        obtain ⟨a, xs, e1, f1, f2, f3, f4⟩ := own
        obtain ⟨z1, z2, z3⟩ := frz a _ e1 f1 f2 f3 rfl
        exact fin _ z1 z2 z3 (by rw [e1]; exact .lst (.inl (.inl upd_same)) (f4.mono z1))
      | dict kvs =>
        obtain ⟨a, ep, L, tk, e1, f1, f2, f3, f4⟩ := own
        obtain ⟨z1, z2, z3⟩ := frz a _ e1 f1 f2 f3 rfl
        exact fin _ z1 z2 z3 (by rw [e1]; exact .dct upd_same (f4.mono z1))
      | none => exact fin F (Same.refl _) S.fh (fun _ _ e => .inl e) own
      | bool b => exact fin F (Same.refl _) S.fh (fun _ _ e => .inl e) own
      | int b => exact fin F (Same.refl _) S.fh (fun _ _ e => .inl e) own
      | str b => exact fin F (Same.refl _) S.fh (fun _ _ e => .inl e) own
      | tuple b => exact fin F (Same.refl _) S.fh (fun _ _ e => .inl e) own
    · refine ⟨F, ⟨S.fh, S.bh, S.f0, S.fb, fun j d e => ?_, fun j k a d e h1 h2 => S.apart j k a d e (out j h1).1 (out k h2).1, S.len, fun p hp h => S.io p hp (out _ h).1⟩, Same.refl _, fun d v e => (hex ⟨d, e⟩).elim⟩
      obtain ⟨v, h1, h2, h3⟩ := S.slot j d e
      refine ⟨v, h1, fun q => h2 (out j q).1, fun q => ?_⟩
      by_cases hj : j = i
      · subst hj; exact (hex ⟨d, e⟩).elim
      · exact h3 fun z => q (inn j z hj)
  · refine ⟨F, ⟨S.fh, S.bh, S.f0, S.fb, fun j d e => ?_, fun j k a d e h1 h2 => S.apart j k a d e (out j h1).1 (out k h2).1, S.len, fun p hp h => S.io p hp (out _ h).1⟩, Same.refl _, fun d v e1 e2 => ?_⟩
    · obtain ⟨v, h1, h2, h3⟩ := S.slot j d e
      refine ⟨v, h1, fun q => h2 (out j q).1, fun q => ?_⟩
      by_cases hj : j = i
      · subst hj; exact h3 hO
      · exact h3 fun z => q (inn j z hj)
    · obtain ⟨u, h1, _, h3⟩ := S.slot i d e1
      rw [h1] at e2; cases e2
      exact h3 hO
end
end Ev
end

section
set_option linter.all false
set_option autoImplicit false
set_option maxRecDepth 100000
set_option maxHeartbeats 2000000
/-! EvC0: a tuple times a number, the cases without a longer tuple. -/
namespace Ev
open PySem PySem.Spec PyProof.Rows L2
theorem tmul_same (l : Addr) (items : Array Value) (n : Nat) (dd : Option Addr) (sl : Array (Option Value)) (x : Int) (u : Tok) (c0 : (decide (x < -(2 ^ 63)) || decide (x ≥ 2 ^ 63)) = false) (c1 : (items.isEmpty || x == 1) = true) :
    Meets (Builtin.«tuple.__mul__» ⟨[.ref l, .int x u], []⟩) (fun _ R s => s.heap.get? l = some { cls := .type "tuple", dict := dd, data := .seq items n, slots := sl } ∧ R (.ok (.ret (.ref l))) s) :=
  .of_wp fun prog w A R s h => by
    obtain ⟨hp, g, d, tk, os⟩ := s
    obtain ⟨hl, h⟩ := h
    have f1 := AutoSeq1.idx_int
    wp_walk using wpAny_loadPart' hl
    repeat (first
      | (refine wpAny_ite_false (decide_eq_false (by rw [c0]; exact Bool.false_ne_true)) ?_; wp_walk using wpAny_loadPart' hl)
      | (refine wpAny_ite_true (decide_eq_true c1) ?_; wp_walk using wpAny_loadPart' hl))
    exact ⟨_, rfl, h⟩
theorem tmul_none (l : Addr) (items : Array Value) (n : Nat) (dd : Option Addr) (sl : Array (Option Value)) (x : Int) (u : Tok) (c0 : (decide (x < -(2 ^ 63)) || decide (x ≥ 2 ^ 63)) = false) (c1 : (items.isEmpty || x == 1) = false) (c2 : (decide (x ≤ 0) || items.isEmpty) = true) :
    Meets (Builtin.«tuple.__mul__» ⟨[.ref l, .int x u], []⟩) (fun _ R s => s.heap.get? l = some { cls := .type "tuple", dict := dd, data := .seq items n, slots := sl } ∧
      R (.ok (.ret (Value.ref s.heap.objs.size))) { s with heap := s.heap.push { cls := Value.type "tuple", data := Data.seq #[] }, toks := s.toks }) :=
  .of_wp fun prog w A R s h => by
    obtain ⟨hp, g, d, tk, os⟩ := s
    obtain ⟨hl, h⟩ := h
    have f1 := AutoSeq1.idx_int
    wp_walk using wpAny_loadPart' hl
    repeat (first
      | (refine wpAny_ite_false (decide_eq_false (by rw [c0]; exact Bool.false_ne_true)) ?_; wp_walk using wpAny_loadPart' hl)
      | (refine wpAny_ite_false (decide_eq_false (by rw [c1]; exact Bool.false_ne_true)) ?_; wp_walk using wpAny_loadPart' hl)
      | (refine wpAny_ite_true (decide_eq_true c2) ?_; wp_walk using wpAny_loadPart' hl))
    exact ⟨_, rfl, h⟩
def rRep1 (K : PySem.W.Frag) : R2 := fun x y H Q => ∃ l k xs, x = .ref l ∧ y = .int k ∧ SqT K H l xs ∧ k ≤ 1000 ∧ -1000 ≤ k ∧ ((xs = [] ∨ k = 1) ∧ Q (.ref l) H ∨ (xs ≠ [] ∧ k ≤ 0) ∧ ∀ p, H p = none → Q (.ref p) (upd H p (.tup [])))
section
variable {X : Cx}
theorem op_rep1 : OpR X (binaryOp .Mult) (rRep1 X.K) := by
  intro pins s σ H x y v u Q I rx ry h
  obtain ⟨l, k, xs, rfl, rfl, hT, h1, h2, hq⟩ := h
  cases rx
  obtain ⟨t, rfl⟩ := ry
  obtain ⟨its, r, ⟨⟨cls, dd, data, sl⟩, ho, hc, n, hd⟩, hs⟩ := I.tuple hT
  simp only at hc hd
  subst hc hd
  have c0 : (decide (k < -(2 ^ 63)) || decide (k ≥ 2 ^ 63)) = false := by
    rw [decide_eq_false (by omega), decide_eq_false (by omega)] <;> rfl
  have hemp : its.toArray.isEmpty = true ↔ xs = [] := by
    rw [List.isEmpty_toArray, List.isEmpty_iff]
    constructor
    · rintro rfl; cases r; rfl
    · rintro rfl; cases r; rfl
  refine wpAny_binaryOp_repeat_ref (T := "tuple") (U := "int") (by decide) ⟨_, ho, rfl⟩ (fun s' => typeIs_int s' k t) noFill_tuple_mul F.fills_int_mul F.slot_int_rmul repeat_tuple F.slot_int_index.lookup
    (call_meets F.slot_int_rmul (typeIs_int s k t) F.entry_int_rmul (F.args_int_rmul_2 _ _) (int_rmul_tuple k t l its.toArray n dd sl) ⟨ho, rfl, ⟨_, ho, rfl⟩, ?_⟩)
  rcases hq with ⟨c, q⟩ | ⟨⟨c1, c2⟩, q⟩
  · refine call_meets F.slot_tuple_mul ⟨_, ho, rfl⟩ F.entry_tuple_mul (F.args_tuple_mul_2 _ _) (tmul_same l its.toArray n dd sl k t c0 ?_) ⟨ho, .ref l, H, I, rfl, q⟩
    rcases c with c | c
    · rw [hemp.mpr c]; rfl
    · rw [c]; simp
  · refine call_meets F.slot_tuple_mul ⟨_, ho, rfl⟩ F.entry_tuple_mul (F.args_tuple_mul_2 _ _) (tmul_none l its.toArray n dd sl k t c0 ?_ ?_) ⟨ho, ?_⟩
    · have : its.toArray.isEmpty = false := by
        cases q : its.toArray.isEmpty with
        | true => exact absurd (hemp.mp q) c1
        | false => rfl
      rw [this, Bool.false_or]
      exact beq_eq_false_iff_ne.mpr (by omega)
    · rw [decide_eq_true c2]; rfl
    · refine ⟨.ref s.heap.objs.size, _, I.laid (t' := s.toks) (o := .tup []) (fun b ob q => Heap.get?_push_of_some _ q) (Nat.le_refl _) ?_, rfl, q _ (I.hok.fresh (Nat.le_refl _))⟩
      exact ⟨by rw [sizeLine_eq]; decide, _, .nil, IsTup.new _ _⟩
end
end Ev
end

section
set_option linter.all false
set_option autoImplicit false
set_option maxRecDepth 100000
/-! EvC: the operators by values. -/
namespace Ev
open PySem PySem.Spec PyProof.Rows L2
section
variable (K : PySem.W.Frag) (w : World)
/-- a new value: its object, if it may be changed, is new -/
def NewV (F' H H' : Hp) (v : V) : AV → Prop
  | .list ds => ∃ a xs, v = .ref a ∧ F' a = none ∧ H a = none ∧ H' a = some (.lst xs) ∧ RepL K w F' xs ds
  | .dict kvs => ∃ a ep L tk, v = .ref a ∧ F' a = none ∧ H a = none ∧ H' a = some (dictH w a ep L) ∧ RepD K w F' tk L kvs
  | d => Rep K w F' v d
/-- what is wanted of a result: b: a new one -/
def Res (b : Bool) (F H : Hp) (d : AV) (Q : VK) : Prop := ∀ v F' H', Ext F H F' H' → (b = true → NewV K w F' H H' v d) → (b = false → Rep K w F' v d) → Q v H'
/-- an operand: it may be owned -/
def Opd (F H : Hp) (v : V) : AV → Prop
  | .list ds => ∃ a xs, v = .ref a ∧ LstX K H a xs ∧ RepL K w F xs ds
  | .dict kvs => ∃ a ep L tk, v = .ref a ∧ H a = some (dictH w a ep L) ∧ RepD K w F tk L kvs
  | d => Rep K w F v d
end
section
variable {K : PySem.W.Frag} {w : World} {F F' H H' : Hp} {b : Bool} {d : AV} {v : V} {Q : VK} {p : Addr}
theorem ext_new {o : HO} (hF : Same F H) (hp : H p = none) : Ext F H F (upd H p o) :=
  ⟨same_upd' hp, Same.refl _, hF.trans (same_upd' hp), fun _ _ e => .inl e⟩
theorem ext_new' {o : HO} (hF : Same F H) (hp : H p = none) : Ext F H (upd F p o) (upd H p o) := by
  have hFp : F p = none := hF.free hp
  refine ⟨same_upd' hp, same_upd' hFp, fun b u q => ?_, fun b u q => ?_⟩
  · by_cases hb : b = p
    · subst hb; rw [upd_same] at q ⊢; exact q
    · rw [upd_ne hb] at q ⊢; exact hF _ _ q
  · by_cases hb : b = p
    · subst hb; exact .inr hp
    · rw [upd_ne hb] at q; exact .inl q
theorem NewV.of_rep (h : mutA d = false) (r : Rep K w F' v d) : NewV K w F' H H' v d := by
  cases d <;> first | exact r | cases h
theorem Res.imm (h : mutA d = false) (hF : Same F H) (r : Rep K w F v d) (q : Res K w b F H d Q) : Q v H :=
  q v F H (Ext.refl hF) (fun _ => .of_rep h r) fun _ => r
theorem Res.old (hF : Same F H) (r : Rep K w F v d) (q : Res K w false F H d Q) : Q v H :=
  q v F H (Ext.refl hF) (fun h => by cases h) fun _ => r
theorem Res.newL {xs : List V} {ds : List AV} (hF : Same F H) (r : RepL K w F xs ds) (q : Res K w b F H (.list ds) Q) (hp : H p = none) : Q (.ref p) (upd H p (.lst xs)) := by
  have hFp : F p = none := hF.free hp
  cases b with
  | true => exact q _ F _ (ext_new hF hp) (fun _ => ⟨p, xs, rfl, hFp, hp, upd_same, r⟩) fun h => by cases h
  | false => exact q _ (upd F p (.lst xs)) _ (ext_new' hF hp) (fun h => by cases h) fun _ => .lst (.inl (.inl upd_same)) (r.mono (same_upd' hFp))
theorem Res.newD {L : List Ent} {kvs : List (AV × AV)} {tk : Bool} (hF : Same F H) (r : RepD K w F tk L kvs) (q : Res K w b F H (.dict kvs) Q) (hp : H p = none) : Q (.ref p) (upd H p (.dK L)) := by
  have hFp : F p = none := hF.free hp
  cases b with
  | true => exact q _ F _ (ext_new hF hp) (fun _ => ⟨p, 0, L, tk, rfl, hFp, hp, upd_same, r⟩) fun h => by cases h
  | false => exact q _ (upd F p (.dK L)) _ (ext_new' hF hp) (fun h => by cases h) fun _ => .dct (ep := 0) upd_same (r.mono (same_upd' hFp))
theorem Res.newT {xs : List V} {ds : List AV} (hF : Same F H) (r : RepL K w F xs ds) (q : Res K w b F H (.tuple ds) Q) (hp : H p = none) : Q (.ref p) (upd H p (.tup xs)) := by
  have hFp : F p = none := hF.free hp
  have hr : Rep K w (upd F p (.tup xs)) (.ref p) (.tuple ds) := .tup (.inl (.inl upd_same)) (r.mono (same_upd' hFp))
  exact q _ (upd F p (.tup xs)) _ (ext_new' hF hp) (fun _ => hr) fun _ => hr
theorem Rep.opd (hF : Same F H) (r : Rep K w F v d) : Opd K w F H v d := by
  cases r with
  | lst h r => exact ⟨_, _, rfl, h.mono hF, r⟩
  | dct h r => exact ⟨_, _, _, _, rfl, hF _ _ h, r⟩
  | non => exact .non
  | bl b => exact .bl b
  | int b => exact .int b
  | str b => exact .str b
  | tup h r => exact .tup h r
theorem OwnV.opd {B : Hp} (hF : Same F H) (r : OwnV K w F B H v d) : Opd K w F H v d := by
  cases d with
  | list ds => obtain ⟨a, xs, e, _, _, h, r⟩ := r; exact ⟨a, xs, e, .inl (.inl h), r⟩
  | dict ds => obtain ⟨a, ep, L, tk, e, _, _, h, r⟩ := r; exact ⟨a, ep, L, tk, e, h, r⟩
  | none => exact r
  | bool b => exact r
  | int b => exact r
  | str b => exact r
  | tuple b => exact r
end

/-! ### values as data of the machine's heap -/
section
variable {X : Cx} {pins : List (Addr × Obj)} {σ : L2.St} {H F : Hp} {s : Shared}
theorem inv_lst {a : Addr} {xs : List V} (I : Inv X pins σ H s) (h : LstX X.K H a xs) : xs.length ≤ sizeLine ∧ ∃ (its : List Value) (n : Nat), Vals xs its ∧ xs.length = its.length ∧ s.heap.get? a = some { cls := .type "list", data := .seq its.toArray n } := by
  rcases h with h | ⟨its, n, h1, h2, h3⟩
  · obtain ⟨z, its, n, r, e⟩ := (show ObjOk X.prog X.w H s.heap a (.lst xs) from h.ok I.hok)
    exact ⟨z, its, n, r, r.length, e⟩
  · exact ⟨by rw [h3.length]; exact h2, its, n, h3, h3.length, I.kIn a _ h1⟩
mutual
theorem Rep.reads (I : Inv X pins σ H s) (hF : Same F H) : ∀ {d : AV} {v : V} {u : Value}, d.plain = true → Rep X.K X.w F v d → RelV v u → ∃ as, Reads s.heap u d as
  | _, _, _, _, .non, r => by cases r; exact ⟨_, .none⟩
  | _, _, _, _, .bl b, r => by cases r; exact ⟨_, .bool b⟩
  | _, _, _, _, .int i, r => by obtain ⟨t, rfl⟩ := r; exact ⟨_, .int i t⟩
  | _, _, _, _, .str i, r => by obtain ⟨t, rfl⟩ := r; exact ⟨_, .str i t⟩
  | _, _, _, hp, .lst h rl, r => by
    cases r
    obtain ⟨z, its, n, rv, hl, e⟩ := inv_lst I (h.mono hF)
    obtain ⟨as, q⟩ := RepL.reads I hF (by simpa [PyData.plain] using hp) rl rv
    exact ⟨_, .list e rfl rfl (by simpa using q)⟩
  | _, _, _, hp, .tup h rl, r => by
    cases r
    obtain ⟨its, rv, ⟨o, e, hc, n, hd⟩, hz⟩ := I.tuple (Same.tup hF h)
    obtain ⟨as, q⟩ := RepL.reads I hF (by simpa [PyData.plain] using hp) rl rv
    exact ⟨_, .tuple e hc hd (by simpa using q)⟩
  | _, _, _, hp, .dct _ _, _ => by simp [PyData.plain] at hp
theorem RepL.reads (I : Inv X pins σ H s) (hF : Same F H) : ∀ {ds : List AV} {vs : List V} {us : List Value}, PyData.plainAll ds = true → RepL X.K X.w F vs ds → Vals vs us → ∃ as, ReadsAll s.heap us ds as
  | _, _, _, _, .nil, .nil => ⟨_, .nil⟩
  | _, _, _, hp, .cons h1 h2, .cons r1 r2 => by
    have hp' := by simpa [PyData.plainAll] using hp
    obtain ⟨as, q1⟩ := Rep.reads I hF hp'.1 h1 r1
    obtain ⟨bs, q2⟩ := RepL.reads I hF hp'.2 h2 r2
    exact ⟨_, .cons q1 q2⟩
end
theorem Opd.reads {d : AV} {v : V} {u : Value} (I : Inv X pins σ H s) (hF : Same F H) (hp : d.plain = true) (h : Opd X.K X.w F H v d) (r : RelV v u) : ∃ as, Reads s.heap u d as := by
  cases d with
  | list ds =>
    obtain ⟨a, xs, rfl, h, rl⟩ := h
    cases r
    obtain ⟨z, its, n, rv, hl, e⟩ := inv_lst I h
    obtain ⟨as, q⟩ := RepL.reads I hF (by simpa [PyData.plain] using hp) rl rv
    exact ⟨_, .list e rfl rfl (by simpa using q)⟩
  | dict ds => simp [PyData.plain] at hp
  | none => exact Rep.reads I hF hp h r
  | bool b => exact Rep.reads I hF hp h r
  | int b => exact Rep.reads I hF hp h r
  | str b => exact Rep.reads I hF hp h r
  | tuple b => exact Rep.reads I hF hp h r
end

theorem line_eq : line = sizeLine := by rw [sizeLine_eq]; rfl
theorem lstR_ok {xs : List AV} {d : AV} (h : lstR xs = .ok d) : d = .list xs ∧ xs.length ≤ sizeLine := by
  unfold lstR at h
  split at h
  · rename_i q; cases h; exact ⟨rfl, by rw [← line_eq]; exact q⟩
  · cases h
theorem tupR_ok {xs : List AV} {d : AV} (h : tupR xs = .ok d) : d = .tuple xs ∧ xs.length ≤ sizeLine := by
  unfold tupR at h
  split at h
  · rename_i q; cases h; exact ⟨rfl, by rw [← line_eq]; exact q⟩
  · cases h
section
variable {K : PySem.W.Frag} {w : World} {F H : Hp} {v : V}
theorem Opd.intE {i : Int} (h : Opd K w F H v (.int i)) : v = .int i := by cases (show Rep K w F v (.int i) from h); rfl
theorem Opd.boolE {i : Bool} (h : Opd K w F H v (.bool i)) : v = .bl i := by cases (show Rep K w F v (.bool i) from h); rfl
theorem Opd.strE {i : Str} (h : Opd K w F H v (.str i)) : v = .str i := by cases (show Rep K w F v (.str i) from h); rfl
theorem Opd.noneE (h : Opd K w F H v .none) : v = .non := by cases (show Rep K w F v .none from h); rfl
theorem Opd.tupE {ds : List AV} (h : Opd K w F H v (.tuple ds)) : ∃ a xs, v = .ref a ∧ SqT K F a xs ∧ RepL K w F xs ds := by
  cases (show Rep K w F v (.tuple ds) from h) with
  | tup h1 r1 => exact ⟨_, _, rfl, h1, r1⟩
theorem Opd.listE {ds : List AV} (h : Opd K w F H v (.list ds)) : ∃ a xs, v = .ref a ∧ LstX K H a xs ∧ RepL K w F xs ds := h
end

/-! ### two-place operators -/
/-- what an operator by values asks -/
def rOp (K : PySem.W.Frag) (w : World) (f : AV → AV → R AV) (b : Bool) : R2 := fun x y H Q => ∃ F dx dy d, Same F H ∧ Opd K w F H x dx ∧ Opd K w F H y dy ∧ f dx dy = .ok d ∧ Res K w b F H d Q
section
variable {X : Cx}
theorem rep_add {K : PySem.W.Frag} {w : World} {F : Hp} {n : Nat} {xs : List V} {ds : List AV} (r : RepL K w F xs ds) : RepL K w F (List.replicate n xs).flatten (List.replicate n ds).flatten := by
  induction n with
  | zero => exact .nil
  | succ n ih => rw [List.replicate_succ, List.replicate_succ, List.flatten_cons, List.flatten_cons]; exact r.append ih
/-- list + list -/
theorem cat_ok {l k : Addr} {xs zs : List V} {pins : List (Addr × Obj)} {s : Shared} {σ : L2.St} {H : Hp} {Q : VK} (I : Inv X pins σ H s) (h1 : LstX X.K H l xs) (h2 : LstX X.K H k zs) (hz : xs.length + zs.length ≤ sizeLine)
    (q : ∀ p, H p = none → Q (.ref p) (upd H p (.lst (xs ++ zs)))) : wpAny (model X.prog X.w) X.A (binaryOp .Add (.ref l) (.ref k)) (EP X pins σ Q) X.xe s := by
  obtain ⟨z, its, n, r, hl, e⟩ := inv_lst I h1
  obtain ⟨z2, its2, n2, r2, hl2, e2⟩ := inv_lst I h2
  refine PySem.P.add_list e e2 ?_ (by rw [List.size_toArray, List.size_toArray]; omega)
  have ea : its.toArray ++ its2.toArray = (its ++ its2).toArray := by simp
  rw [ea]
  exact ⟨.ref _, _, I.lnew (t' := s.toks) (r.append r2) (by rw [List.length_append]; omega), rfl, q _ I.fresh⟩
theorem op_addE {b : Bool} : OpR X (binaryOp .Add) (rOp X.K X.w (binop .add) b) := by
  intro pins s σ H x y v u Q I rx ry h
  obtain ⟨F, dx, dy, d, hF, ox, oy, e, q⟩ := h
  cases dx with
  | int i => cases dy with
    | int j =>
      have ex := ox.intE; have ey := oy.intE; subst ex ey
      have ed : PyData.int (i + j) = d := by simpa [binop] using e
      subst ed
      exact op_add pins s σ H _ _ v u Q I rx ry ⟨i, j, rfl, rfl, q.imm rfl hF (.int _)⟩
    | _ => simp [binop] at e
  | list xs => cases dy with
    | list ys =>
      obtain ⟨a, us, rfl, h1, r1⟩ := ox.listE
      obtain ⟨c, ws, rfl, h2, r2⟩ := oy.listE
      obtain ⟨rfl, hz⟩ := lstR_ok (show lstR (xs ++ ys) = .ok d from e)
      cases rx
      cases ry
      refine cat_ok I h1 h2 (by rw [r1.length, r2.length]; rw [List.length_append] at hz; exact hz) fun p hp => q.newL hF (r1.append r2) hp
    | _ => simp [binop] at e
  | tuple xs => cases dy with
    | tuple ys =>
      obtain ⟨a, us, rfl, h1, r1⟩ := ox.tupE
      obtain ⟨c, ws, rfl, h2, r2⟩ := oy.tupE
      obtain ⟨rfl, hz⟩ := tupR_ok (show tupR (xs ++ ys) = .ok d from e)
      have l1 := r1.length
      have l2 := r2.length
      rw [List.length_append] at hz
      refine op_catA pins s σ H _ _ v u Q I rx ry ⟨a, c, us, ws, rfl, rfl, Same.tup hF h1, Same.tup hF h2, by omega, fun hn => ?_, fun _ hn => ?_, fun _ _ p hp => q.newT hF (r1.append r2) hp⟩
      · subst hn
        cases r1
        exact q.imm rfl hF (.tup h2 (by simpa using r2))
      · subst hn
        cases r2
        exact q.imm rfl hF (.tup h1 (by simpa using r1))
    | _ => simp [binop] at e
  | str i => cases dy with
    | str j =>
      have ex := ox.strE; have ey := oy.strE; subst ex ey
      have e' : (if i.length + j.length ≤ line then R.ok (PyData.str (i ++ j)) else .bad) = .ok d := e
      split at e'
      · rename_i hz
        cases e'
        exact op_add_str pins s σ H _ _ v u Q I rx ry ⟨i, j, rfl, rfl, by rw [← line_eq]; exact hz, q.imm rfl hF (.str _)⟩
      · cases e'
    | _ => simp [binop] at e
  | _ => cases dy <;> simp [binop] at e
theorem op_subE {b : Bool} : OpR X (binaryOp .Sub) (rOp X.K X.w (binop .sub) b) := by
  intro pins s σ H x y v u Q I rx ry h
  obtain ⟨F, dx, dy, d, hF, ox, oy, e, q⟩ := h
  cases dx with
  | int i => cases dy with
    | int j =>
      have ex := ox.intE; have ey := oy.intE; subst ex ey
      have ed : PyData.int (i - j) = d := by simpa [binop] using e
      subst ed
      exact op_sub pins s σ H _ _ v u Q I rx ry ⟨i, j, rfl, rfl, q.imm rfl hF (.int _)⟩
    | _ => simp [binop] at e
  | _ => cases dy <;> simp [binop] at e
theorem small_of {i : Int} (h : smallI i = true) : -(2 ^ 64) < i ∧ i < 2 ^ 64 := by
  unfold smallI big at h
  simp only [Bool.and_eq_true, decide_eq_true_eq] at h
  constructor <;> omega
theorem wide_of {i : Int} (h : wide i = true) : i.natAbs.log2 < 8000 := of_decide_eq_true h
theorem rep_fold (its : List Value) : ∀ (m : Nat) (acc : List Value), List.foldl (fun x1 x2 => x1 ++ x2) acc.toArray (List.replicate m its.toArray) = (acc ++ (List.replicate m its).flatten).toArray
  | 0, acc => by simp
  | m + 1, acc => by
    rw [List.replicate_succ, List.foldl_cons]
    have e : acc.toArray ++ its.toArray = (acc ++ its).toArray := by simp
    rw [e, rep_fold its m (acc ++ its)]
    simp [List.replicate_succ]
theorem repV {us : List Value} {xs : List V} (r : Vals xs us) : ∀ n : Nat, Vals (List.replicate n xs).flatten (List.replicate n us).flatten
  | 0 => .nil
  | n + 1 => by rw [List.replicate_succ, List.replicate_succ, List.flatten_cons, List.flatten_cons]; exact Vals.append r (repV r n)
theorem repL_ok {l : Addr} {k : Int} {v u : Value} {xs : List V} {pins : List (Addr × Obj)} {s : Shared} {σ : L2.St} {H : Hp} {Q : VK} (I : Inv X pins σ H s) (rx : RelV (.ref l) v) (ry : RelV (.int k) u) (h1 : LstX X.K H l xs) (h0 : 0 ≤ k) (h2 : k < 1000) (hz : xs.length * k.toNat ≤ sizeLine)
    (q : ∀ p, H p = none → Q (.ref p) (upd H p (.lst (List.replicate k.toNat xs).flatten))) : wpAny (model X.prog X.w) X.A (binaryOp .Mult v u) (EP X pins σ Q) X.xe s := by
  obtain ⟨z, its, n, r, hl, e⟩ := inv_lst I h1
  cases rx
  obtain ⟨t, rfl⟩ := ry
  have len1 : its.toArray.size * k.toNat ≤ sizeLine := by rw [List.size_toArray, ← hl]; exact hz
  have cap1 : ¬ its.toArray.size * k.toNat > (2 ^ 63 - 1) / 8 := by
    have big1 : (sizeLine : Nat) ≤ (2 ^ 63 - 1) / 8 := by decide
    omega
  have fit1 : ¬ (!Builtin.List.listFitsIndex k) = true := by
    rw [fitsIndex_both (by omega) (by omega)]; decide
  have long1 : ¬ Builtin.List.listTooLong (its.toArray.size * k.toNat) = true := by
    rw [notLongL len1]; decide
  have new1 : List.foldl (fun x1 x2 => x1 ++ x2) #[] (List.replicate (if its.toArray.isEmpty = true then 0 else k.toNat) its.toArray) = (List.replicate k.toNat its).flatten.toArray := by
    have f1 := fun m => rep_fold its m []
    cases its with
    | nil => simp
    | cons c r' =>
      rw [if_neg (by simp)]
      simpa using f1 k.toNat
  have tl : s.TypeIs (.ref l) "list" := ⟨_, e, rfl⟩
  have inner := fun (Q' : Value → Shared → Prop) E' hq => call_meets (prog := X.prog) (w := X.w) (A := X.A) (Q := Q') (E := E') F.slot_list_mul tl F.entry_list_mul (F.args_list_mul_2 _ _) (AutoListH.list___mul___list_int_3 l its.toArray n k t fit1 cap1 long1) ⟨e, hq⟩
  refine wpAny_binaryOp_repeat_ref (T := "list") (U := "int") (by decide) tl (fun s' => typeIs_int s' k t) noFill_list_mul
    F.fills_int_mul F.slot_int_rmul repeat_list F.slot_int_index.lookup ?_
  refine call_meets F.slot_int_rmul (typeIs_int s k t) F.entry_int_rmul (F.args_int_rmul_2 _ _) (int___rmul___int_list k t l its.toArray n) ⟨e, rfl, tl, ?_⟩
  refine inner _ _ ?_
  rw [new1]
  refine ⟨.ref _, _, I.lnew (t' := s.toks) (repV r k.toNat) ?_, rfl, q _ I.fresh⟩
  rw [List.length_flatten, List.map_replicate, List.sum_replicate_nat, Nat.mul_comm]
  exact hz
theorem op_mulE {b : Bool} : OpR X (binaryOp .Mult) (rOp X.K X.w (binop .mul) b) := by
  intro pins s σ H x y v u Q I rx ry h
  obtain ⟨F, dx, dy, d, hF, ox, oy, e, q⟩ := h
  cases dx with
  | int i => cases dy with
    | int j =>
      have ex := ox.intE; have ey := oy.intE; subst ex ey
      have e' : (if (smallI i || smallI j || (wide i && wide j)) = true then R.ok (PyData.int (i * j)) else .bad) = .ok d := e
      split at e'
      · rename_i hc
        cases e'
        simp only [Bool.or_eq_true, Bool.and_eq_true] at hc
        rcases hc with (hc | hc) | ⟨hc, hc2⟩
        · exact op_mul pins s σ H _ _ v u Q I rx ry ⟨i, j, rfl, rfl, .inl (small_of hc), q.imm rfl hF (.int _)⟩
        · exact op_mul pins s σ H _ _ v u Q I rx ry ⟨i, j, rfl, rfl, .inr (small_of hc), q.imm rfl hF (.int _)⟩
        · exact op_mulW pins s σ H _ _ v u Q I rx ry ⟨i, j, rfl, rfl, by unfold CMulW; have := wide_of hc; have := wide_of hc2; omega, q.imm rfl hF (.int _)⟩
      · cases e'
    | _ => simp [binop] at e
  | list xs => cases dy with
    | int k =>
      obtain ⟨a, us, rfl, h1, r1⟩ := ox.listE
      have ey := oy.intE; subst ey
      have e' : (if (decide (0 ≤ k) && decide (k < 1000)) = true then lstR (List.flatten (List.replicate k.toNat xs)) else .bad) = .ok d := e
      split at e'
      · rename_i hc
        obtain ⟨rfl, hz⟩ := lstR_ok e'
        simp only [Bool.and_eq_true, decide_eq_true_eq] at hc
        rw [List.length_flatten, List.map_replicate, List.sum_replicate_nat, ← r1.length] at hz
        exact repL_ok I rx ry h1 hc.1 hc.2 (by rw [Nat.mul_comm]; exact hz) fun p hp => q.newL hF (rep_add r1) hp
      · cases e'
    | _ => simp [binop] at e
  | tuple xs => cases dy with
    | int k =>
      obtain ⟨a, us, rfl, h1, r1⟩ := ox.tupE
      have ey := oy.intE; subst ey
      have e' : (if (decide (-1000 ≤ k) && decide (k ≤ 1000) && decide (xs.length ≤ 1000)) = true then tupR (List.flatten (List.replicate k.toNat xs)) else .bad) = .ok d := e
      split at e'
      · rename_i hc
        obtain ⟨rfl, hz⟩ := tupR_ok e'
        simp only [Bool.and_eq_true, decide_eq_true_eq] at hc
        by_cases hne : us = []
        · subst hne
          cases r1
          refine op_rep1 pins s σ H _ _ v u Q I rx ry ⟨a, k, [], rfl, rfl, Same.tup hF h1, hc.1.2, hc.1.1, .inl ⟨.inl rfl, ?_⟩⟩
          have e0 : (List.replicate k.toNat ([] : List AV)).flatten = [] := by simp
          rw [e0] at q
          exact q.imm rfl hF (.tup h1 .nil)
        · by_cases hk : k = 1
          · subst hk
            refine op_rep1 pins s σ H _ _ v u Q I rx ry ⟨a, 1, us, rfl, rfl, Same.tup hF h1, hc.1.2, hc.1.1, .inl ⟨.inr rfl, ?_⟩⟩
            have e0 : (List.replicate (1 : Int).toNat xs).flatten = xs := by simp
            rw [e0] at q
            exact q.imm rfl hF (.tup h1 r1)
          · by_cases h2 : 2 ≤ k
            · exact op_repT pins s σ H _ _ v u Q I rx ry ⟨a, k, us, rfl, rfl, Same.tup hF h1, hne, h2, by omega, by rw [r1.length]; exact hc.2, fun p hp => q.newT hF (rep_add r1) hp⟩
            · refine op_rep1 pins s σ H _ _ v u Q I rx ry ⟨a, k, us, rfl, rfl, Same.tup hF h1, hc.1.2, hc.1.1, .inr ⟨⟨hne, by omega⟩, fun p hp => ?_⟩⟩
              have e0 : (List.replicate k.toNat xs).flatten = [] := by
                have : k.toNat = 0 := by omega
                rw [this]; rfl
              rw [e0] at q
              exact q.newT hF .nil hp
      · cases e'
    | _ => simp [binop] at e
  | _ => cases dy <;> simp [binop] at e
end
end Ev
end

section
set_option linter.all false
set_option autoImplicit false
set_option maxRecDepth 100000
/-! EvD: comparisons by values. -/
namespace Ev
open PySem PySem.Spec PyProof.Rows L2
mutual
theorem ltD_eq : ∀ {x y : AV}, PySem.W.alike x y = true → ltD x y = PySem.W.dataLt x y
  | .int a, .int b, _ => by rw [PySem.W.dataLt_int]; rfl
  | .bool a, .bool b, _ => by rw [PySem.W.dataLt_bool]; cases a <;> cases b <;> rfl
  | .str a, .str b, _ => by rw [PySem.W.dataLt_str]; rfl
  | .tuple xs, .tuple ys, h => by
    rw [PySem.W.dataLt_tuple]
    exact ltL_eq (by simpa [PySem.W.alike] using h)
  | .list xs, .list ys, h => by
    rw [PySem.W.dataLt_list]
    exact ltL_eq (by simpa [PySem.W.alike] using h)
  | .none, .none, _ => rfl
theorem ltL_eq : ∀ {xs ys : List AV}, PySem.W.alikeAll xs ys = true → ltL xs ys = PyProof.Rows.lexLt itemOrd (PySem.W.keyToksAll xs) (PySem.W.keyToksAll ys)
  | [], [], _ => by rw [ltL, PySem.W.keyToksAll]; rfl
  | [], y :: ys, _ => by rw [ltL, PySem.W.keyToksAll, PySem.W.keyToksAll]; rfl
  | x :: xs, [], _ => by rw [ltL, PySem.W.keyToksAll, PySem.W.keyToksAll]; rfl
  | x :: xs, y :: ys, h => by
    obtain ⟨h1, h2⟩ := PySem.W.alike_all_cons h
    rw [PySem.W.dataLt_cons h1, ltL, ltD_eq h1, ltL_eq h2]
end
section
variable {X : Cx}
theorem fin_b {pins : List (Addr × Obj)} {σ : L2.St} {H F : Hp} {s : Shared} {Q : VK} {b k : Bool} {d : AV} (I : Inv X pins σ H s) (hF : Same F H) (e : PyData.bool k = d) (q : Res X.K X.w b F H d Q) : EP X pins σ Q (.bool k) s := by
  subst e
  exact ⟨.bl k, H, I, rfl, q.imm rfl hF (.bl k)⟩
theorem eqop_ok {a b : AV} {k : Bool} (h : eqop a b = .ok k) : a.plain = true ∧ b.plain = true ∧ Nat.min a.depth b.depth ≤ 48 ∧ PyData.eqv a b = k := by
  unfold eqop dOk at h
  split at h
  · rename_i hc
    simp only [Bool.and_eq_true, decide_eq_true_eq] at hc
    cases h
    exact ⟨hc.1.1, hc.1.2, hc.2, rfl⟩
  · cases h
theorem op_eqE {b : Bool} (hu : X.A.units + 64 < cLine) : OpR X (compareOp .Eq) (rOp X.K X.w (cmpop .eq) b) := by
  intro pins s σ H x y v u Q I rx ry h
  obtain ⟨F, dx, dy, d, hF, ox, oy, e, q⟩ := h
  obtain ⟨k, e1, e2⟩ := R.bind_eq_ok (show (eqop dx dy >>= fun k => R.ok (PyData.bool k)) = .ok d from e)
  obtain ⟨p1, p2, p3, rfl⟩ := eqop_ok e1
  obtain ⟨as, r1⟩ := ox.reads I hF p1 rx
  obtain ⟨bs, r2⟩ := oy.reads I hF p2 ry
  have p3 : min dx.depth dy.depth ≤ 48 := p3
  exact SeqAt.eq_plain r1 r2 p1 p2 (by omega) (fin_b I hF (by cases e2; rfl) q)
theorem op_neE {b : Bool} (hu : X.A.units + 64 < cLine) : OpR X (compareOp .NotEq) (rOp X.K X.w (cmpop .ne) b) := by
  intro pins s σ H x y v u Q I rx ry h
  obtain ⟨F, dx, dy, d, hF, ox, oy, e, q⟩ := h
  obtain ⟨k, e1, e2⟩ := R.bind_eq_ok (show (eqop dx dy >>= fun k => R.ok (PyData.bool (!k))) = .ok d from e)
  obtain ⟨p1, p2, p3, rfl⟩ := eqop_ok e1
  obtain ⟨as, r1⟩ := ox.reads I hF p1 rx
  obtain ⟨bs, r2⟩ := oy.reads I hF p2 ry
  have p3 : min dx.depth dy.depth ≤ 48 := p3
  exact SeqAt.ne_plain r1 r2 p1 p2 (by omega) (fin_b I hF (by cases e2; rfl) q)
theorem ordop_ok {f : AV → AV → Bool} {a b d : AV} (h : ordop f a b = .ok d) : PySem.W.alike a b = true ∧ a.plain = true ∧ b.plain = true ∧ min a.depth b.depth ≤ 48 ∧ a ≠ .none ∧ d = .bool (f a b) := by
  unfold ordop dOk at h
  split at h
  · rename_i hc
    simp only [Bool.and_eq_true, decide_eq_true_eq] at hc
    obtain ⟨⟨⟨⟨h1, h2⟩, h3⟩, h4⟩, h5⟩ := hc
    cases h
    exact ⟨h1, h2, h3, h4, (fun z => by subst z; cases h5), rfl⟩
  · cases h
theorem op_ltE {b : Bool} (hu : X.A.units + 64 < cLine) : OpR X (compareOp .Lt) (rOp X.K X.w (cmpop .lt) b) := by
  intro pins s σ H x y v u Q I rx ry ⟨F, dx, dy, d, hF, ox, oy, e, q⟩
  obtain ⟨h1, h2, h3, h4, h5, h6⟩ := ordop_ok (show ordop ltD dx dy = .ok d from e)
  obtain ⟨as, r1⟩ := ox.reads I hF h2 rx
  obtain ⟨bs, r2⟩ := oy.reads I hF h3 ry
  exact PySem.W.lt_data r1 r2 h1 h5 (by omega) (fin_b I hF (by rw [h6, ltD_eq h1]) q)
theorem op_gtE {b : Bool} (hu : X.A.units + 64 < cLine) : OpR X (compareOp .Gt) (rOp X.K X.w (cmpop .gt) b) := by
  intro pins s σ H x y v u Q I rx ry ⟨F, dx, dy, d, hF, ox, oy, e, q⟩
  obtain ⟨h1, h2, h3, h4, h5, h6⟩ := ordop_ok (show ordop (fun a b => ltD b a) dx dy = .ok d from e)
  obtain ⟨as, r1⟩ := ox.reads I hF h2 rx
  obtain ⟨bs, r2⟩ := oy.reads I hF h3 ry
  exact PySem.W.gt_data r1 r2 h1 h5 (by omega) (fin_b I hF (by rw [h6, ltD_eq (by rw [PySem.W.alike_comm]; exact h1)]) q)
theorem op_leE {b : Bool} (hu : X.A.units + 64 < cLine) : OpR X (compareOp .LtE) (rOp X.K X.w (cmpop .le) b) := by
  intro pins s σ H x y v u Q I rx ry ⟨F, dx, dy, d, hF, ox, oy, e, q⟩
  obtain ⟨h1, h2, h3, h4, h5, h6⟩ := ordop_ok (show ordop (fun a b => !ltD b a) dx dy = .ok d from e)
  obtain ⟨as, r1⟩ := ox.reads I hF h2 rx
  obtain ⟨bs, r2⟩ := oy.reads I hF h3 ry
  exact PySem.W.le_data r1 r2 h1 h5 (by omega) (fin_b I hF (by rw [h6, ltD_eq (by rw [PySem.W.alike_comm]; exact h1)]) q)
theorem op_geE {b : Bool} (hu : X.A.units + 64 < cLine) : OpR X (compareOp .GtE) (rOp X.K X.w (cmpop .ge) b) := by
  intro pins s σ H x y v u Q I rx ry ⟨F, dx, dy, d, hF, ox, oy, e, q⟩
  obtain ⟨h1, h2, h3, h4, h5, h6⟩ := ordop_ok (show ordop (fun a b => !ltD a b) dx dy = .ok d from e)
  obtain ⟨as, r1⟩ := ox.reads I hF h2 rx
  obtain ⟨bs, r2⟩ := oy.reads I hF h3 ry
  exact PySem.W.ge_data r1 r2 h1 h5 (by omega) (fin_b I hF (by rw [h6, ltD_eq h1]) q)
theorem none_of {K : PySem.W.Frag} {w : World} {F H : Hp} {v : V} {d : AV} (h : Opd K w F H v d) : decide (v = .non) = isNone d := by
  cases d with
  | none => rw [h.noneE]; rfl
  | bool b => rw [h.boolE]; rfl
  | int b => rw [h.intE]; rfl
  | str b => rw [h.strE]; rfl
  | list ds => obtain ⟨a, xs, rfl, _⟩ := h; rfl
  | tuple ds => obtain ⟨a, xs, rfl, _⟩ := h.tupE; rfl
  | dict ds => obtain ⟨a, ep, L, tk, rfl, _⟩ := h; rfl
theorem op_isE {b : Bool} : OpR X (compareOp .Is) (rOp X.K X.w (cmpop .isN) b) := by
  intro pins s σ H x y v u Q I rx ry ⟨F, dx, dy, d, hF, ox, oy, e, q⟩
  cases dy with
  | none =>
    have e' : R.ok (PyData.bool (isNone dx)) = .ok d := e
    refine op_isN pins s σ H x y v u Q I rx ry ⟨oy.noneE, ?_⟩
    rw [none_of ox]
    cases e'
    exact q.imm rfl hF (.bl _)
  | _ => simp [cmpop] at e
theorem op_isnotE {b : Bool} : OpR X (compareOp .IsNot) (rOp X.K X.w (cmpop .notN) b) := by
  intro pins s σ H x y v u Q I rx ry ⟨F, dx, dy, d, hF, ox, oy, e, q⟩
  cases dy with
  | none =>
    have e' : R.ok (PyData.bool (!isNone dx)) = .ok d := e
    refine op_notN pins s σ H x y v u Q I rx ry ⟨oy.noneE, ?_⟩
    rw [none_of ox]
    cases e'
    exact q.imm rfl hF (.bl _)
  | _ => simp [cmpop] at e
end
end Ev
end

section
set_option linter.all false
set_option autoImplicit false
set_option maxRecDepth 100000
/-! EvE: the state's own laws, the readings. -/
namespace Ev
open PySem PySem.Spec PyProof.Rows L2
section
variable {K : PySem.W.Frag} {w : World} {IO : List (Nat × Addr)} {F0 F F' B B' H H' : Hp} {O O' : Sl} {σ : L2.St} {env : Env}
theorem SR.congr (S : SR K w IO F0 F B O σ H env) (h : ∀ i, i ∈ O' ↔ i ∈ O) : SR K w IO F0 F B O' σ H env :=
  ⟨S.fh, S.bh, S.f0, S.fb, fun i d e => let ⟨v, h1, h2, h3⟩ := S.slot i d e; ⟨v, h1, fun q => h2 ((h i).mp q), fun q => h3 fun z => q ((h i).mpr z)⟩,
    fun i j a d e h1 h2 => S.apart i j a d e ((h i).mp h1) ((h j).mp h2), S.len, fun p hp q => S.io p hp ((h _).mp q)⟩
/-- fewer slots owned -/
theorem SR.shrinks (S : SR K w IO F0 F B O σ H env) : ∀ (l : List Nat), ∃ F', SR K w IO F0 F' B (l.foldl er O) σ H env ∧ Same F F' := by
  intro l
  induction l generalizing F O with
  | nil => exact ⟨F, S, Same.refl _⟩
  | cons i l ih =>
    obtain ⟨F1, S1, s1, _⟩ := S.freeze (i := i)
    obtain ⟨F2, S2, s2⟩ := ih S1
    exact ⟨F2, S2, s1.trans s2⟩
theorem mem_foldl_er : ∀ (l : List Nat) {O : Sl} {i : Nat}, i ∈ l.foldl er O ↔ i ∈ O ∧ i ∉ l
  | [], O, i => by simp
  | j :: l, O, i => by
    rw [List.foldl_cons, mem_foldl_er l]
    simp only [er, List.mem_filter, List.mem_cons, not_or, bne_iff_ne, ne_eq, decide_eq_true_eq]
    constructor
    · rintro ⟨⟨h1, h2⟩, h3⟩; exact ⟨h1, h2, h3⟩
    · rintro ⟨h1, h2, h3⟩; exact ⟨⟨h1, h2⟩, h3⟩
theorem sub_mem {A B : Sl} (h : sub A B = true) {i : Nat} (hi : i ∈ A) : i ∈ B := by
  have := List.all_eq_true.mp h i hi
  simpa using this
theorem SR.shrink (S : SR K w IO F0 F B O σ H env) (h : ∀ i ∈ O', i ∈ O) : ∃ F', SR K w IO F0 F' B O' σ H env ∧ Same F F' := by
  obtain ⟨F', S', s⟩ := S.shrinks (O.filter fun i => !O'.contains i)
  refine ⟨F', S'.congr fun i => ?_, s⟩
  rw [mem_foldl_er]
  simp only [List.mem_filter, Bool.not_eq_true', List.contains_eq_mem, decide_eq_false_iff_not, not_and, Decidable.not_not]
  exact ⟨fun q => ⟨h i q, fun _ => q⟩, fun q => q.2 q.1⟩
/-- fewer things of others -/
theorem SR.less (S : SR K w IO F0 F B' O σ H env) (s : Same B B') : SR K w IO F0 F B O σ H env where
  fh := S.fh
  bh := s.trans S.bh
  f0 := S.f0
  fb := fun a o e => (S.fb a o e).imp id fun q => s.free q
  slot := fun i d e => by
    obtain ⟨v, h1, h2, h3⟩ := S.slot i d e
    refine ⟨v, h1, fun q => ?_, h3⟩
    have o := h2 q
    cases d with
    | list ds => obtain ⟨a, xs, e1, f1, f2, f3, f4⟩ := o; exact ⟨a, xs, e1, f1, s.free f2, f3, f4⟩
    | dict ds => obtain ⟨a, ep, L, tk, e1, f1, f2, f3, f4⟩ := o; exact ⟨a, ep, L, tk, e1, f1, s.free f2, f3, f4⟩
    | none => exact o
    | bool b => exact o
    | int b => exact o
    | str b => exact o
    | tuple b => exact o
  apart := S.apart
  len := S.len
  io := S.io
/-- a mutable value's address -/
theorem OwnV.addr {v : V} {d : AV} (o : OwnV K w F B H v d) (h : mutA d = true) : ∃ a u, v = .ref a ∧ F a = none ∧ B a = none ∧ H a = some u := by
  cases d with
  | list ds => obtain ⟨a, xs, e1, f1, f2, f3, f4⟩ := o; exact ⟨a, _, e1, f1, f2, f3⟩
  | dict ds => obtain ⟨a, ep, L, tk, e1, f1, f2, f3, f4⟩ := o; exact ⟨a, _, e1, f1, f2, f3⟩
  | _ => cases h
/-- what holds a thing of its own, under another heap -/
theorem OwnV.at {v : V} {d : AV} (o : OwnV K w F B H v d) (ff : Same F F') (h : ∀ a u, v = .ref a → mutA d = true → F a = none → B a = none → H a = some u → F' a = none ∧ B' a = none ∧ H' a = some u) : OwnV K w F' B' H' v d := by
  cases d with
  | list ds =>
    obtain ⟨a, xs, e1, f1, f2, f3, f4⟩ := o
    obtain ⟨g1, g2, g3⟩ := h a _ e1 rfl f1 f2 f3
    exact ⟨a, xs, e1, g1, g2, g3, f4.mono ff⟩
  | dict ds =>
    obtain ⟨a, ep, L, tk, e1, f1, f2, f3, f4⟩ := o
    obtain ⟨g1, g2, g3⟩ := h a _ e1 rfl f1 f2 f3
    exact ⟨a, ep, L, tk, e1, g1, g2, g3, f4.mono ff⟩
  | none => exact Rep.mono ff o
  | bool b => exact Rep.mono ff o
  | int b => exact Rep.mono ff o
  | str b => exact Rep.mono ff o
  | tuple b => exact Rep.mono ff o
/-- no owned slot stands at a -/
def NoSlot (O : Sl) (σ : L2.St) (env : Env) (a : Addr) : Prop := ∀ j ∈ O, ∀ e, env[j]? = some (some e) → mutA e = true → σ[j]? ≠ some (some (.ref a))
theorem SR.noSlot {a : Addr} (S : SR K w IO F0 F B O σ H env) (h : F a ≠ none ∨ B a ≠ none ∨ H a = none) : NoSlot O σ env a := fun j hj e he hm hs => by
  obtain ⟨v, h1, h2, _⟩ := S.slot j e he
  obtain ⟨b, u, e1, f1, f2, f3⟩ := (h2 hj).addr hm
  rw [h1, e1] at hs
  cases hs
  rcases h with q | q | q
  · exact q f1
  · exact q f2
  · rw [f3] at q; cases q
/-- an object of nobody here is written, among the things of others -/
theorem SR.put {a : Addr} {o : HO} (S : SR K w IO F0 F B O σ H env) (hF : F a = none) (hn : NoSlot O σ env a) : SR K w IO F0 F (upd B a o) O σ (upd H a o) env where
  fh := fun b u e => by
    by_cases hb : b = a
    · subst hb; rw [hF] at e; cases e
    · rw [upd_ne hb]; exact S.fh _ _ e
  bh := fun b u e => by
    by_cases hb : b = a
    · subst hb; rw [upd_same] at e ⊢; exact e
    · rw [upd_ne hb] at e ⊢; exact S.bh _ _ e
  f0 := S.f0
  fb := fun b u e => by
    by_cases hb : b = a
    · subst hb; rw [hF] at e; cases e
    · rw [upd_ne hb]; exact S.fb _ _ e
  slot := fun i d e => by
    obtain ⟨v, h1, h2, h3⟩ := S.slot i d e
    refine ⟨v, h1, fun q => (h2 q).at (Same.refl _) fun b u eb hm f1 f2 f3 => ?_, h3⟩
    have hb : b ≠ a := fun z => hn i q d e hm (by rw [h1, eb, z])
    exact ⟨f1, by rw [upd_ne hb]; exact f2, by rw [upd_ne hb]; exact f3⟩
  apart := S.apart
  len := S.len
  io := S.io
/-- slots are forgotten -/
theorem SR.forget {σ' : L2.St} {env' : Env} (S : SR K w IO F0 F B O σ H env) (l1 : env'.length = env.length) (l2 : σ'.length = σ.length) (h : ∀ (i : Nat) (d : AV), env'[i]? = some (some d) → env[i]? = some (some d) ∧ σ'[i]? = σ[i]?) (hio : ∀ i ∈ O, σ'[i]? = σ[i]?) : SR K w IO F0 F B O σ' H env' where
  fh := S.fh
  bh := S.bh
  f0 := S.f0
  fb := S.fb
  slot := fun i d e => by
    obtain ⟨h1, h2⟩ := h i d e
    obtain ⟨v, g1, g2, g3⟩ := S.slot i d h1
    exact ⟨v, by rw [h2]; exact g1, g2, g3⟩
  apart := fun i j a d e hi hj e1 e2 m1 m2 s1 s2 => by
    obtain ⟨p1, p2⟩ := h i d e1
    obtain ⟨q1, q2⟩ := h j e e2
    rw [p2] at s1
    rw [q2] at s2
    exact S.apart i j a d e hi hj p1 q1 m1 m2 s1 s2
  len := by rw [l1, l2]; exact S.len
  io := fun p hp q => by rw [hio p.1 q]; exact S.io p hp q
/-- a slot is stored: a frozen value -/
theorem SR.store {i : Nat} {v : V} {d : AV} (S : SR K w IO F0 F B O σ H env) (hi : i ∉ O) (hv : Rep K w F v d) : SR K w IO F0 F B O (σ.set i (some v)) H (env.set i (some d)) where
  fh := S.fh
  bh := S.bh
  f0 := S.f0
  fb := S.fb
  slot := fun j e he => by
    by_cases hj : i = j
    · subst hj
      rw [List.getElem?_set] at he
      by_cases hl : i < env.length
      · simp [hl] at he
        subst he
        exact ⟨v, by rw [List.getElem?_set]; simp [← S.len, hl], fun q => absurd q hi, fun _ => hv⟩
      · simp [hl] at he
    · rw [List.getElem?_set_ne hj] at he ⊢
      exact S.slot j e he
  apart := fun j k a e f hj hk e1 e2 m1 m2 s1 s2 => by
    have n1 : i ≠ j := fun z => hi (z ▸ hj)
    have n2 : i ≠ k := fun z => hi (z ▸ hk)
    rw [List.getElem?_set_ne n1] at e1 s1
    rw [List.getElem?_set_ne n2] at e2 s2
    exact S.apart j k a e f hj hk e1 e2 m1 m2 s1 s2
  len := by rw [List.length_set, List.length_set]; exact S.len
  io := fun p hp q => by rw [List.getElem?_set_ne (fun z => hi (by rw [z]; exact q))]; exact S.io p hp q
/-- a slot is stored: what it alone holds -/
theorem SR.storeO {i : Nat} {v : V} {d : AV} (S : SR K w IO F0 F B O σ H env) (hi : i ∉ O) (hio : ∀ p ∈ IO, p.1 ≠ i) (hv : OwnV K w F B H v d) (hn : ∀ a, v = .ref a → mutA d = true → NoSlot O σ env a) : SR K w IO F0 F B (i :: O) (σ.set i (some v)) H (env.set i (some d)) where
  fh := S.fh
  bh := S.bh
  f0 := S.f0
  fb := S.fb
  slot := fun j e he => by
    by_cases hj : i = j
    · subst hj
      rw [List.getElem?_set] at he
      by_cases hl : i < env.length
      · simp [hl] at he
        subst he
        exact ⟨v, by rw [List.getElem?_set]; simp [← S.len, hl], fun _ => hv, fun q => absurd List.mem_cons_self q⟩
      · simp [hl] at he
    · rw [List.getElem?_set_ne hj] at he ⊢
      obtain ⟨u, h1, h2, h3⟩ := S.slot j e he
      exact ⟨u, h1, fun q => h2 ((List.mem_cons.mp q).resolve_left (Ne.symm hj)), fun q => h3 fun z => q (List.mem_cons_of_mem _ z)⟩
  apart := fun j k a e f hj hk e1 e2 m1 m2 s1 s2 => by
    have get : ∀ {j : Nat} {e : AV}, (env.set i (some d))[j]? = some (some e) → i = j → e = d ∧ ∀ a : Addr, (σ.set i (some v))[j]? = some (some (V.ref a)) → v = .ref a := fun {j e} he z => by
      subst z
      rw [List.getElem?_set] at he
      by_cases hl : i < env.length
      · simp [hl] at he
        refine ⟨he.symm, fun a q => ?_⟩
        rw [List.getElem?_set] at q
        simp [← S.len, hl] at q
        exact q
      · simp [hl] at he
    have old : ∀ {j k : Nat} {e f : AV}, i = j → i ≠ k → k ∈ i :: O → (env.set i (some d))[j]? = some (some e) → (env.set i (some d))[k]? = some (some f) → mutA e = true → mutA f = true → (σ.set i (some v))[j]? = some (some (V.ref a)) → (σ.set i (some v))[k]? = some (some (V.ref a)) → False := fun {j k e f} z n hk e1 e2 m1 m2 s1 s2 => by
      obtain ⟨g1, g2⟩ := get e1 z
      rw [List.getElem?_set_ne n] at e2 s2
      exact hn a (g2 a s1) (g1 ▸ m1) k ((List.mem_cons.mp hk).resolve_left (Ne.symm n)) f e2 m2 s2
    by_cases zj : i = j
    · by_cases zk : i = k
      · exact zj.symm.trans zk
      · exact (old zj zk hk e1 e2 m1 m2 s1 s2).elim
    · by_cases zk : i = k
      · exact (old zk zj hj e2 e1 m2 m1 s2 s1).elim
      · rw [List.getElem?_set_ne zj] at e1 s1
        rw [List.getElem?_set_ne zk] at e2 s2
        exact S.apart j k a e f ((List.mem_cons.mp hj).resolve_left (Ne.symm zj)) ((List.mem_cons.mp hk).resolve_left (Ne.symm zk)) e1 e2 m1 m2 s1 s2
  len := by rw [List.length_set, List.length_set]; exact S.len
  io := fun p hp q => by rw [List.getElem?_set_ne (Ne.symm (hio p hp))]; exact S.io p hp ((List.mem_cons.mp q).resolve_left (hio p hp))
/-- the list or dict of an owned slot is changed in its place -/
theorem SR.change {i : Nat} {a : Addr} {d d' : AV} {o : HO} (S : SR K w IO F0 F B O σ H env) (hi : i ∈ O) (hd : env[i]? = some (some d)) (hm : mutA d = true) (hs : σ[i]? = some (some (.ref a)))
    (hv : OwnV K w F B (upd H a o) (.ref a) d') : SR K w IO F0 F B O σ (upd H a o) (env.set i (some d')) := by
  obtain ⟨v, h1, h2, _⟩ := S.slot i d hd
  rw [hs] at h1
  cases h1
  obtain ⟨b, u, e1, f1, f2, f3⟩ := (h2 hi).addr hm
  cases e1
  have hil : i < env.length := (List.getElem?_eq_some_iff.mp hd).1
  have now : ∀ {j : Nat} {e : AV}, (env.set i (some d'))[j]? = some (some e) → i = j → e = d' := fun {j e} he z => by
    subst z
    rw [List.getElem?_set_self hil] at he
    cases he; rfl
  refine ⟨fun b u e => ?_, fun b u e => ?_, S.f0, S.fb, fun j e he => ?_, fun j k b e f hj hk e1 e2 m1 m2 s1 s2 => ?_, by rw [List.length_set]; exact S.len, S.io⟩
  · rw [upd_ne (fun z => by subst z; rw [f1] at e; cases e)]; exact S.fh _ _ e
  · rw [upd_ne (fun z => by subst z; rw [f2] at e; cases e)]; exact S.bh _ _ e
  · by_cases hj : i = j
    · subst hj
      obtain rfl := now he rfl
      exact ⟨.ref a, hs, fun _ => hv, fun q => absurd hi q⟩
    · rw [List.getElem?_set_ne hj] at he
      obtain ⟨v, g1, g2, g3⟩ := S.slot j e he
      refine ⟨v, g1, fun q => (g2 q).at (Same.refl _) fun b u eb hmb k1 k2 k3 => ⟨k1, k2, ?_⟩, g3⟩
      rw [upd_ne fun z => ?_]
      · exact k3
      · subst z
        exact hj (S.apart i j b d e hi q hd he hm hmb hs (by rw [g1, eb]))
  · have same : ∀ {j : Nat} {e : AV}, (env.set i (some d'))[j]? = some (some e) → mutA e = true → ∃ e0, env[j]? = some (some e0) ∧ mutA e0 = true := fun {j e} he hme => by
      by_cases hj : i = j
      · subst hj; exact ⟨d, hd, hm⟩
      · rw [List.getElem?_set_ne hj] at he; exact ⟨e, he, hme⟩
    obtain ⟨x, x1, x2⟩ := same e1 m1
    obtain ⟨y, y1, y2⟩ := same e2 m2
    exact S.apart j k b x y hj hk x1 y1 x2 y2 s1 s2
end

/-! ### readings -/
/-- val: a frozen value; new: what is made anew is wanted as its own; opd: an operand -/
inductive Md | val | new | opd deriving DecidableEq
/-- behind an expression -/
structure Pst (K : PySem.W.Frag) (w : World) (IO : List (Nat × Addr)) (F0 F B : Hp) (O' : Sl) (σ : L2.St) (H : Hp) (env' : Env) (pr : Bool) (F' H' : Hp) : Prop where
  sr : SR K w IO F0 F' B O' σ H' env'
  ff : Same F F'
  hh : pr = true → Same H H'
def owM (m : Md) (O : Sl) (x : X) : Option Sl := match m with
  | .opd => bor x O (owE O x)
  | _ => owE O x
/-- a list or dict that is looked at: not among the things of others, or frozen -/
def OB (K : PySem.W.Frag) (w : World) (F' B H' : Hp) (v : V) (d : AV) : Prop := mutA d = true → (∃ a u, v = .ref a ∧ B a = none ∧ H' a = some u) ∨ Rep K w F' v d
theorem Rep.ob {K : PySem.W.Frag} {w : World} {F B H : Hp} {v : V} {d : AV} (r : Rep K w F v d) : OB K w F B H v d := fun _ => .inr r
/-- what is known of the value -/
def RV (K : PySem.W.Frag) (w : World) (m : Md) (x : X) (F' B H' : Hp) (O' : Sl) (σ : L2.St) (env' : Env) (v : V) (d : AV) : Prop := match m with
  | .val => Rep K w F' v d
  | .opd => Opd K w F' H' v d ∧ OB K w F' B H' v d
  | .new => if freshE x = true then OwnV K w F' B H' v d ∧ ∀ a, v = .ref a → mutA d = true → NoSlot O' σ env' a else Rep K w F' v d
def rd (K : PySem.W.Frag) (w : World) (cal : Cal) (m : Md) (x : X) : TE := fun σ H Q => ∃ IO F0 F B O env d env' O', SR K w IO F0 F B O σ H env ∧ evE cal x env = .ok (d, env') ∧ owM m O x = some O' ∧
  ∀ v F' H', Pst K w IO F0 F B O' σ H env' (prE x) F' H' → RV K w m x F' B H' O' σ env' v d → Q v H'
theorem andThen_some {r : Option Sl} {f : Sl → Option Sl} {O : Sl} (h : andThen r f = some O) : ∃ O1, r = some O1 ∧ f O1 = some O := by
  cases r with
  | none => cases h
  | some O1 => exact ⟨O1, rfl, h⟩
theorem both_some {a b : Option Sl} {O : Sl} (h : both a b = some O) : ∃ A B, a = some A ∧ b = some B ∧ O = meet A B := by
  cases a with
  | none => cases h
  | some A => cases b with
    | none => cases h
    | some B => cases h; exact ⟨A, B, rfl, rfl, rfl⟩
theorem mem_meet {A B : Sl} {i : Nat} : i ∈ meet A B ↔ i ∈ A ∧ i ∈ B := by simp [meet]
section
variable {K : PySem.W.Frag} {w : World} {IO : List (Nat × Addr)} {F0 F F' F'' B B' H H' H'' : Hp} {O O' : Sl} {σ : L2.St} {env env' : Env} {x : X} {m : Md} {v : V} {d : AV} {cal : Cal} {Q : VK}
theorem NewV.own (h : NewV K w F'' H H' v d) (hB : Same B H) : OwnV K w F'' B H' v d := by
  cases d with
  | list ds => obtain ⟨a, xs, e, h1, h2, h3, h4⟩ := h; exact ⟨a, xs, e, h1, hB.free h2, h3, h4⟩
  | dict ds => obtain ⟨a, ep, L, tk, e, h1, h2, h3, h4⟩ := h; exact ⟨a, ep, L, tk, e, h1, hB.free h2, h3, h4⟩
  | none => exact h
  | bool b => exact h
  | int b => exact h
  | str b => exact h
  | tuple b => exact h
theorem NewV.free {a : Addr} (h : NewV K w F'' H H' v d) (e : v = .ref a) (hm : mutA d = true) : H a = none := by
  subst e
  cases d with
  | list ds => obtain ⟨a, xs, e, h1, h2, h3, h4⟩ := h; cases e; exact h2
  | dict ds => obtain ⟨a, ep, L, tk, e, h1, h2, h3, h4⟩ := h; cases e; exact h2
  | _ => cases hm
def isNew (m : Md) (x : X) : Bool := match m with
  | .new => freshE x
  | _ => false
/-- from a rule's result to the reading's end -/
theorem res_of {pr : Bool} (hm : m ≠ .opd ∨ isVar x = none) (S : SR K w IO F0 F' B O' σ H' env') (ff : Same F F') (hh : pr = true → Same H H')
    (q : ∀ v F'' H'', Pst K w IO F0 F B O' σ H env' pr F'' H'' → RV K w m x F'' B H'' O' σ env' v d → Q v H'') : Res K w (isNew m x) F' H' d Q := by
  intro v F'' H'' X hn hv
  refine q v F'' H'' ⟨S.ext X, ff.trans X.ff, fun p => (hh p).trans X.hh⟩ ?_
  cases m with
  | val => exact hv rfl
  | opd => exact ⟨(hv rfl).opd X.fh, (hv rfl).ob⟩
  | new =>
    unfold RV
    cases h : freshE x with
    | false =>
      rw [if_neg (by decide)]
      exact hv h
    | true =>
      rw [if_pos rfl]
      have N := hn h
      refine ⟨N.own S.bh, fun a e hmu => ?_⟩
      exact S.noSlot (.inr (.inr (N.free e hmu)))
/-- a value that is there already -/
theorem RV.of_rep {B : Hp} (hn : m = .new → freshE x = false) (hF : Same F H) (r : Rep K w F v d) : RV K w m x F B H O' σ env' v d := by
  cases m with
  | val => exact r
  | opd => exact ⟨r.opd hF, r.ob⟩
  | new =>
    unfold RV
    rw [if_neg (by rw [hn rfl]; decide)]
    exact r
theorem Opd.ext (ff : Same F F') (hh : Same H H') (r : Opd K w F H v d) : Opd K w F' H' v d := by
  cases d with
  | list ds => obtain ⟨a, xs, e, h, r⟩ := r; exact ⟨a, xs, e, h.mono hh, r.mono ff⟩
  | dict ds => obtain ⟨a, ep, L, tk, e, h, r⟩ := r; exact ⟨a, ep, L, tk, e, hh _ _ h, r.mono ff⟩
  | none => exact Rep.mono ff r
  | bool b => exact Rep.mono ff r
  | int b => exact Rep.mono ff r
  | str b => exact Rep.mono ff r
  | tuple b => exact Rep.mono ff r
end
end Ev
namespace L2
open PySem PySem.Spec PyProof.Rows
theorem PE.imp {X : Cx} {e : Expr} {t t' : TE} (h : PE X e t) (hi : ∀ σ H Q, t' σ H Q → t σ H Q) : PE X e t' := ⟨fun pins s σ H Q I q => h.run pins s σ H Q I (hi σ H Q q)⟩
theorem PT.imp {X : Cx} {e : Expr} {t t' : TT} (h : PT X e t) (hi : ∀ σ H Q, t' σ H Q → t σ H Q) : PT X e t' := ⟨fun pins s σ H Q I q => h.run pins s σ H Q I (hi σ H Q q)⟩
theorem PW.imp {X : Cx} {e : Expr} {t t' : TT} (h : PW X e t) (hi : ∀ σ H Q, t' σ H Q → t σ H Q) : PW X e t' := ⟨fun wh pins s σ H Q I q => h.run wh pins s σ H Q I (hi σ H Q q)⟩
theorem PA.imp {X : Cx} {e : List Expr} {t t' : TA} (h : PA X e t) (hi : ∀ σ H Q, t' σ H Q → t σ H Q) : PA X e t' := ⟨fun p pins s σ H Q I q => h.run p pins s σ H Q I (hi σ H Q q)⟩
theorem PS.imp {X : Cx} {e : Stmt} {t t' : TS} (h : PS X e t) (hi : ∀ D σ H, t' D σ H → t D σ H) : PS X e t' := ⟨fun pins s σ H D I q => h.run pins s σ H D I (hi D σ H q)⟩
theorem PSs.imp {X : Cx} {e : List Stmt} {t t' : TS} (h : PSs X e t) (hi : ∀ D σ H, t' D σ H → t D σ H) : PSs X e t' := ⟨fun pins s σ H D I q => h.run pins s σ H D I (hi D σ H q)⟩
end L2
end

section
set_option linter.all false
set_option autoImplicit false
set_option maxRecDepth 100000
/-! EvF: expressions without comprehensions: from the parts' rules to the whole's. -/
namespace Ev
open PySem PySem.Spec PyProof.Rows L2
def bopP : Bop → Operator
  | .add => .Add | .sub => .Sub | .mul => .Mult | .fdiv => .FloorDiv | .mod => .Mod | .pow => .Pow
def copP : Cop → CmpOp
  | .eq => .Eq | .ne => .NotEq | .lt => .Lt | .le => .LtE | .gt => .Gt | .ge => .GtE | .isN => .Is | .notN => .IsNot | .in_ => .In | .nin => .NotIn
def rUn (K : PySem.W.Frag) (w : World) (f : AV → R AV) (b : Bool) : V → Hp → VK → Prop := fun x H Q => ∃ F dx d, Same F H ∧ Opd K w F H x dx ∧ f dx = .ok d ∧ Res K w b F H d Q
def rSlc (K : PySem.W.Frag) (w : World) (b : Bool) : V → Option Int → Option Int → Hp → VK → Prop := fun x lo hi H Q => ∃ F dx d, Same F H ∧ Opd K w F H x dx ∧ slcop dx lo hi = .ok d ∧ Res K w b F H d Q
def negop : AV → R AV
  | .int i => .ok (.int (-i))
  | _ => .bad
/-- the rules by values -/
structure Rules (c : Cx) : Prop where
  bin : ∀ op b, OpR c (binaryOp (bopP op)) (rOp c.K c.w (binop op) b)
  cmp : ∀ op b, OpR c (compareOp (copP op)) (rOp c.K c.w (cmpop op) b)
  idx : IxR c (rOp c.K c.w idxop false)
  slc : ∀ b, SlR c (rSlc c.K c.w b)
/-- what is shown of an expression -/
structure OkE (cal : Cal) (c : Cx) (e : Expr) (x : X) : Prop where
  pe : ∀ m, PE c e (rd c.K c.w cal m x)
  pt : PT c e (tB (rd c.K c.w cal .val x))
  pw : ∀ op l p, e = .BoolOp op l p → PW c e (tB (rd c.K c.w cal .val x))
/-- expressions whose test is their value's -/
def tvE : Expr → Bool
  | .UnaryOp .Not _ _ => false
  | .BoolOp .. => false
  | .IfExp .. => false
  | .Compare .. => false
  | _ => true
theorem isTrue_tv {e : Expr} (h : tvE e = true) (env : PySem.Env) (whole : Sem Value) : isTrue e env whole = (do let v ← whole; standAt e.pos; holding [v] (truthy v)) := by
  cases e <;> first
    | rfl
    | (rename_i op _ _; cases op <;> first | rfl | cases h)
    | cases h
theorem OkE.of {cal : Cal} {c : Cx} {e : Expr} {x : X} (h : tvE e = true) (pe : ∀ m, PE c e (rd c.K c.w cal m x)) : OkE cal c e x :=
  ⟨pe, pt_val (pe .val) (isTrue_tv h _), fun op l p z => by subst z; cases h⟩
def opM (b : Bool) : Md := if b then .opd else .val
section
variable {K : PySem.W.Frag} {w : World} {cal : Cal} {m : Md} {x0 a b : X} {σ : L2.St} {H : Hp} {Q : VK}
theorem owM_nv {O : Sl} (h : isVar x0 = none) : owM m O x0 = owE O x0 := by
  cases m <;> first | rfl | (show bor x0 O (owE O x0) = _; unfold bor; rw [h])
theorem owM_opM {O : Sl} : owM (opM (prE b)) O a = if prE b then bor a O (owE O a) else owE O a := by
  unfold opM
  cases prE b <;> rfl
/-- the operand a behind the evaluation of b -/
theorem opd_after {F1 F2 B H1 H2 : Hp} {O1 O2 : Sl} {IO : List (Nat × Addr)} {F0 : Hp} {e1 e2 : Env} {va : V} {da : AV} (r1 : RV K w (opM (prE b)) a F1 B H1 O1 σ e1 va da) (p2 : Pst K w IO F0 F1 B O2 σ H1 e2 (prE b) F2 H2) : Opd K w F2 H2 va da := by
  cases h : prE b with
  | true =>
    rw [h] at r1 p2
    exact Opd.ext p2.ff (p2.hh rfl) r1.1
  | false =>
    rw [h] at r1
    exact (Rep.mono p2.ff r1).opd p2.sr.fh
theorem two_imp {f : AV → AV → R AV} (hx : isVar x0 = none) (hev : ∀ env, evE cal x0 env = (do let (x, e1) ← evE cal a env; let (y, e2) ← evE cal b e1; .ok (← f x y, e2)))
    (how : ∀ O, owE O x0 = andThen (if prE b then bor a O (owE O a) else owE O a) fun O1 => bor b O1 (owE O1 b)) (hpr : prE x0 = (prE a && prE b)) (h : rd K w cal m x0 σ H Q) :
    tOp (rOp K w f (isNew m x0)) (rd K w cal (opM (prE b)) a) (rd K w cal .opd b) σ H Q := by
  obtain ⟨IO, F0, F, B, O, env, d, env', O', S, e, o, q⟩ := h
  rw [hev] at e
  obtain ⟨⟨da, e1⟩, ea, e⟩ := R.bind_eq_ok e
  obtain ⟨⟨db, e2⟩, eb, e⟩ := R.bind_eq_ok e
  obtain ⟨d', ef, e⟩ := R.bind_eq_ok e
  cases e
  rw [owM_nv hx, how] at o
  obtain ⟨O1, oa, ob⟩ := andThen_some o
  refine ⟨IO, F0, F, B, O, env, da, e1, O1, S, ea, by rw [owM_opM]; exact oa, fun va F1 H1 p1 r1 => ⟨IO, F0, F1, B, O1, e1, db, env', O', p1.sr, eb, ob, fun vb F2 H2 p2 r2 => ?_⟩⟩
  refine ⟨F2, da, db, d, p2.sr.fh, opd_after r1 p2, r2.1, ef, ?_⟩
  exact res_of (.inr hx) p2.sr (p1.ff.trans p2.ff) (fun h => by rw [hpr, Bool.and_eq_true] at h; exact (p1.hh h.1).trans (p2.hh h.2)) q
/-- both operands frozen -/
theorem two_val {f : AV → AV → R AV} (hx : isVar x0 = none) (hev : ∀ env, evE cal x0 env = (do let (x, e1) ← evE cal a env; let (y, e2) ← evE cal b e1; .ok (← f x y, e2)))
    (how : ∀ O, owE O x0 = andThen (owE O a) fun O1 => owE O1 b) (hpr : prE x0 = (prE a && prE b)) (h : rd K w cal m x0 σ H Q) :
    tOp (rOp K w f (isNew m x0)) (rd K w cal .val a) (rd K w cal .val b) σ H Q := by
  obtain ⟨IO, F0, F, B, O, env, d, env', O', S, e, o, q⟩ := h
  rw [hev] at e
  obtain ⟨⟨da, e1⟩, ea, e⟩ := R.bind_eq_ok e
  obtain ⟨⟨db, e2⟩, eb, e⟩ := R.bind_eq_ok e
  obtain ⟨d', ef, e⟩ := R.bind_eq_ok e
  cases e
  rw [owM_nv hx, how] at o
  obtain ⟨O1, oa, ob⟩ := andThen_some o
  refine ⟨IO, F0, F, B, O, env, da, e1, O1, S, ea, oa, fun va F1 H1 p1 r1 => ⟨IO, F0, F1, B, O1, e1, db, env', O', p1.sr, eb, ob, fun vb F2 H2 p2 r2 => ?_⟩⟩
  refine ⟨F2, da, db, d, p2.sr.fh, (Rep.mono p2.ff r1).opd p2.sr.fh, Rep.opd p2.sr.fh r2, ef, ?_⟩
  exact res_of (.inr hx) p2.sr (p1.ff.trans p2.ff) (fun h => by rw [hpr, Bool.and_eq_true] at h; exact (p1.hh h.1).trans (p2.hh h.2)) q
theorem one_imp {f : AV → R AV} {m1 : Md} (hm1 : m1 ≠ .new) (hx : isVar x0 = none) (hev : ∀ env, evE cal x0 env = (do let (x, e1) ← evE cal a env; .ok (← f x, e1)))
    (how : ∀ O, owE O x0 = owM m1 O a) (hpr : prE x0 = prE a) (h : rd K w cal m x0 σ H Q) :
    tUn (rUn K w f (isNew m x0)) (rd K w cal m1 a) σ H Q := by
  obtain ⟨IO, F0, F, B, O, env, d, env', O', S, e, o, q⟩ := h
  rw [hev] at e
  obtain ⟨⟨da, e1⟩, ea, e⟩ := R.bind_eq_ok e
  obtain ⟨d', ef, e⟩ := R.bind_eq_ok e
  cases e
  rw [owM_nv hx, how] at o
  refine ⟨IO, F0, F, B, O, env, da, env', O', S, ea, o, fun va F1 H1 p1 r1 => ⟨F1, da, d, p1.sr.fh, ?_, ef, ?_⟩⟩
  · cases m1 with
    | val => exact Rep.opd p1.sr.fh r1
    | opd => exact r1.1
    | new => exact absurd rfl hm1
  · exact res_of (.inr hx) p1.sr p1.ff (fun h => p1.hh (by rw [← hpr]; exact h)) q
theorem imm_rv {F B : Hp} {O' : Sl} {env' : Env} {v : V} {d : AV} (hn : freshE x0 = false) (hF : Same F H) (r : Rep K w F v d) : RV K w m x0 F B H O' σ env' v d := RV.of_rep (fun _ => hn) hF r
end
theorem asB_ok {d : AV} {k : Bool} (h : asB d = .ok k) : d = .bool k := by
  cases d <;> first | (cases h; rfl) | cases h
section
variable {cal : Cal} {c : Cx}
/-! ### names, constants -/
theorem ok_var {i : Nat} {y : Str} {pos : Pos} (hN : c.N[i]? = some y) (hv : Vis c.env.scope y) (hd : (y == ("__debug__" : Str)) = false) (hcd : (y == ("__classdict__" : Str)) = false) : OkE cal c (.Name y pos) (.var i) := by
  refine OkE.of rfl fun m => (pe_var hN hv hd hcd).imp fun σ H Q h => ?_
  obtain ⟨IO, F0, F, B, O, env, d, env', O', S, e, o, q⟩ := h
  obtain ⟨d', e1, e2⟩ := R.bind_eq_ok (show (look env i >>= fun d => R.ok (d, env)) = .ok (d, env') from e)
  cases e2
  have hd' : env[i]? = some (some d) := by
    unfold look at e1
    split at e1
    · rename_i v hv; cases e1; exact hv
    · cases e1
  obtain ⟨v, h1, h2, h3⟩ := S.slot i d hd'
  refine ⟨v, h1, ?_⟩
  have fz : ∀ m : Md, m ≠ .opd → owM m O (.var i) = some O' → (∀ v F' H', Pst c.K c.w IO F0 F B O' σ H env (prE (.var i)) F' H' → RV c.K c.w m (.var i) F' B H' O' σ env v d → Q v H') → Q v H := fun m hm o q => by
    have o' : er O i = O' := by cases m <;> first | exact absurd rfl hm | exact Option.some.inj o
    subst o'
    obtain ⟨F', S', s', hr⟩ := S.freeze (i := i)
    exact q v F' H ⟨S', s', fun _ => Same.refl _⟩ (imm_rv rfl S'.fh (hr d v hd' h1))
  cases m with
  | val => exact fz .val (by decide) o q
  | new => exact fz .new (by decide) o q
  | opd =>
    have o' : O = O' := Option.some.inj o
    subst o'
    refine q v F H ⟨S, Same.refl _, fun _ => Same.refl _⟩ ?_
    show Opd c.K c.w F H v d ∧ OB c.K c.w F B H v d
    by_cases hi : i ∈ O
    · exact ⟨(h2 hi).opd S.fh, fun hm => by
        obtain ⟨a, u, e, _, g2, g3⟩ := (h2 hi).addr hm
        exact .inl ⟨a, u, e, g2, g3⟩⟩
    · exact ⟨(h3 hi).opd S.fh, (h3 hi).ob⟩
def constV : Const → Option AV
  | .none => some .none
  | .bool b => some (.bool b)
  | .int i => some (.int i)
  | .str x => some (.str x)
  | _ => none
theorem con_imp {v : V} {a : AV} {m : Md} {σ : L2.St} {H : Hp} {Q : VK} (hr : ∀ F, Rep c.K c.w F v a) (h : rd c.K c.w cal m (.con a) σ H Q) : Q v H := by
  obtain ⟨IO, F0, F, B, O, env, d, env', O', S, e, o, q⟩ := h
  cases e
  rw [owM_nv rfl] at o
  cases o
  exact q v F H ⟨S, Same.refl _, fun _ => Same.refl _⟩ (imm_rv rfl S.fh (hr F))
theorem ok_con {k : Const} {a : AV} {j : Nat} {pos : Pos} (h : constV k = some a) : OkE cal c (.Constant k j pos) (.con a) := by
  refine OkE.of rfl fun m => ?_
  cases k with
  | none => cases h; exact pe_non.imp fun σ H Q q => con_imp (fun _ => .non) q
  | bool b => cases h; exact pe_bl.imp fun σ H Q q => con_imp (fun _ => .bl b) q
  | int b => cases h; exact pe_int.imp fun σ H Q q => con_imp (fun _ => .int b) q
  | str b => cases h; exact pe_str.imp fun σ H Q q => con_imp (fun _ => .str b) q
  | _ => cases h
theorem ok_glo {y : Str} {a : AV} {pos : Pos} (hg : Gl c y) (hd : (y == ("__debug__" : Str)) = false) (h : ∃ v u, c.mg y = some u ∧ RelV v u ∧ ∀ F, Rep c.K c.w F v a) : OkE cal c (.Name y pos) (.con a) := by
  obtain ⟨v, u, h1, h2, h3⟩ := h
  exact OkE.of rfl fun m => (pe_glob hg h1 h2 hd).imp fun σ H Q q => con_imp h3 q
mutual
theorem beqA_ok : ∀ {a b : AV}, beqA a b = true → a = b
  | .int a, .int b, h => by rw [of_decide_eq_true (show decide (a = b) = true from h)]
  | .str a, .str b, h => by rw [of_decide_eq_true (show decide (a = b) = true from h)]
  | .tuple a, .tuple b, h => by rw [beqAs_ok (show beqAs a b = true from h)]
theorem beqAs_ok : ∀ {a b : List AV}, beqAs a b = true → a = b
  | [], [], _ => rfl
  | x :: xs, y :: ys, h => by
    obtain ⟨h1, h2⟩ := Bool.and_eq_true_iff.mp (show (beqA x y && beqAs xs ys) = true from h)
    rw [beqA_ok h1, beqAs_ok h2]
end
/-! ### operators -/
variable {l r t : Expr} {a b d : X} {pos : Pos}
theorem ok_bin (R : Rules c) (op : Bop) (ha : OkE cal c l a) (hb : OkE cal c r b) : OkE cal c (.BinOp l (bopP op) r pos) (.bin op a b) :=
  OkE.of rfl fun m => (pe_op (R.bin op (isNew m (.bin op a b))) (ha.pe (opM (prE b))) (hb.pe .opd)).imp fun σ H Q q => two_imp rfl (fun env => rfl) (fun O => rfl) rfl q
theorem ok_idx (R : Rules c) (hs : PlainIx r) (ha : OkE cal c l a) (hb : OkE cal c r b) : OkE cal c (.Subscript l r pos) (.idx a b) :=
  OkE.of rfl fun m => (pe_ix R.idx (ha.pe (opM (prE b))) (hb.pe .opd) hs).imp fun σ H Q q => by
    have h := two_imp (f := idxop) rfl (fun env => rfl) (fun O => rfl) rfl q
    have hn : isNew m (.idx a b) = false := by cases m <;> rfl
    rw [hn] at h
    exact h
theorem ok_cmp (R : Rules c) (op : Cop) (hm : behindInMarks (copP op) r = false) (ha : OkE cal c l a) (hb : OkE cal c r b) : OkE cal c (.Compare l [copP op] [r] pos) (.cmp op a b) :=
  have im : ∀ {m : Md} {σ : L2.St} {H : Hp} {Q : VK}, rd c.K c.w cal m (.cmp op a b) σ H Q → tOp (rOp c.K c.w (cmpop op) (isNew m (.cmp op a b))) (rd c.K c.w cal (opM (prE b)) a) (rd c.K c.w cal .opd b) σ H Q := fun q => two_imp rfl (fun env => rfl) (fun O => rfl) rfl q
  ⟨fun m => (pe_cmpR (R.cmp op (isNew m (.cmp op a b))) (ha.pe (opM (prE b))) (hb.pe .opd) hm).imp fun σ H Q q => im q,
    (pt_cmpR (R.cmp op (isNew .val (.cmp op a b))) (ha.pe (opM (prE b))) (hb.pe .opd) hm).imp fun σ H Q q => im q, fun _ _ _ z => by cases z⟩
theorem un_negE {nb : Bool} : UnR c (unaryOp .USub) (rUn c.K c.w negop nb) := by
  intro pins s σ H x v Q I rx ⟨F, dx, d, hF, ox, e, q⟩
  cases dx with
  | int i =>
    have ex := ox.intE; subst ex
    cases e
    exact un_neg pins s σ H _ v Q I rx ⟨i, rfl, q.imm rfl hF (.int _)⟩
  | _ => cases e
theorem ok_neg (ha : OkE cal c l a) : OkE cal c (.UnaryOp .USub l pos) (.neg a) :=
  OkE.of rfl fun m => (pe_un (un_negE (nb := isNew m (.neg a))) (ha.pe .val)).imp fun σ H Q q => one_imp (f := negop) (m1 := .val) (by decide) rfl (fun env => by
    show (evE cal a env >>= fun p => _) = (evE cal a env >>= fun p => _)
    cases evE cal a env with
    | ok p => obtain ⟨x, e1⟩ := p; cases x <;> rfl
    | exc _ _ => rfl
    | bad => rfl) (fun O => rfl) rfl q
theorem not_imp {m : Md} {σ : L2.St} {H : Hp} {Q : VK} (h : rd c.K c.w cal m (.not a) σ H Q) : rd c.K c.w cal .val a σ H fun x H1 => ∃ k, x = .bl k ∧ Q (.bl (!k)) H1 := by
  obtain ⟨IO, F0, F, B, O, env, d, env', O', S, e, o, q⟩ := h
  obtain ⟨⟨da, e1⟩, ea, e⟩ := R.bind_eq_ok (show (evE cal a env >>= fun p => (asB p.1 >>= fun k => R.ok (.bool (!k), p.2))) = .ok (d, env') from e)
  obtain ⟨k, ek, e⟩ := R.bind_eq_ok e
  cases e
  obtain rfl := asB_ok ek
  rw [owM_nv rfl] at o
  refine ⟨IO, F0, F, B, O, env, _, e1, O', S, ea, o, fun v F1 H1 p1 r1 => ?_⟩
  cases (show Rep c.K c.w F1 v (.bool k) from r1)
  exact ⟨k, rfl, q _ F1 H1 p1 (imm_rv rfl p1.sr.fh (.bl _))⟩
theorem ok_not (ha : OkE cal c l a) : OkE cal c (.UnaryOp .Not l pos) (.not a) := by
  refine ⟨fun m => (L2.pe_not (ha.pe .val)).imp fun σ H Q q => not_imp q, (pt_not ha.pt).imp fun σ H Q q => ?_, fun _ _ _ z => by cases z⟩
  have h := not_imp q
  obtain ⟨IO, F0, F, B, O, env, d, env', O', S, e, o, q⟩ := h
  refine ⟨IO, F0, F, B, O, env, d, env', O', S, e, o, fun v F1 H1 p1 r1 => ?_⟩
  obtain ⟨k, e1, k2, e2, q2⟩ := q v F1 H1 p1 r1
  cases e2
  exact ⟨k, e1, q2⟩
/-- both ways lead to what both own -/
theorem meet_end {K : PySem.W.Frag} {w : World} {IO : List (Nat × Addr)} {F0 F F1 B H H1 : Hp} {A O' : Sl} {σ : L2.St} {env' : Env} {pr pr' : Bool} (p : Pst K w IO F0 F B A σ H env' pr F1 H1) (h : ∀ i ∈ O', i ∈ A) (hp : pr' = true → pr = true) :
    ∃ F2, Pst K w IO F0 F B O' σ H env' pr' F2 H1 ∧ Same F1 F2 := by
  obtain ⟨F2, S2, s2⟩ := p.sr.shrink h
  exact ⟨F2, ⟨S2, p.ff.trans s2, fun z => p.hh (hp z)⟩, s2⟩
theorem Pst.trans {K : PySem.W.Frag} {w : World} {IO : List (Nat × Addr)} {F0 F F1 F2 B H H1 H2 : Hp} {A O' : Sl} {σ : L2.St} {e1 env' : Env} {p1 p2 pr : Bool} (p : Pst K w IO F0 F B A σ H e1 p1 F1 H1) (q : Pst K w IO F0 F1 B O' σ H1 env' p2 F2 H2) (h : pr = true → p1 = true ∧ p2 = true) :
    Pst K w IO F0 F B O' σ H env' pr F2 H2 := ⟨q.sr, p.ff.trans q.ff, fun z => (p.hh (h z).1).trans (q.hh (h z).2)⟩
theorem and_imp {m : Md} {σ : L2.St} {H : Hp} {Q : VK} (h : rd c.K c.w cal m (.and a b) σ H Q) : rd c.K c.w cal .val a σ H fun x H1 => ∃ k, x = .bl k ∧ if k = true then rd c.K c.w cal .val b σ H1 (fun y H2 => ∃ j, y = .bl j ∧ Q (.bl j) H2) else Q (.bl false) H1 := by
  obtain ⟨IO, F0, F, B, O, env, d, env', O', S, e, o, q⟩ := h
  obtain ⟨⟨da, e1⟩, ea, e⟩ := R.bind_eq_ok (show (evE cal a env >>= fun p => (asB p.1 >>= fun k => match k with
    | true => (evE cal b p.2 >>= fun p2 => asB p2.1 >>= fun j => R.ok (.bool j, p2.2))
    | false => R.ok (.bool false, p.2))) = .ok (d, env') from e)
  obtain ⟨k, ek, e⟩ := R.bind_eq_ok e
  obtain rfl := asB_ok ek
  rw [owM_nv rfl] at o
  obtain ⟨O1, oa, o⟩ := andThen_some (show andThen (owE O a) (fun O1 => both (some O1) (owE O1 b)) = some O' from o)
  obtain ⟨_, O2, h1, ob, rfl⟩ := both_some o
  cases h1
  refine ⟨IO, F0, F, B, O, env, _, e1, O1, S, ea, oa, fun v F1 H1 p1 r1 => ?_⟩
  cases (show Rep c.K c.w F1 v (.bool k) from r1)
  refine ⟨k, rfl, ?_⟩
  cases k with
  | false =>
    cases e
    rw [if_neg (by decide)]
    obtain ⟨F2, p2, s2⟩ := meet_end (O' := meet O1 O2) p1 (fun i hi => (mem_meet.mp hi).1) (pr' := prE (.and a b)) (fun z => by rw [prE, Bool.and_eq_true] at z; exact z.1)
    exact q _ F2 H1 p2 (imm_rv rfl p2.sr.fh (.bl _))
  | true =>
    rw [if_pos rfl]
    obtain ⟨⟨db, e2⟩, eb, e⟩ := R.bind_eq_ok e
    obtain ⟨j, ej, e⟩ := R.bind_eq_ok e
    cases e
    obtain rfl := asB_ok ej
    refine ⟨IO, F0, F1, B, O1, e1, _, e2, O2, p1.sr, eb, ob, fun u F2 H2 p2 r2 => ?_⟩
    cases (show Rep c.K c.w F2 u (.bool j) from r2)
    refine ⟨j, rfl, ?_⟩
    obtain ⟨F3, p3, s3⟩ := meet_end (O' := meet O1 O2) (p1.trans p2 (pr := prE (.and a b)) (fun z => by rw [prE, Bool.and_eq_true] at z; exact z)) (fun i hi => (mem_meet.mp hi).2) (fun z => z)
    exact q _ F3 H2 p3 (imm_rv rfl p3.sr.fh (.bl _))
theorem or_imp {m : Md} {σ : L2.St} {H : Hp} {Q : VK} (h : rd c.K c.w cal m (.or a b) σ H Q) : rd c.K c.w cal .val a σ H fun x H1 => ∃ k, x = .bl k ∧ if k = true then Q (.bl true) H1 else rd c.K c.w cal .val b σ H1 (fun y H2 => ∃ j, y = .bl j ∧ Q (.bl j) H2) := by
  obtain ⟨IO, F0, F, B, O, env, d, env', O', S, e, o, q⟩ := h
  obtain ⟨⟨da, e1⟩, ea, e⟩ := R.bind_eq_ok (show (evE cal a env >>= fun p => (asB p.1 >>= fun k => match k with
    | true => R.ok (.bool true, p.2)
    | false => (evE cal b p.2 >>= fun p2 => asB p2.1 >>= fun j => R.ok (.bool j, p2.2)))) = .ok (d, env') from e)
  obtain ⟨k, ek, e⟩ := R.bind_eq_ok e
  obtain rfl := asB_ok ek
  rw [owM_nv rfl] at o
  obtain ⟨O1, oa, o⟩ := andThen_some (show andThen (owE O a) (fun O1 => both (some O1) (owE O1 b)) = some O' from o)
  obtain ⟨_, O2, h1, ob, rfl⟩ := both_some o
  cases h1
  refine ⟨IO, F0, F, B, O, env, _, e1, O1, S, ea, oa, fun v F1 H1 p1 r1 => ?_⟩
  cases (show Rep c.K c.w F1 v (.bool k) from r1)
  refine ⟨k, rfl, ?_⟩
  cases k with
  | true =>
    cases e
    rw [if_pos rfl]
    obtain ⟨F2, p2, s2⟩ := meet_end (O' := meet O1 O2) p1 (fun i hi => (mem_meet.mp hi).1) (pr' := prE (.or a b)) (fun z => by rw [prE, Bool.and_eq_true] at z; exact z.1)
    exact q _ F2 H1 p2 (imm_rv rfl p2.sr.fh (.bl _))
  | false =>
    rw [if_neg (by decide)]
    obtain ⟨⟨db, e2⟩, eb, e⟩ := R.bind_eq_ok e
    obtain ⟨j, ej, e⟩ := R.bind_eq_ok e
    cases e
    obtain rfl := asB_ok ej
    refine ⟨IO, F0, F1, B, O1, e1, _, e2, O2, p1.sr, eb, ob, fun u F2 H2 p2 r2 => ?_⟩
    cases (show Rep c.K c.w F2 u (.bool j) from r2)
    refine ⟨j, rfl, ?_⟩
    obtain ⟨F3, p3, s3⟩ := meet_end (O' := meet O1 O2) (p1.trans p2 (pr := prE (.or a b)) (fun z => by rw [prE, Bool.and_eq_true] at z; exact z)) (fun i hi => (mem_meet.mp hi).2) (fun z => z)
    exact q _ F3 H2 p3 (imm_rv rfl p3.sr.fh (.bl _))
/-- the end's wish, weaker -/
theorem rd_mono {m : Md} {x : X} {K : PySem.W.Frag} {w : World} {σ : L2.St} {H : Hp} {Q Q' : VK} (h : rd K w cal m x σ H Q) (hq : ∀ v H, Q v H → Q' v H) : rd K w cal m x σ H Q' := by
  obtain ⟨IO, F0, F, B, O, env, d, env', O', S, e, o, q⟩ := h
  exact ⟨IO, F0, F, B, O, env, d, env', O', S, e, o, fun v F' H' p r => hq _ _ (q v F' H' p r)⟩
variable {rest : List Expr} {pos2 : Pos}
/-- l and (the rest): P the rest's own form -/
theorem ok_and (ha : OkE cal c l a) (hpe : PE c (.BoolOp .And (r :: rest) pos) (rd c.K c.w cal .val b)) (hpw : PW c (.BoolOp .And (r :: rest) pos) (tB (rd c.K c.w cal .val b))) : OkE cal c (.BoolOp .And (l :: r :: rest) pos) (.and a b) := by
  have w1 : PW c (.BoolOp .And (l :: r :: rest) pos) (tB (rd c.K c.w cal .val (.and a b))) := (pw_and ha.pt hpw).imp fun σ H Q q => by
    refine rd_mono (and_imp q) fun v H1 ⟨k, e, h⟩ => ⟨k, e, ?_⟩
    cases k with
    | true =>
      rw [if_pos rfl] at h ⊢
      refine rd_mono h fun y H2 ⟨j, e, k2, e2, q2⟩ => ?_
      cases e2
      exact ⟨j, e, q2⟩
    | false =>
      rw [if_neg (by decide)] at h ⊢
      obtain ⟨k2, e2, q2⟩ := h
      cases e2
      exact q2
  refine ⟨fun m => (L2.pe_and (ha.pe .val) hpe).imp fun σ H Q q => ?_, w1.pt, fun _ _ _ _ => w1⟩
  refine rd_mono (and_imp q) fun v H1 ⟨k, e, h⟩ => ⟨k, e, ?_⟩
  cases k with
  | true =>
    rw [if_pos rfl] at h ⊢
    refine rd_mono h fun y H2 ⟨j, e, q2⟩ => ?_
    subst e
    exact q2
  | false => exact h
theorem ok_or (ha : OkE cal c l a) (hpe : PE c (.BoolOp .Or (r :: rest) pos) (rd c.K c.w cal .val b)) (hpw : PW c (.BoolOp .Or (r :: rest) pos) (tB (rd c.K c.w cal .val b))) : OkE cal c (.BoolOp .Or (l :: r :: rest) pos) (.or a b) := by
  have w1 : PW c (.BoolOp .Or (l :: r :: rest) pos) (tB (rd c.K c.w cal .val (.or a b))) := (pw_or ha.pt hpw).imp fun σ H Q q => by
    refine rd_mono (or_imp q) fun v H1 ⟨k, e, h⟩ => ⟨k, e, ?_⟩
    cases k with
    | false =>
      rw [if_neg (by decide)] at h ⊢
      refine rd_mono h fun y H2 ⟨j, e, k2, e2, q2⟩ => ?_
      cases e2
      exact ⟨j, e, q2⟩
    | true =>
      rw [if_pos rfl] at h ⊢
      obtain ⟨k2, e2, q2⟩ := h
      cases e2
      exact q2
  refine ⟨fun m => (L2.pe_or (ha.pe .val) hpe).imp fun σ H Q q => ?_, w1.pt, fun _ _ _ _ => w1⟩
  refine rd_mono (or_imp q) fun v H1 ⟨k, e, h⟩ => ⟨k, e, ?_⟩
  cases k with
  | false =>
    rw [if_neg (by decide)] at h ⊢
    refine rd_mono h fun y H2 ⟨j, e, q2⟩ => ?_
    subst e
    exact q2
  | true => exact h
theorem chain_imp {m : Md} {op op' : Cop} {σ : L2.St} {H : Hp} {Q : VK} (h : rd c.K c.w cal m (.chain op op' a b d) σ H Q) : tChain (rOp c.K c.w (cmpop op) false) (rOp c.K c.w (fun x y => do .ok (.bool (← asB (← cmpop op' x y)))) false) (rd c.K c.w cal .val a) (rd c.K c.w cal .val b) (rd c.K c.w cal .val d) σ H Q := by
  obtain ⟨IO, F0, F, B, O, env, dd, env', O', S, e, o, q⟩ := h
  obtain ⟨⟨da, e1⟩, ea, e⟩ := R.bind_eq_ok (show (evE cal a env >>= fun p => evE cal b p.2 >>= fun p2 => cmpop op p.1 p2.1 >>= fun z => (asB z >>= fun k => match k with
    | true => (evE cal d p2.2 >>= fun p3 => cmpop op' p2.1 p3.1 >>= fun z => asB z >>= fun j => R.ok (.bool j, p3.2))
    | false => R.ok (.bool false, p2.2))) = .ok (dd, env') from e)
  obtain ⟨⟨db, e2⟩, eb, e⟩ := R.bind_eq_ok e
  obtain ⟨z, ez, e⟩ := R.bind_eq_ok e
  obtain ⟨k, ek, e5⟩ := R.bind_eq_ok e
  obtain rfl := asB_ok ek
  rw [owM_nv rfl] at o
  obtain ⟨O1, oa, o⟩ := andThen_some (show andThen (owE O a) (fun O1 => andThen (owE O1 b) fun O2 => both (some O2) (owE O2 d)) = some O' from o)
  obtain ⟨O2, ob, o⟩ := andThen_some o
  obtain ⟨_, O3, h1, od, rfl⟩ := both_some o
  cases h1
  refine ⟨IO, F0, F, B, O, env, _, e1, O1, S, ea, oa, fun va F1 H1 p1 r1 => ⟨IO, F0, F1, B, O1, e1, _, e2, O2, p1.sr, eb, ob, fun vb F2 H2 p2 r2 => ⟨F2, da, db, _, p2.sr.fh, (Rep.mono p2.ff r1).opd p2.sr.fh, Rep.opd p2.sr.fh r2, ez, ?_⟩⟩⟩
  intro v F3 H3 X3 _ hv
  cases (show Rep c.K c.w F3 v (.bool k) from hv rfl)
  refine ⟨k, rfl, ?_⟩
  have p12 : Pst c.K c.w IO F0 F B O2 σ H e2 (prE a && prE b) F2 H2 := p1.trans p2 fun z => by rw [Bool.and_eq_true] at z; exact z
  have p3 : Pst c.K c.w IO F0 F B O2 σ H e2 (prE a && prE b) F3 H3 := ⟨p12.sr.ext X3, p12.ff.trans X3.ff, fun z => (p12.hh z).trans X3.hh⟩
  have rb : Rep c.K c.w F3 vb db := Rep.mono X3.ff r2
  cases k with
  | false =>
    cases e5
    rw [if_neg (by decide)]
    obtain ⟨F4, p4, s4⟩ := meet_end (O' := meet O2 O3) p3 (fun i hi => (mem_meet.mp hi).1) (pr' := prE (.chain op op' a b d)) (fun z => by rw [prE, Bool.and_eq_true] at z; exact z.1)
    exact q _ F4 H3 p4 (imm_rv rfl p4.sr.fh (.bl _))
  | true =>
    rw [if_pos rfl]
    obtain ⟨⟨dc, e3⟩, ec, e6⟩ := R.bind_eq_ok e5
    obtain ⟨z', ez', e7⟩ := R.bind_eq_ok e6
    obtain ⟨j, ej, e8⟩ := R.bind_eq_ok e7
    cases e8
    refine ⟨IO, F0, F3, B, O2, e2, _, e3, O3, p3.sr, ec, od, fun vc F4 H4 p4 r4 => ⟨F4, db, dc, .bool j, p4.sr.fh, (Rep.mono p4.ff rb).opd p4.sr.fh, Rep.opd p4.sr.fh r4, by
      show (cmpop op' db dc >>= fun z => asB z >>= fun k => R.ok (PyData.bool k)) = _
      have ez2 : cmpop op' db dc = R.ok z' := ez'
      rw [ez2]
      show (asB z' >>= fun k => R.ok (PyData.bool k)) = _
      rw [ej]
      rfl, ?_⟩⟩
    intro v F5 H5 X5 _ hv
    have p5 := p3.trans p4 (pr := prE (.chain op op' a b d)) (fun z => by rw [prE, Bool.and_eq_true] at z; exact z)
    have p6 : Pst c.K c.w IO F0 F B O3 σ H e3 (prE (.chain op op' a b d)) F5 H5 := ⟨p5.sr.ext X5, p5.ff.trans X5.ff, fun z => (p5.hh z).trans X5.hh⟩
    obtain ⟨F7, p7, s7⟩ := meet_end (O' := meet O2 O3) p6 (fun i hi => (mem_meet.mp hi).2) (fun z => z)
    exact q _ F7 H5 p7 (imm_rv rfl p7.sr.fh (Rep.mono s7 (hv rfl)))
theorem rOp_sub {K : PySem.W.Frag} {w : World} {f g : AV → AV → R AV} {nb : Bool} (h : ∀ x y d, f x y = .ok d → g x y = .ok d) {x y : V} {H : Hp} {Q : VK} (q : rOp K w f nb x y H Q) : rOp K w g nb x y H Q := by
  obtain ⟨F, dx, dy, d, hF, ox, oy, e, q⟩ := q
  exact ⟨F, dx, dy, d, hF, ox, oy, h _ _ _ e, q⟩
theorem op_imp {X : Cx} {f : Value → Value → Sem Value} {r r' : R2} (h : OpR X f r) (hi : ∀ x y H Q, r' x y H Q → r x y H Q) : OpR X f r' := fun pins s σ H x y v u Q I rx ry q => h pins s σ H x y v u Q I rx ry (hi _ _ _ _ q)
theorem ok_chain (RR : Rules c) (op op' : Cop) (hm : lastMarks [copP op, copP op'] [r, t] = false) (ha : OkE cal c l a) (hb : OkE cal c r b) (hd : OkE cal c t d) : OkE cal c (.Compare l [copP op, copP op'] [r, t] pos) (.chain op op' a b d) := by
  have hop2 : OpR c (compareOp (copP op')) (rOp c.K c.w (fun x y => do .ok (.bool (← asB (← cmpop op' x y)))) false) := op_imp (RR.cmp op' false) fun x y H Q q => rOp_sub (fun x y d e => by
    obtain ⟨z, ez, e⟩ := R.bind_eq_ok e
    obtain ⟨k, ek, e⟩ := R.bind_eq_ok e
    cases e
    rw [ez, asB_ok ek]) q
  exact ⟨fun m => (pe_chain (RR.cmp op false) hop2 (ha.pe .val) (hb.pe .val) (hd.pe .val) hm).imp fun σ H Q q => chain_imp q, (pt_chain (RR.cmp op false) hop2 (ha.pe .val) (hb.pe .val) (hd.pe .val) hm).imp fun σ H Q q => chain_imp q, fun _ _ _ z => by cases z⟩
end
end Ev
end

section
set_option linter.all false
set_option autoImplicit false
set_option maxRecDepth 100000
/-! EvG: argument lists, displays, slices, choices. -/
namespace Ev
open PySem PySem.Spec PyProof.Rows L2
section
variable (K : PySem.W.Frag) (w : World)
/-- what is known of arguments: B0: what others held ahead of them, as: the places of those that may be changed -/
inductive AO (F B0 B H : Hp) (σ : L2.St) (env : Env) (O : Sl) : Xs → List V → List AV → List Addr → Prop
  | nil : AO F B0 B H σ env O .nil [] [] []
  | cons {e : X} {r : Xs} {v : V} {vs : List V} {d : AV} {ds : List AV} {as : List Addr} : Rep K w F v d → AO F B0 B H σ env O r vs ds as → AO F B0 B H σ env O (.cons e r) (v :: vs) (d :: ds) as
  | star {e : X} {r : Xs} {us vs : List V} {xs ds : List AV} {as : List Addr} : RepL K w F us xs → AO F B0 B H σ env O r vs ds as → AO F B0 B H σ env O (.star e r) (us ++ vs) (xs ++ ds) as
  | io {i : Nat} {r : Xs} {a : Addr} {vs : List V} {d : AV} {ds : List AV} {as : List Addr} : i ∈ O → σ[i]? = some (some (.ref a)) → env[i]? = some (some d) → mutA d = true → i ∉ iosOf r → a ∉ as → AO F B0 B H σ env O r vs ds as → AO F B0 B H σ env O (.io i r) (.ref a :: vs) (d :: ds) (a :: as)
  | tmp {e : X} {r : Xs} {a : Addr} {vs : List V} {d : AV} {ds : List AV} {as : List Addr} : OwnV K w F B0 H (.ref a) d → mutA d = true → B a = H a → a ∉ as → AO F B0 B H σ env O r vs ds as → AO F B0 B H σ env O (.tmp e r) (.ref a :: vs) (d :: ds) (a :: as)
end
section
variable {K : PySem.W.Frag} {w : World} {IO : List (Nat × Addr)} {F F0 B0 B1 B H : Hp} {σ : L2.St} {env : Env} {O : Sl} {es : Xs} {vs : List V} {ds : List AV} {as : List Addr}
theorem OwnV.none_of {v : V} {d : AV} {a : Addr} (o : OwnV K w F B H v d) (e : v = .ref a) (h : mutA d = true) : F a = none ∧ B a = none ∧ ∃ u, H a = some u := by
  obtain ⟨b, u, e1, f1, f2, f3⟩ := o.addr h
  rw [e1] at e
  cases e
  exact ⟨f1, f2, u, f3⟩
/-- the places: slots' or new ones -/
theorem AO.places (S : SR K w IO F0 F B O σ H env) (h : AO K w F B0 B H σ env O es vs ds as) : ∀ a ∈ as, (∃ j ∈ iosOf es, j ∈ O ∧ σ[j]? = some (some (.ref a)) ∧ ∃ d, env[j]? = some (some d) ∧ mutA d = true) ∨ (B0 a = none ∧ ∃ u, B a = some u) := by
  induction h with
  | nil => intro a ha; cases ha
  | cons _ _ ih => exact ih
  | star _ _ ih => exact ih
  | io hi h1 h2 h3 _ _ _ ih =>
    intro b hb
    rcases List.mem_cons.mp hb with rfl | hb
    · exact .inl ⟨_, List.mem_cons_self, hi, h1, _, h2, h3⟩
    · rcases ih b hb with ⟨j, q1, q2⟩ | q
      · exact .inl ⟨j, List.mem_cons_of_mem _ q1, q2⟩
      · exact .inr q
  | tmp o hm hb' _ _ ih =>
    intro b hb
    rcases List.mem_cons.mp hb with rfl | hb
    · obtain ⟨f1, f2, u, f3⟩ := o.none_of rfl hm
      exact .inr ⟨f2, u, by rw [hb', f3]⟩
    · exact ih b hb
theorem AO.less (s : Same B0 B1) (h : AO K w F B1 B H σ env O es vs ds as) : AO K w F B0 B H σ env O es vs ds as := by
  induction h with
  | nil => exact .nil
  | cons r _ ih => exact .cons r ih
  | star r _ ih => exact .star r ih
  | io h1 h2 h3 h4 h5 h6 _ ih => exact .io h1 h2 h3 h4 h5 h6 ih
  | tmp o hm hb hn _ ih =>
    refine .tmp (o.at (Same.refl _) fun a u e hm' f1 f2 f3 => ⟨f1, s.free f2, f3⟩) hm hb hn ih
theorem AO.nodup (h : AO K w F B0 B H σ env O es vs ds as) : as.Nodup := by
  induction h with
  | nil => exact .nil
  | cons _ _ ih => exact ih
  | star _ _ ih => exact ih
  | io _ _ _ _ _ hn _ ih => exact List.nodup_cons.mpr ⟨hn, ih⟩
  | tmp _ _ _ hn _ ih => exact List.nodup_cons.mpr ⟨hn, ih⟩
/-- no io, no new argument -/
def plainXs : Xs → Bool
  | .nil => true
  | .cons _ r => plainXs r
  | .star _ r => plainXs r
  | _ => false
theorem AO.repL (h : AO K w F B0 B H σ env O es vs ds as) : plainXs es = true → RepL K w F vs ds := by
  induction h with
  | nil => exact fun _ => .nil
  | cons r _ ih => exact fun q => .cons r (ih q)
  | star r _ ih => exact fun q => r.append (ih q)
  | io => intro q; cases q
  | tmp => intro q; cases q
end
def rdXs (K : PySem.W.Frag) (w : World) (cal : Cal) (es : Xs) : TA := fun σ H Q => ∃ IO F0 F B O env ds env' O', SR K w IO F0 F B O σ H env ∧ evXs cal es env = .ok (ds, env') ∧ owXs O es = some O' ∧
  ∀ vs as F' B' H', SR K w IO F0 F' B' O' σ H' env' → Same F F' → Same B B' → (prXs es = true → Same H H') → AO K w F' B B' H' σ env' O' es vs ds as → Q vs H'
theorem upd_self {H : Hp} {a : Addr} {o : HO} (h : H a = some o) : upd H a o = H := by
  funext b
  by_cases hb : b = a
  · subst hb; rw [upd_same, h]
  · rw [upd_ne hb]
theorem look_ok {env : Env} {i : Nat} {d : AV} (h : look env i = .ok d) : env[i]? = some (some d) := by
  unfold look at h
  split at h
  · rename_i v hv; cases h; exact hv
  · cases h
section
variable {cal : Cal} {c : Cx}
theorem xs_nil : PA c [] (rdXs c.K c.w cal .nil) := pa_nil.imp fun σ H Q h => by
  obtain ⟨IO, F0, F, B, O, env, ds, env', O', S, e, o, q⟩ := h
  cases e
  cases o
  exact q [] [] F B H S (Same.refl _) (Same.refl _) (fun _ => Same.refl _) .nil
def stE : Expr → Bool
  | .Starred .. => true
  | _ => false
theorem star_plain {e : Expr} {es : List Expr} {env : PySem.Env} (h : stE e = false) : starEach (e :: es) env = (false, eval e env) :: starEach es env := by
  cases e <;> first | rfl | cases h
variable {l : Expr} {ls : List Expr} {a : X} {r : Xs}
theorem xs_cons (hs : stE l = false) (ha : OkE cal c l a) (hr : PA c ls (rdXs c.K c.w cal r)) : PA c (l :: ls) (rdXs c.K c.w cal (.cons a r)) := (pa_cons (ha.pe .val) hr (star_plain hs)).imp fun σ H Q h => by
  obtain ⟨IO, F0, F, B, O, env, ds, env', O', S, e, o, q⟩ := h
  obtain ⟨⟨da, e1⟩, ea, e⟩ := R.bind_eq_ok (show (evE cal a env >>= fun p => evXs cal r p.2 >>= fun p2 => R.ok (p.1 :: p2.1, p2.2)) = .ok (ds, env') from e)
  obtain ⟨⟨dr, e2⟩, er, e⟩ := R.bind_eq_ok e
  cases e
  obtain ⟨O1, oa, orr⟩ := andThen_some (show andThen (owE O a) (fun O1 => owXs O1 r) = some O' from o)
  refine ⟨IO, F0, F, B, O, env, da, e1, O1, S, ea, oa, fun va F1 H1 p1 r1 => ⟨IO, F0, F1, B, O1, e1, dr, _, O', p1.sr, er, orr, fun vs as F2 B2 H2 S2 f2 b2 h2 A => ?_⟩⟩
  refine q (va :: vs) as F2 B2 H2 S2 (p1.ff.trans f2) b2 (fun z => ?_) (.cons (Rep.mono f2 r1) A)
  rw [prXs, Bool.and_eq_true] at z
  exact (p1.hh z.1).trans (h2 z.2)
theorem xs_star {p : Pos} (ha : OkE cal c l a) (hr : PA c ls (rdXs c.K c.w cal r)) : PA c (.Starred l p :: ls) (rdXs c.K c.w cal (.star a r)) := (StX.pa_star (ha.pe .opd) hr).imp fun σ H Q h => by
  obtain ⟨IO, F0, F, B, O, env, ds, env', O', S, e, o, q⟩ := h
  obtain ⟨⟨da, e1⟩, ea, e⟩ := R.bind_eq_ok (show (evE cal a env >>= fun p => evXs cal r p.2 >>= fun p2 => match items? p.1 with
    | some xs => if xs.length ≤ line then R.ok (xs ++ p2.1, p2.2) else .bad
    | none => .bad) = .ok (ds, env') from e)
  obtain ⟨⟨dr, e2⟩, er, e⟩ := R.bind_eq_ok e
  obtain ⟨O1, oa, orr⟩ := andThen_some (show andThen (bor a O (owE O a)) (fun O1 => owXs O1 r) = some O' from o)
  refine ⟨IO, F0, F, B, O, env, da, e1, O1, S, ea, oa, fun va F1 H1 p1 r1 => ?_⟩
  have r1 : Opd c.K c.w F1 H1 va da := r1.1
  have fin : ∀ (xs : List AV) (us : List V) (x : Addr), items? da = some xs → va = .ref x → (SqT c.K H1 x us ∨ SqL c.K H1 x us) → RepL c.K c.w F1 us xs → ∃ p xs, va = V.ref p ∧ (SqT c.K H1 p xs ∨ SqL c.K H1 p xs) ∧ rdXs c.K c.w cal r σ H1 fun ys H2 => Q (xs ++ ys) H2 := fun xs us x hx hv hq hr => by
    have e : (match items? da with
      | some xs => if xs.length ≤ line then R.ok (xs ++ dr, e2) else .bad
      | none => .bad) = .ok (ds, env') := e
    rw [hx] at e
    have e : (if xs.length ≤ line then R.ok (xs ++ dr, e2) else .bad) = .ok (ds, env') := e
    split at e
    · cases e
      refine ⟨x, us, hv, hq, ⟨IO, F0, F1, B, O1, e1, dr, _, O', p1.sr, er, orr, fun vs as F2 B2 H2 S2 f2 b2 h2 A => ?_⟩⟩
      refine q (us ++ vs) as F2 B2 H2 S2 (p1.ff.trans f2) b2 (fun z => ?_) (.star (hr.mono f2) A)
      rw [prXs, Bool.and_eq_true] at z
      exact (p1.hh z.1).trans (h2 z.2)
    · cases e
  cases da with
  | list xs =>
    obtain ⟨x, us, hv, hq, hr⟩ := r1.listE
    exact fin xs us x rfl hv (.inr hq.sql) hr
  | tuple xs =>
    obtain ⟨x, us, hv, hq, hr⟩ := r1.tupE
    exact fin xs us x rfl hv (.inl (Same.tup p1.sr.fh hq)) hr
  | _ => cases e
theorem xs_io {i : Nat} {y : Str} {pos : Pos} (hN : c.N[i]? = some y) (hv : Vis c.env.scope y) (hd : (y == ("__debug__" : Str)) = false) (hcd : (y == ("__classdict__" : Str)) = false) (hr : PA c ls (rdXs c.K c.w cal r)) :
    PA c (.Name y pos :: ls) (rdXs c.K c.w cal (.io i r)) := (pa_cons (pe_var hN hv hd hcd) hr (star_plain rfl)).imp fun σ H Q h => by
  obtain ⟨IO, F0, F, B, O, env, ds, env', O', S, e, o, q⟩ := h
  obtain ⟨d0, el0, e⟩ := R.bind_eq_ok (show (look env i >>= fun _ => evXs cal r env >>= fun p => look p.2 i >>= fun v => if mutA v = true then R.ok (v :: p.1, p.2) else .bad) = .ok (ds, env') from e)
  obtain ⟨⟨dr, e1⟩, er, e⟩ := R.bind_eq_ok e
  obtain ⟨d, el, e⟩ := R.bind_eq_ok e
  obtain ⟨O1, orr, o⟩ := andThen_some (show andThen (owXs O r) (fun O1 => if O1.contains i && !(iosOf r).contains i then some O1 else none) = some O' from o)
  split at o
  · rename_i ho
    cases o
    have e : (if mutA d = true then R.ok (d :: dr, e1) else .bad) = .ok (ds, env') := e
    split at e
    · rename_i hm
      cases e
      have hd' := look_ok (show look env' i = .ok d from el)
      simp only [Bool.and_eq_true, List.contains_eq_mem, decide_eq_true_eq, Bool.not_eq_true', decide_eq_false_iff_not] at ho
      obtain ⟨v, hs, _⟩ := S.slot i d0 (look_ok el0)
      refine ⟨v, hs, IO, F0, F, B, O, env, dr, _, O', S, er, orr, fun vs as F2 B2 H2 S2 f2 b2 h2 A => ?_⟩
      obtain ⟨u, g1, g2, _⟩ := S2.slot i d hd'
      rw [hs] at g1
      cases g1
      obtain ⟨x, o1, e1, k1, k2, k3⟩ := (g2 ho.1).addr hm
      subst e1
      refine q (.ref x :: vs) (x :: as) F2 B2 H2 S2 f2 b2 (fun z => by cases z) (.io ho.1 hs hd' hm ho.2 (fun z => ?_) A)
      rcases A.places S2 x z with ⟨j, j1, j2, j3, dj, j4, j5⟩ | ⟨_, u, j1⟩
      · have := S2.apart i j x d dj ho.1 j2 hd' j4 hm j5 hs j3
        subst this
        exact ho.2 j1
      · rw [k2] at j1; cases j1
    · cases e
  · cases o
theorem xs_tmp (hs : stE l = false) (ha : OkE cal c l a) (hr : PA c ls (rdXs c.K c.w cal r)) : PA c (l :: ls) (rdXs c.K c.w cal (.tmp a r)) := (pa_cons (ha.pe .new) hr (star_plain hs)).imp fun σ H Q h => by
  obtain ⟨IO, F0, F, B, O, env, ds, env', O', S, e, o, q⟩ := h
  obtain ⟨⟨da, e1⟩, ea, e⟩ := R.bind_eq_ok (show (evE cal a env >>= fun p => evXs cal r p.2 >>= fun p2 => if mutA p.1 = true then R.ok (p.1 :: p2.1, p2.2) else .bad) = .ok (ds, env') from e)
  obtain ⟨⟨dr, e2⟩, er, e⟩ := R.bind_eq_ok e
  obtain ⟨O1, oa, o⟩ := andThen_some (show andThen (owE O a) (fun O1 => if freshE a then owXs O1 r else none) = some O' from o)
  split at o
  · rename_i hf
    have e : (if mutA da = true then R.ok (da :: dr, e2) else .bad) = .ok (ds, env') := e
    split at e
    · rename_i hm
      cases e
      refine ⟨IO, F0, F, B, O, env, da, e1, O1, S, ea, oa, fun va F1 H1 p1 r1 => ?_⟩
      unfold RV at r1
      simp only [hf, if_true] at r1
      obtain ⟨r1, n1⟩ := r1
      obtain ⟨x, u, e1, k1, k2, k3⟩ := r1.addr hm
      subst e1
      have S1 := p1.sr.put (o := u) k1 (n1 x rfl hm)
      rw [upd_self k3] at S1
      refine ⟨IO, F0, F1, upd B x u, O1, _, dr, _, O', S1, er, o, fun vs as F2 B2 H2 S2 f2 b2 h2 A => ?_⟩
      have bx : B2 x = some u := b2 _ _ upd_same
      have hx : H2 x = some u := S2.bh _ _ bx
      have fx : F2 x = none := by
        cases z : F2 x with
        | none => rfl
        | some o2 =>
          rcases S2.fb x o2 z with y | y
          · have := f2 x
            have y1 := p1.sr.f0 _ _ y
            rw [k1] at y1
            cases y1
          · rw [bx] at y; cases y
      have sB : Same B (upd B x u) := same_upd' k2
      refine q (.ref x :: vs) (x :: as) F2 B2 H2 S2 (p1.ff.trans f2) (sB.trans b2) (fun z => by cases z) (.tmp (r1.at f2 fun b o e _ g1 g2 g3 => ?_) hm (by rw [bx, hx]) (fun z => ?_) (A.less sB))
      · cases e
        rw [k3] at g3
        cases g3
        exact ⟨fx, g2, hx⟩
      · rcases A.places S2 x z with ⟨j, j1, j2, j3, dj, j4, j5⟩ | ⟨j1, _⟩
        · exact S2.noSlot (.inr (.inl (by rw [bx]; simp))) j j2 dj j4 j5 j3
        · rw [upd_same] at j1; cases j1
    · cases e
  · cases o
/-! ### displays -/
variable {es : Xs} {pos : Pos} {k : Nat}
theorem disp_imp {x0 : X} {m : Md} {f : List AV → R AV} {σ : L2.St} {H : Hp} {Q : VK} (hp : plainXs es = true) (hx : isVar x0 = none) (hev : ∀ env, evE cal x0 env = (do let (vs, e1) ← evXs cal es env; .ok (← f vs, e1)))
    (how : ∀ O, owE O x0 = owXs O es) (hpr : prE x0 = prXs es) (h : rd c.K c.w cal m x0 σ H Q) :
    rdXs c.K c.w cal es σ H fun vs H1 => ∃ F ds d, Same F H1 ∧ RepL c.K c.w F vs ds ∧ f ds = .ok d ∧ Res c.K c.w (isNew m x0) F H1 d Q := by
  obtain ⟨IO, F0, F, B, O, env, d, env', O', S, e, o, q⟩ := h
  rw [hev] at e
  obtain ⟨⟨ds, e1⟩, ea, e⟩ := R.bind_eq_ok e
  obtain ⟨d', ef, e⟩ := R.bind_eq_ok e
  cases e
  rw [owM_nv hx, how] at o
  refine ⟨IO, F0, F, B, O, env, ds, _, O', S, ea, o, fun vs as F1 B1 H1 S1 f1 b1 h1 A => ⟨F1, ds, d, S1.fh, A.repL hp, ef, ?_⟩⟩
  exact res_of (.inr hx) (S1.less b1) f1 (fun h => h1 (by rw [← hpr]; exact h)) q
theorem ok_tup (hp : plainXs es = true) (ha : PA c ls (rdXs c.K c.w cal es)) : OkE cal c (.Tuple ls k pos) (.tup es) :=
  OkE.of rfl fun m => (pe_tup ha).imp fun σ H Q q => by
    obtain ⟨IO, F0, F, B, O, env, ds, env', O', S, e, o, q⟩ := disp_imp (x0 := .tup es) (f := tupR) hp rfl (fun env => rfl) (fun O => rfl) rfl q
    refine ⟨IO, F0, F, B, O, env, ds, env', O', S, e, o, fun vs as F1 B1 H1 S1 f1 b1 h1 A => ?_⟩
    obtain ⟨F2, ds, d, hF, r, ef, res⟩ := q vs as F1 B1 H1 S1 f1 b1 h1 A
    obtain ⟨rfl, hz⟩ := tupR_ok ef
    exact ⟨by rw [r.length]; exact hz, fun p hp => res.newT hF r hp⟩
theorem ok_lst (hp : plainXs es = true) (ha : PA c ls (rdXs c.K c.w cal es)) : OkE cal c (.List ls pos) (.lst es) :=
  OkE.of rfl fun m => (pe_lst ha).imp fun σ H Q q => by
    obtain ⟨IO, F0, F, B, O, env, ds, env', O', S, e, o, q⟩ := disp_imp (x0 := .lst es) (f := lstR) hp rfl (fun env => rfl) (fun O => rfl) rfl q
    refine ⟨IO, F0, F, B, O, env, ds, env', O', S, e, o, fun vs as F1 B1 H1 S1 f1 b1 h1 A => ?_⟩
    obtain ⟨F2, ds, d, hF, r, ef, res⟩ := q vs as F1 B1 H1 S1 f1 b1 h1 A
    obtain ⟨rfl, hz⟩ := lstR_ok ef
    exact ⟨by rw [r.length]; exact hz, fun p hp => res.newL hF r hp⟩
theorem ok_dict0 : OkE cal c (.Dict [] [] pos) (.dict .nil) :=
  OkE.of rfl fun m => pe_dnewK.imp fun σ H Q q => by
    obtain ⟨IO, F0, F, B, O, env, d, env', O', S, e, o, q⟩ := q
    cases e
    rw [owM_nv rfl] at o
    cases o
    intro p hp
    exact (res_of (x := .dict .nil) (.inr rfl) S (Same.refl _) (fun _ => Same.refl _) q).newD (tk := false) S.fh .nil hp
/-! ### a if t else b -/
variable {t l2 : Expr} {b d : X}
theorem ite_imp {m : Md} {σ : L2.St} {H : Hp} {Q : VK} (h : rd c.K c.w cal m (.ite d a b) σ H Q) : tIf (tB (rd c.K c.w cal .val d)) (rd c.K c.w cal .val a) (rd c.K c.w cal .val b) σ H Q := by
  obtain ⟨IO, F0, F, B, O, env, dd, env', O', S, e, o, q⟩ := h
  obtain ⟨⟨dc, e1⟩, ec, e⟩ := R.bind_eq_ok (show (evE cal d env >>= fun p => asB p.1 >>= fun k => match k with
    | true => evE cal a p.2
    | false => evE cal b p.2) = .ok (dd, env') from e)
  obtain ⟨k, ek, e5⟩ := R.bind_eq_ok e
  obtain rfl := asB_ok ek
  rw [owM_nv rfl] at o
  obtain ⟨O1, oc, o⟩ := andThen_some (show andThen (owE O d) (fun O1 => both (owE O1 a) (owE O1 b)) = some O' from o)
  obtain ⟨A, A2, oa, ob, rfl⟩ := both_some o
  refine ⟨IO, F0, F, B, O, env, _, e1, O1, S, ec, oc, fun v F1 H1 p1 r1 => ?_⟩
  cases (show Rep c.K c.w F1 v (.bool k) from r1)
  refine ⟨k, rfl, ?_⟩
  have pr : prE (.ite d a b) = true → prE d = true ∧ prE a = true ∧ prE b = true := fun z => by
    simp only [prE, Bool.and_eq_true] at z
    exact ⟨z.1.1, z.1.2, z.2⟩
  cases k with
  | true =>
    show rd c.K c.w cal .val a σ H1 Q
    refine ⟨IO, F0, F1, B, O1, e1, dd, _, A, p1.sr, e5, oa, fun u F2 H2 p2 r2 => ?_⟩
    obtain ⟨F3, p3, s3⟩ := meet_end (O' := meet A A2) (p1.trans p2 (pr := prE (.ite d a b)) fun z => ⟨(pr z).1, (pr z).2.1⟩) (fun i hi => (mem_meet.mp hi).1) (fun z => z)
    exact q _ F3 H2 p3 (imm_rv rfl p3.sr.fh (Rep.mono s3 r2))
  | false =>
    show rd c.K c.w cal .val b σ H1 Q
    refine ⟨IO, F0, F1, B, O1, e1, dd, _, A2, p1.sr, e5, ob, fun u F2 H2 p2 r2 => ?_⟩
    obtain ⟨F3, p3, s3⟩ := meet_end (O' := meet A A2) (p1.trans p2 (pr := prE (.ite d a b)) fun z => ⟨(pr z).1, (pr z).2.2⟩) (fun i hi => (mem_meet.mp hi).2) (fun z => z)
    exact q _ F3 H2 p3 (imm_rv rfl p3.sr.fh (Rep.mono s3 r2))
theorem pt_ifE {X : Cx} {c a b : Expr} {tc ta tb : TT} {pos : Pos} (hc : PT X c tc) (ha : PT X a ta) (hb : PT X b tb) : PT X (.IfExp c a b pos) (fun σ H Q => tc σ H fun d H1 => if d = true then ta σ H1 Q else tb σ H1 Q) := by
  refine ⟨fun pins s σ H Q I h => ?_⟩
  show wpAny _ _ (do if ← isTrue c X.env (eval c X.env) then isTrue a X.env (eval a X.env) else isTrue b X.env (eval b X.env)) _ _ _
  refine wpAny_bind (thn (hc.run pins s σ H _ I h) fun d s1 ⟨H1, I1, q1⟩ => ?_)
  cases d with
  | true => exact ha.run pins s1 σ H1 Q I1 q1
  | false => exact hb.run pins s1 σ H1 Q I1 q1
theorem ok_ite (hc : OkE cal c t d) (ha : OkE cal c l a) (hb : OkE cal c l2 b) : OkE cal c (.IfExp t l l2 pos) (.ite d a b) := by
  refine ⟨fun m => (pe_ifExp hc.pt (ha.pe .val) (hb.pe .val)).imp fun σ H Q q => ite_imp q, (pt_ifE hc.pt ha.pt hb.pt).imp fun σ H Q q => ite_imp q, fun _ _ _ z => by cases z⟩
/-! ### slices -/
def rdOx (K : PySem.W.Frag) (w : World) (cal : Cal) (x : Ox) : TO := fun σ H Q => ∃ IO F0 F B O env o env' O', SR K w IO F0 F B O σ H env ∧ evOx cal x env = .ok (Option.map PyData.int o, env') ∧ owOx O x = some O' ∧
  ∀ F' H', Pst K w IO F0 F B O' σ H env' (prOx x) F' H' → Q o H'
theorem PO.imp' {X : Cx} {e : Option Expr} {t t' : TO} (h : PO X e t) (hi : ∀ σ H Q, t' σ H Q → t σ H Q) : PO X e t' := ⟨fun pins s σ H Q I q => h.run pins s σ H Q I (hi σ H Q q)⟩
theorem ox_none : PO c none (rdOx c.K c.w cal .none) := PO.imp' po_none fun σ H Q h => by
  obtain ⟨IO, F0, F, B, O, env, d, env', O', S, e, o, q⟩ := h
  cases o
  cases d with
  | none => cases e; exact q F H ⟨S, Same.refl _, fun _ => Same.refl _⟩
  | some i => cases e
theorem ox_some (ha : OkE cal c l a) : PO c (some l) (rdOx c.K c.w cal (.some a)) := PO.imp' (po_some (ha.pe .val)) fun σ H Q h => by
  obtain ⟨IO, F0, F, B, O, env, d, env', O', S, e, o, q⟩ := h
  obtain ⟨⟨da, e1⟩, ea, e⟩ := R.bind_eq_ok (show (evE cal a env >>= fun p => R.ok (some p.1, p.2)) = .ok (Option.map PyData.int d, env') from e)
  cases d with
  | none => cases e
  | some i =>
    cases e
    refine ⟨IO, F0, F, B, O, env, _, _, O', S, ea, o, fun v F1 H1 p1 r1 => ?_⟩
    cases (show Rep c.K c.w F1 v (.int i) from r1)
    exact ⟨i, rfl, q F1 H1 p1⟩
theorem ok_slc (RR : Rules c) {lo hi : Option Expr} {xl xh : Ox} {p2 : Pos} (ha : OkE cal c l a) (hl : PO c lo (rdOx c.K c.w cal xl)) (hh : PO c hi (rdOx c.K c.w cal xh)) : OkE cal c (.Subscript l (.Slice lo hi none p2) pos) (.slc a xl xh) :=
  OkE.of rfl fun m => (pe_slice (RR.slc (isNew m (.slc a xl xh))) (ha.pe (opM (prOx xl && prOx xh))) hl hh).imp fun σ H Q h => by
    obtain ⟨IO, F0, F, B, O, env, d, env', O', S, e, o, q⟩ := h
    obtain ⟨⟨da, e1⟩, ea, e⟩ := R.bind_eq_ok (show (evE cal a env >>= fun p => evOx cal xl p.2 >>= fun pl => evOx cal xh pl.2 >>= fun ph => match pl.1, ph.1 with
      | none, none => (slcop p.1 none none >>= fun v => R.ok (v, ph.2))
      | some (.int i), none => (slcop p.1 (some i) none >>= fun v => R.ok (v, ph.2))
      | none, some (.int j) => (slcop p.1 none (some j) >>= fun v => R.ok (v, ph.2))
      | some (.int i), some (.int j) => (slcop p.1 (some i) (some j) >>= fun v => R.ok (v, ph.2))
      | _, _ => .bad) = .ok (d, env') from e)
    obtain ⟨⟨dl, e2⟩, el, e⟩ := R.bind_eq_ok e
    obtain ⟨⟨dh, e3⟩, eh, e⟩ := R.bind_eq_ok e
    have fin : ∃ ol oh : Option Int, dl = Option.map PyData.int ol ∧ dh = Option.map PyData.int oh ∧ (slcop da ol oh >>= fun v => R.ok (v, e3)) = .ok (d, env') := by
      have e : (match dl, dh with
        | none, none => (slcop da none none >>= fun v => R.ok (v, e3))
        | some (.int i), none => (slcop da (some i) none >>= fun v => R.ok (v, e3))
        | none, some (.int j) => (slcop da none (some j) >>= fun v => R.ok (v, e3))
        | some (.int i), some (.int j) => (slcop da (some i) (some j) >>= fun v => R.ok (v, e3))
        | _, _ => .bad) = .ok (d, env') := e
      split at e
      · exact ⟨none, none, rfl, rfl, e⟩
      · exact ⟨some _, none, rfl, rfl, e⟩
      · exact ⟨none, some _, rfl, rfl, e⟩
      · exact ⟨some _, some _, rfl, rfl, e⟩
      · cases e
    obtain ⟨ol, oh, rfl, rfl, e9⟩ := fin
    obtain ⟨dv, es, e10⟩ := R.bind_eq_ok e9
    cases e10
    rw [owM_nv rfl] at o
    obtain ⟨O1, oa, o⟩ := andThen_some (show andThen (if prOx xl && prOx xh then bor a O (owE O a) else owE O a) (fun O1 => andThen (owOx O1 xl) fun O2 => owOx O2 xh) = some O' from o)
    obtain ⟨O2, o2, o3⟩ := andThen_some o
    refine ⟨IO, F0, F, B, O, env, da, e1, O1, S, ea, by unfold opM; revert oa; cases (prOx xl && prOx xh) <;> exact fun z => z, fun va F1 H1 p1 r1 => ?_⟩
    refine ⟨IO, F0, F1, B, O1, e1, ol, e2, O2, p1.sr, el, o2, fun F2 H2 p2 => ⟨IO, F0, F2, B, O2, e2, oh, _, O', p2.sr, eh, o3, fun F3 H3 p3 => ?_⟩⟩
    have p23 : Pst c.K c.w IO F0 F1 B O' σ H1 _ (prOx xl && prOx xh) F3 H3 := p2.trans p3 fun z => by rw [Bool.and_eq_true] at z; exact z
    refine ⟨F3, da, d, p3.sr.fh, ?_, es, ?_⟩
    · cases hp : (prOx xl && prOx xh) with
      | true => rw [hp] at r1 p23; exact Opd.ext p23.ff (p23.hh rfl) r1.1
      | false => rw [hp] at r1; exact (Rep.mono p23.ff r1).opd p23.sr.fh
    · refine res_of (.inr rfl) p3.sr (p1.ff.trans p23.ff) (fun z => ?_) q
      have z : (prE a && prOx xl && prOx xh) = true := z
      simp only [Bool.and_eq_true] at z
      exact (p1.hh z.1.1).trans (p23.hh (by rw [z.1.2, z.2]; rfl))
end
end Ev
end

section
set_option linter.all false
set_option autoImplicit false
set_option maxRecDepth 100000
/-! EvH: calls of defs; built-ins with one or two arguments; methods; pop. -/
namespace Ev
open PySem PySem.Spec PyProof.Rows L2
/-- a callee's arguments: F frozen, as: where the io parameters' lists and dicts stand -/
structure ArgOk (K : PySem.W.Frag) (w : World) (F H : Hp) (io : List Nat) (vs : List V) (ds : List AV) (as : List Addr) : Prop where
  len : vs.length = ds.length
  rep : ∀ (j : Nat) v d, j ∉ io → vs[j]? = some v → ds[j]? = some d → Rep K w F v d
  own : ∀ p ∈ io.zip as, ∃ d, vs[p.1]? = some (.ref p.2) ∧ ds[p.1]? = some d ∧ mutA d = true ∧ OwnV K w F (fun _ => none) H (.ref p.2) d
  al : as.length = io.length
  nd : as.Nodup
/-- what a def promises -/
def spD (K : PySem.W.Frag) (w : World) (f : List AV → R (AV × List AV)) (io : List Nat) : Sp := fun vs H Q _ => ∃ F ds as v outs, Same F H ∧ ArgOk K w F H io vs ds as ∧ f ds = .ok (v, outs) ∧
  ∀ r F' H', Same F F' → Same F' H' → (∀ a o, F' a = some o → F a = some o ∨ H a = none) → (∀ a o, H a = some o → a ∉ as → H' a = some o) → (∀ p ∈ as.zip outs, OwnV K w F' (fun _ => none) H' (.ref p.1) p.2) → Rep K w F' r v → Q r H'
def posIo : Nat → Xs → List Nat
  | _, .nil => []
  | j, .cons _ r => posIo (j + 1) r
  | j, .star _ r => posIo (j + 1) r
  | j, .tmp _ r => j :: posIo (j + 1) r
  | j, .io _ r => j :: posIo (j + 1) r
def noStar : Xs → Bool
  | .nil => true
  | .cons _ r => noStar r
  | .star _ _ => false
  | .tmp _ r => noStar r
  | .io _ r => noStar r
section
variable {K : PySem.W.Frag} {w : World} {IO : List (Nat × Addr)} {F F' F0 B0 B H H' : Hp} {σ : L2.St} {env : Env} {O : Sl} {es : Xs} {vs : List V} {ds outs : List AV} {as : List Addr}
theorem OwnV.bare {v : V} {d : AV} (o : OwnV K w F B H v d) : OwnV K w F (fun _ => none) H v d := o.at (Same.refl _) fun a u _ _ f1 _ f3 => ⟨f1, rfl, f3⟩
theorem AO.args (S : SR K w IO F0 F B O σ H env) (h : AO K w F B0 B H σ env O es vs ds as) : noStar es = true → ∀ j, vs.length = ds.length ∧ as.length = (posIo j es).length ∧
    (∀ (i : Nat) v d, (j + i) ∉ posIo j es → vs[i]? = some v → ds[i]? = some d → Rep K w F v d) ∧
    ∀ p ∈ (posIo j es).zip as, ∃ i d, p.1 = j + i ∧ vs[i]? = some (.ref p.2) ∧ ds[i]? = some d ∧ mutA d = true ∧ OwnV K w F (fun _ => none) H (.ref p.2) d := by
  induction h with
  | nil => exact fun _ j => ⟨rfl, rfl, fun i v d _ e => by simp at e, fun p hp => by simp [posIo] at hp⟩
  | cons r _ ih =>
    intro z j
    obtain ⟨h1, h2, h3, h4⟩ := ih z (j + 1)
    refine ⟨by simp [h1], h2, fun i v d hn e1 e2 => ?_, fun p hp => ?_⟩
    · cases i with
      | zero => simp at e1 e2; subst e1; subst e2; exact r
      | succ i => exact h3 i v d (fun q => hn (by rw [show j + (i + 1) = j + 1 + i by omega]; exact q)) (by simpa using e1) (by simpa using e2)
    · obtain ⟨i, d, g1, g2, g3, g4⟩ := h4 p hp
      exact ⟨i + 1, d, by omega, by simpa using g2, by simpa using g3, g4⟩
  | star => intro z; cases z
  | @io i r a vs d ds as hi hs hd hm _ _ _ ih =>
    intro z j
    obtain ⟨h1, h2, h3, h4⟩ := ih z (j + 1)
    refine ⟨by simp [h1], by simp [posIo, h2], fun i v d hn e1 e2 => ?_, fun p hp => ?_⟩
    · cases i with
      | zero => exact absurd (by simp [posIo]) hn
      | succ i => exact h3 i v d (fun q => hn (by rw [show j + (i + 1) = j + 1 + i by omega]; exact List.mem_cons_of_mem _ q)) (by simpa using e1) (by simpa using e2)
    · rcases List.mem_cons.mp (show p ∈ (j, a) :: (posIo (j + 1) r).zip as from hp) with rfl | hp
      · obtain ⟨v, g1, g2, _⟩ := S.slot i d hd
        rw [hs] at g1
        cases g1
        exact ⟨0, d, by simp, by simp, by simp, hm, (g2 hi).bare⟩
      · obtain ⟨i, d, g1, g2, g3, g4⟩ := h4 p hp
        exact ⟨i + 1, d, by omega, by simpa using g2, by simpa using g3, g4⟩
  | @tmp e r a vs d ds as o hm hb _ _ ih =>
    intro z j
    obtain ⟨h1, h2, h3, h4⟩ := ih z (j + 1)
    refine ⟨by simp [h1], by simp [posIo, h2], fun i v d hn e1 e2 => ?_, fun p hp => ?_⟩
    · cases i with
      | zero => exact absurd (by simp [posIo]) hn
      | succ i => exact h3 i v d (fun q => hn (by rw [show j + (i + 1) = j + 1 + i by omega]; exact List.mem_cons_of_mem _ q)) (by simpa using e1) (by simpa using e2)
    · rcases List.mem_cons.mp (show p ∈ (j, a) :: (posIo (j + 1) r).zip as from hp) with rfl | hp
      · exact ⟨0, d, by simp, by simp, by simp, hm, o.bare⟩
      · obtain ⟨i, d, g1, g2, g3, g4⟩ := h4 p hp
        exact ⟨i + 1, d, by omega, by simpa using g2, by simpa using g3, g4⟩
theorem AO.argOk (S : SR K w IO F0 F B O σ H env) (h : AO K w F B0 B H σ env O es vs ds as) (hn : noStar es = true) : ArgOk K w F H (posIo 0 es) vs ds as := by
  obtain ⟨h1, h2, h3, h4⟩ := h.args S hn 0
  refine ⟨h1, fun j v d hj e1 e2 => h3 j v d (by simpa using hj) e1 e2, fun p hp => ?_, h2, h.nodup⟩
  obtain ⟨i, d, g1, g2, g3, g4, g5⟩ := h4 p hp
  have : p.1 = i := by omega
  exact ⟨d, by rw [this]; exact g2, by rw [this]; exact g3, g4, g5⟩
theorem AO.ios (h : AO K w F B0 B H σ env O es vs ds as) : ∀ j ∈ iosOf es, j ∈ O ∧ ∃ a d, a ∈ as ∧ σ[j]? = some (some (.ref a)) ∧ env[j]? = some (some d) ∧ mutA d = true := by
  induction h with
  | nil => intro j hj; cases hj
  | cons _ _ ih => exact ih
  | star _ _ ih => exact ih
  | io hi hs hd hm _ _ _ ih =>
    intro j hj
    rcases List.mem_cons.mp hj with rfl | hj
    · exact ⟨hi, _, _, List.mem_cons_self, hs, hd, hm⟩
    · obtain ⟨h1, a, d, h2, h3⟩ := ih j hj
      exact ⟨h1, a, d, List.mem_cons_of_mem _ h2, h3⟩
  | tmp _ _ _ _ _ ih =>
    intro j hj
    obtain ⟨h1, a, d, h2, h3⟩ := ih j hj
    exact ⟨h1, a, d, List.mem_cons_of_mem _ h2, h3⟩
theorem AO.pure (h : AO K w F B0 B H σ env O es vs ds as) : prXs es = true → as = [] := by
  induction h with
  | nil => exact fun _ => rfl
  | cons _ _ ih => intro z; rw [prXs, Bool.and_eq_true] at z; exact ih z.2
  | star _ _ ih => intro z; rw [prXs, Bool.and_eq_true] at z; exact ih z.2
  | io => intro z; cases z
  | tmp => intro z; cases z
theorem AO.put (h : AO K w F B0 B H σ env O es vs ds as) : ∀ {outs : List AV} {e1 e2 : Env}, putIos es outs e1 = .ok e2 → e2.length = e1.length ∧ ∀ (i : Nat) d, e2[i]? = some (some d) → (i ∉ iosOf es ∧ e1[i]? = some (some d)) ∨ (i ∈ iosOf es ∧ ∃ a, σ[i]? = some (some (.ref a)) ∧ (a, d) ∈ as.zip outs) := by
  induction h with
  | nil =>
    intro outs e1 e2 e
    cases outs with
    | nil => cases e; exact ⟨rfl, fun i d q => .inl ⟨by simp [iosOf], q⟩⟩
    | cons => cases e
  | cons _ _ ih => exact fun {outs e1 e2} e => ih (show putIos _ outs e1 = .ok e2 by cases outs <;> exact e)
  | star _ _ ih => exact fun {outs e1 e2} e => ih (show putIos _ outs e1 = .ok e2 by cases outs <;> exact e)
  | @io j r a vs d ds as hi hs hd hm _ _ _ ih =>
    intro outs e1 e2 e
    cases outs with
    | nil => cases e
    | cons o outs =>
      obtain ⟨l, h⟩ := ih (show putIos r outs (e1.set j (some o)) = .ok e2 from e)
      refine ⟨by rw [l, List.length_set], fun i d q => ?_⟩
      rcases h i d q with ⟨h1, h2⟩ | ⟨h1, b, h2, h3⟩
      · by_cases hj : j = i
        · subst hj
          rw [List.getElem?_set] at h2
          by_cases hl : j < e1.length
          · simp [hl] at h2
            subst h2
            exact .inr ⟨List.mem_cons_self, a, hs, List.mem_cons_self⟩
          · simp [hl] at h2
        · rw [List.getElem?_set_ne hj] at h2
          exact .inl ⟨fun z => (List.mem_cons.mp z).elim (fun z => hj z.symm) h1, h2⟩
      · exact .inr ⟨List.mem_cons_of_mem _ h1, b, h2, List.mem_cons_of_mem _ h3⟩
  | @tmp e r a vs d ds as o hm hb _ _ ih =>
    intro outs e1 e2 e
    cases outs with
    | nil => cases e
    | cons o outs =>
      obtain ⟨l, h⟩ := ih (show putIos r outs e1 = .ok e2 from e)
      refine ⟨l, fun i d q => ?_⟩
      rcases h i d q with h1 | ⟨h1, b, h2, h3⟩
      · exact .inl h1
      · exact .inr ⟨h1, b, h2, List.mem_cons_of_mem _ h3⟩
/-- behind a call -/
theorem SR.called {env2 : Env} (S : SR K w IO F0 F B O σ H env) (sB : Same B0 B) (A : AO K w F B0 B H σ env O es vs ds as) (hp : putIos es outs env = .ok env2)
    (h1 : Same F F') (h2 : Same F' H') (h3 : ∀ a o, F' a = some o → F a = some o ∨ H a = none) (h4 : ∀ a o, H a = some o → a ∉ as → H' a = some o) (h5 : ∀ p ∈ as.zip outs, OwnV K w F' (fun _ => none) H' (.ref p.1) p.2) :
    SR K w IO F0 F' B0 O σ H' env2 := by
  obtain ⟨l, get⟩ := A.put hp
  have io_free : ∀ a ∈ as, B0 a = none := fun a ha => by
    rcases A.places S a ha with ⟨j, _, q2, q3, d, q4, q5⟩ | q
    · obtain ⟨v, g1, g2, _⟩ := S.slot j d q4
      rw [q3] at g1; cases g1
      obtain ⟨_, f2, _⟩ := (g2 q2).none_of rfl q5
      exact sB.free f2
    · exact q.1
  have old : ∀ (i : Nat) d, i ∈ O → env2[i]? = some (some d) → mutA d = true → ∃ d0, env[i]? = some (some d0) ∧ mutA d0 = true := fun i d hi e hm => by
    rcases get i d e with ⟨_, q⟩ | ⟨q, _⟩
    · exact ⟨d, q, hm⟩
    · obtain ⟨_, a, d0, _, _, g1, g2⟩ := A.ios i q
      exact ⟨d0, g1, g2⟩
  refine ⟨h2, fun a o e => ?_, S.f0.trans h1, fun a o e => ?_, fun i d e => ?_, fun i j a d e hi hj e1 e2 m1 m2 s1 s2 => ?_, l.trans S.len, S.io⟩
  · exact h4 a o (S.bh _ _ (sB _ _ e)) fun z => by rw [io_free a z] at e; cases e
  · rcases h3 a o e with q | q
    · exact (S.fb a o q).imp id fun z => sB.free z
    · exact .inr (sB.free (S.bh.free q))
  · rcases get i d e with ⟨q1, q2⟩ | ⟨q1, a, q2, q3⟩
    · obtain ⟨v, g1, g2, g3⟩ := S.slot i d q2
      refine ⟨v, g1, fun hi => (g2 hi).at h1 fun a u ev hm f1 f2 f3 => ⟨?_, sB.free f2, h4 a u f3 fun z => ?_⟩, fun hi => Rep.mono h1 (g3 hi)⟩
      · cases z : F' a with
        | none => rfl
        | some o =>
          rcases h3 a o z with y | y
          · rw [f1] at y; cases y
          · rw [f3] at y; cases y
      · rcases A.places S a z with ⟨j, p1, p2, p3, dj, p4, p5⟩ | ⟨_, u', p⟩
        · have := S.apart i j a d dj hi p2 q2 p4 hm p5 (by rw [g1, ev]) p3
          subst this
          exact q1 p1
        · rw [f2] at p; cases p
    · refine ⟨.ref a, q2, fun _ => ?_, fun hi => absurd (A.ios i q1).1 hi⟩
      have ha : a ∈ as := (List.of_mem_zip q3).1
      exact (h5 _ q3).at (Same.refl _) fun b u eb _ f1 _ f3 => ⟨f1, by cases eb; exact io_free a ha, f3⟩
  · obtain ⟨d0, g1, g2⟩ := old i d hi e1 m1
    obtain ⟨d1, k1, k2⟩ := old j e hj e2 m2
    exact S.apart i j a d0 d1 hi hj g1 k1 g2 k2 s1 s2
end
/-- the built-ins' names: no name of the module -/
def bnames : List Str := ["len", "isinstance", "sorted", "set", "list", "tuple", "range", "enumerate", "sum", "min", "max", "all", "any", "int", "bool", "abs", "str", "dict"]
/-- the surroundings -/
structure Good (P : Tab) (k : Nat) (c : Cx) : Prop where
  nd : c.N.Nodup
  calm : c.calm = true
  room : Room k c.A
  fre : ∀ x ∈ bnames, c.mg x = none
  fn : ∀ f D, P f = some D → ∃ (fa : Addr) (fd : FuncData) (ps : List Str), FnOk c.prog c.w c.K c.mg c.base CX0 k fa fd ps (spD c.K c.w (callD P k f) D.io) ∧ c.mg (P.nm f) = some (.ref fa) ∧ PySem.W.keepIn c.K (.ref fa) = true ∧ Binds c.K fd ps []
  glo : ∀ y a, P.g y = some a → ∃ v u, c.mg y = some u ∧ RelV v u ∧ ∀ F, Rep c.K c.w F v a
section
variable {P : Tab} {k : Nat} {c : Cx} {f : Nat} {D : Def} {es : Xs} {p pos : Pos} {l : Expr} {ls : List Expr}
theorem call_imp {cal : Cal} {m : Md} {σ : L2.St} {H : Hp} {Q : VK} (hn : noStar es = true) (h : rd c.K c.w cal m (.call f es) σ H Q) : tCall (spD c.K c.w (cal f) (posIo 0 es)) [] E0 (rdXs c.K c.w cal es) σ H Q := by
  obtain ⟨IO, F0, F, B, O, env, d, env', O', S, e, o, q⟩ := h
  obtain ⟨⟨ds, e1⟩, ea, e⟩ := R.bind_eq_ok (show (evXs cal es env >>= fun p => cal f p.1 >>= fun r => putIos es r.2 p.2 >>= fun z => R.ok (r.1, z)) = .ok (d, env') from e)
  obtain ⟨⟨v, outs⟩, ec, e⟩ := R.bind_eq_ok e
  obtain ⟨e2, ep, e⟩ := R.bind_eq_ok e
  cases e
  rw [owM_nv rfl] at o
  refine ⟨IO, F0, F, B, O, env, ds, e1, O', S, ea, o, fun vs as F1 B1 H1 S1 f1 b1 h1 A => ?_⟩
  show spD c.K c.w (cal f) (posIo 0 es) (vs ++ []) H1 Q E0
  rw [List.append_nil]
  refine ⟨F1, ds, as, _, outs, S1.fh, A.argOk S1 hn, ec, fun r F2 H2 g1 g2 g3 g4 g5 g6 => ?_⟩
  have S2 := S1.called b1 A ep g1 g2 g3 g4 g5
  refine q r F2 H2 ⟨S2, f1.trans g1, fun z => ?_⟩ (imm_rv rfl S2.fh g6)
  have hz : prXs es = true := z
  have e0 := A.pure hz
  subst e0
  exact (h1 hz).trans fun a o ha => g4 a o ha (by simp)
theorem starEach_plain {env : PySem.Env} {pos : Pos} : ∀ {ls : List Expr}, ls.all (fun e => !stE e) = true → (backTo pos (starEach ls env)).any (·.1) = false
  | [], _ => rfl
  | e :: ls, h => by
    simp only [List.all_cons, Bool.and_eq_true, Bool.not_eq_true'] at h
    rw [star_plain h.1]
    show (false || (backTo pos (starEach ls env)).any (·.1)) = false
    rw [starEach_plain h.2]
    rfl
theorem ok_call (G : Good P k c) (hP : P f = some D) (hio : posIo 0 es = D.io) (hn : noStar es = true) (hg : Gl c (P.nm f)) (hd : (P.nm f == ("__debug__" : Str)) = false) (hs : (l :: ls).all (fun e => !stE e) = true) (ha : PA c (l :: ls) (rdXs c.K c.w (callD P k) es)) :
    OkE (callD P k) c (.Call (.Name (P.nm f) p) (l :: ls) [] pos) (.call f es) := by
  obtain ⟨fa, fd, ps, F, hm, kp, b⟩ := G.fn f D hP
  have hs' := hs
  simp only [List.all_cons, Bool.and_eq_true, Bool.not_eq_true'] at hs'
  refine OkE.of rfl fun m => (pe_call F G.room hg hm kp b .nil pass0 ha hd (star_plain hs'.1) (starEach_plain hs'.2)).imp fun σ H Q q => ?_
  have := call_imp hn q
  rw [hio] at this
  exact this
theorem ok_call0 (G : Good P k c) (hP : P f = some D) (hio : posIo 0 .nil = D.io) (hg : Gl c (P.nm f)) (hd : (P.nm f == ("__debug__" : Str)) = false) : OkE (callD P k) c (.Call (.Name (P.nm f) p) [] [] pos) (.call f .nil) := by
  obtain ⟨fa, fd, ps, F, hm, kp, b⟩ := G.fn f D hP
  refine OkE.of rfl fun m => (pe_call0 F G.room hg hm kp b .nil pass0 hd).imp fun σ H Q q => ?_
  have h := call_imp (es := .nil) rfl q
  rw [hio] at h
  obtain ⟨IO, F0, F, B, O, env, ds, env', O', S, e, o, q⟩ := h
  cases e
  cases o
  exact q [] [] F B H S (Same.refl _) (Same.refl _) (fun _ => Same.refl _) .nil
end
/-! ### built-ins -/
section
variable {cal : Cal} {c : Cx} {e l r t : Expr} {a b d : X}
theorem ok_blt1 (f : Blt) (he : tvE e = true) (h : ∀ nb t, (nb = true → freshB f = true) → PE c l t → PE c e (tUn (rUn c.K c.w (fun x => bltop f [x]) nb) t)) (ha : OkE cal c l a) : OkE cal c e (.blt f (.cons a .nil)) :=
  OkE.of he fun m => (h (isNew m (.blt f (.cons a .nil))) _ (fun z => by cases m <;> first | exact z | cases z) (ha.pe .opd)).imp fun σ H Q q => one_imp (f := fun x => bltop f [x]) (m1 := .opd) (by decide) rfl (fun env => by
    show ((evE cal a env >>= fun p => (R.ok ([], p.2) : R (List AV × Env)) >>= fun p2 => R.ok (p.1 :: p2.1, p2.2)) >>= fun p => bltop f p.1 >>= fun v => R.ok (v, p.2)) = (evE cal a env >>= fun p => bltop f [p.1] >>= fun v => R.ok (v, p.2))
    cases evE cal a env with
    | ok p => rfl
    | exc _ _ => rfl
    | bad => rfl) (fun O => rfl) (by show (prE a && true) = prE a; cases prE a <;> rfl) q
theorem ok_blt2 (f : Blt) (he : tvE e = true) (h : ∀ nb t u, (nb = true → freshB f = true) → PE c l t → PE c r u → PE c e (tOp (rOp c.K c.w (fun x y => bltop f [x, y]) nb) t u)) (ha : OkE cal c l a) (hb : OkE cal c r b) : OkE cal c e (.blt f (.cons a (.cons b .nil))) :=
  OkE.of he fun m => (h (isNew m (.blt f (.cons a (.cons b .nil)))) _ _ (fun z => by cases m <;> first | exact z | cases z) (ha.pe .val) (hb.pe .val)).imp fun σ H Q q => two_val (f := fun x y => bltop f [x, y]) rfl (fun env => by
    show ((evE cal a env >>= fun p => (evE cal b p.2 >>= fun p2 => (R.ok ([], p2.2) : R (List AV × Env)) >>= fun p3 => R.ok (p2.1 :: p3.1, p3.2)) >>= fun p2 => R.ok (p.1 :: p2.1, p2.2)) >>= fun p => bltop f p.1 >>= fun v => R.ok (v, p.2)) = (evE cal a env >>= fun p => evE cal b p.2 >>= fun p2 => bltop f [p.1, p2.1] >>= fun v => R.ok (v, p2.2))
    cases evE cal a env with
    | ok p =>
      show ((evE cal b p.2 >>= fun p2 => (R.ok ([], p2.2) : R (List AV × Env)) >>= fun p3 => R.ok (p2.1 :: p3.1, p3.2)) >>= fun p2 => R.ok (p.1 :: p2.1, p2.2) : R (List AV × Env)).bind _ = (evE cal b p.2).bind _
      cases evE cal b p.2 with
      | ok p => rfl
      | exc _ _ => rfl
      | bad => rfl
    | exc _ _ => rfl
    | bad => rfl) (fun O => by
      show andThen (owE O a) (fun O1 => andThen (owE O1 b) some) = _
      cases owE O a with
      | none => rfl
      | some O1 => show andThen (owE O1 b) some = owE O1 b; cases owE O1 b <;> rfl) (by show (prE a && (prE b && true)) = (prE a && prE b); cases prE a <;> cases prE b <;> rfl) q
/-- a method with one argument -/
theorem ok_meth1 (f : Mth) (he : tvE e = true) (hml : ∀ da db d, mthop f da [db] = .ok d → ∃ xs, da = .list xs) (h : ∀ t u, PE c l t → PE c r u → PE c e (fun σ H Q => t σ H fun x H1 => tyV c.K "list" x H1 ∧ u σ H1 fun y H2 => rOp c.K c.w (fun x y => mthop f x [y]) false x y H2 Q)) (ha : OkE cal c l a) (hb : OkE cal c r b) : OkE cal c e (.meth f a (.cons b .nil)) :=
  OkE.of he fun m => (h _ _ (ha.pe (opM (prE b))) (hb.pe .val)).imp fun σ H Q q => by
    obtain ⟨IO, F0, F, B, O, env, d, env', O', S, e, o, q⟩ := q
    obtain ⟨⟨da, e1⟩, ea, e⟩ := R.bind_eq_ok (show (evE cal a env >>= fun p => (evE cal b p.2 >>= fun p2 => (R.ok ([], p2.2) : R (List AV × Env)) >>= fun p3 => R.ok (p2.1 :: p3.1, p3.2)) >>= fun p2 => mthop f p.1 p2.1 >>= fun v => R.ok (v, p2.2)) = .ok (d, env') from e)
    obtain ⟨⟨dbs, e2⟩, eb0, e⟩ := R.bind_eq_ok e
    obtain ⟨⟨db, e3⟩, eb, e4⟩ := R.bind_eq_ok eb0
    obtain ⟨v, ev, e⟩ := R.bind_eq_ok e
    cases e
    cases e4
    rw [owM_nv rfl] at o
    obtain ⟨O1, oa, o⟩ := andThen_some (show andThen (if prE b && true then bor a O (owE O a) else owE O a) (fun O1 => andThen (owE O1 b) some) = some O' from o)
    obtain ⟨O2, ob, o⟩ := andThen_some o
    cases o
    refine ⟨IO, F0, F, B, O, env, da, e1, O1, S, ea, by rw [owM_opM]; rw [Bool.and_true] at oa; exact oa, fun va F1 H1 p1 r1 => ⟨?_, IO, F0, F1, B, O1, e1, db, e3, O', p1.sr, eb, ob, fun vb F2 H2 p2 r2 => ?_⟩⟩
    · obtain ⟨xs, rfl⟩ := hml _ _ _ ev
      have o : Opd c.K c.w F1 H1 va (.list xs) := by
        cases hp : prE b with
        | true => rw [hp] at r1; exact r1.1
        | false => rw [hp] at r1; exact Rep.opd p1.sr.fh r1
      obtain ⟨a, us, rfl, hq, _⟩ := o.listE
      exact .inl ⟨rfl, us, hq.sql⟩
    refine ⟨F2, da, db, d, p2.sr.fh, opd_after r1 p2, Rep.opd p2.sr.fh r2, ev, ?_⟩
    have hn : isNew m (.meth f a (.cons b .nil)) = false := by cases m <;> rfl
    rw [← hn]
    exact res_of (.inr rfl) p2.sr (p1.ff.trans p2.ff) (fun h => by
      have h : (prE a && (prE b && true)) = true := h
      simp only [Bool.and_eq_true, and_true] at h
      exact (p1.hh h.1).trans (p2.hh h.2)) q
end
/-! ### pop -/
section
variable {cal : Cal} {c : Cx} {e l : Expr} {i : Nat} {y : Str} {a : X} {p pos apos : Pos}
theorem change_list {K : PySem.W.Frag} {w : World} {IO : List (Nat × Addr)} {F0 F B H : Hp} {O : Sl} {σ : L2.St} {env : Env} {i : Nat} {ds ds' : List AV} (S : SR K w IO F0 F B O σ H env) (hi : i ∈ O) (hd : env[i]? = some (some (.list ds))) :
    ∃ a xs, σ[i]? = some (some (.ref a)) ∧ H a = some (.lst xs) ∧ RepL K w F xs ds ∧ ∀ xs', RepL K w F xs' ds' → SR K w IO F0 F B O σ (upd H a (.lst xs')) (env.set i (some (.list ds'))) := by
  obtain ⟨v, g1, g2, _⟩ := S.slot i _ hd
  obtain ⟨b, xs, e1, f1, f2, f3, f4⟩ := g2 hi
  subst e1
  exact ⟨b, xs, g1, f3, f4, fun xs' r => S.change hi hd rfl g1 ⟨b, xs', rfl, f1, f2, upd_same, r⟩⟩
theorem change_dict {K : PySem.W.Frag} {w : World} {IO : List (Nat × Addr)} {F0 F B H : Hp} {O : Sl} {σ : L2.St} {env : Env} {i : Nat} {ds ds' : List (AV × AV)} (S : SR K w IO F0 F B O σ H env) (hi : i ∈ O) (hd : env[i]? = some (some (.dict ds))) :
    ∃ a L tk, σ[i]? = some (some (.ref a)) ∧ H a = some (.dK L) ∧ RepD K w F tk L ds ∧ ∀ L' : List Ent, RepD K w F tk L' ds' → SR K w IO F0 F B O σ (upd H a (.dK L')) (env.set i (some (.dict ds'))) := by
  obtain ⟨v, g1, g2, _⟩ := S.slot i _ hd
  obtain ⟨b, ep, L, tk, e1, f1, f2, f3, f4⟩ := g2 hi
  subst e1
  exact ⟨b, L, tk, g1, f3, f4, fun L' r => S.change hi hd rfl g1 ⟨b, ep, L', tk, rfl, f1, f2, upd_same, r⟩⟩
theorem ok_pop0 (hN : c.N[i]? = some y) (hv : Vis c.env.scope y) (hd : (y == ("__debug__" : Str)) = false) (hcd : (y == ("__classdict__" : Str)) = false) (hline : (apos.endLine == pos.line) = true) :
    OkE cal c (.Call (.Attribute (.Name y p) "pop" apos) [] [] pos) (.pop i .none) :=
  OkE.of rfl fun m => (pe_bm0 PySem.F.plainAttrs_list PySem.F.slot_list_pop PySem.F.type_list_pop mt_pop (pe_var hN hv hd hcd) rfl hline).imp fun σ H Q h => by
    obtain ⟨IO, F0, F, B, O, env, d, env', O', S, e, o, q⟩ := h
    rw [owM_nv rfl] at o
    obtain ⟨O1, h1, o⟩ := andThen_some (show andThen (some O) (fun O1 => if O1.contains i then some O1 else none) = some O' from o)
    cases h1
    split at o
    · rename_i hi
      cases o
      obtain ⟨x0, e0, e⟩ := R.bind_eq_ok (show (look env i >>= fun x0 => isL x0 >>= fun _ => look env i >>= fun x => match x, (none : Option AV) with
        | .list xs, none => (match xs.getLast? with
          | some v => R.ok (v, env.set i (some (.list xs.dropLast)))
          | none => .bad)
        | .list xs, some (.int j) => (match ixOf xs.length j with
          | some n => (match xs[n]? with
            | some v => .ok (v, env.set i (some (.list (xs.eraseIdx n))))
            | none => .bad)
          | none => .bad)
        | _, _ => .bad) = .ok (d, env') from e)
      obtain ⟨_, _, e⟩ := R.bind_eq_ok e
      obtain ⟨dl, el, e⟩ := R.bind_eq_ok (show (look env i >>= fun x => match x, (none : Option AV) with
        | .list xs, none => (match xs.getLast? with
          | some v => R.ok (v, env.set i (some (.list xs.dropLast)))
          | none => .bad)
        | .list xs, some (.int j) => (match ixOf xs.length j with
          | some n => (match xs[n]? with
            | some v => .ok (v, env.set i (some (.list (xs.eraseIdx n))))
            | none => .bad)
          | none => .bad)
        | _, _ => .bad) = .ok (d, env') from e)
      have hi' : i ∈ O := by simpa using hi
      have hd' := look_ok el
      cases dl with
      | list ds =>
        have e : (match ds.getLast? with
          | some v => R.ok (v, env.set i (some (.list ds.dropLast)))
          | none => .bad) = .ok (d, env') := e
        cases hl : ds.getLast? with
        | none => rw [hl] at e; cases e
        | some dv =>
          rw [hl] at e
          cases e
          obtain ⟨x, xs, hs, hx, r, ch⟩ := change_list (ds' := ds.dropLast) S hi' hd'
          have hg : ds[ds.length - 1]? = some d := by rw [← List.getLast?_eq_getElem?]; exact hl
          obtain ⟨v, gv, rv⟩ := r.get hg
          refine ⟨.ref x, hs, .inl ⟨rfl, xs, .inl (.inl hx)⟩, x, xs, v, rfl, rfl, hx, by rw [r.length]; exact gv, ?_⟩
          have S2 := ch xs.dropLast r.dropLast
          exact q v F _ ⟨S2, Same.refl _, fun z => by cases z⟩ (imm_rv rfl S2.fh rv)
      | _ => cases e
    · cases o
end
end Ev
end

section
set_option linter.all false
set_option autoImplicit false
set_option maxRecDepth 100000
/-! EvI: targets, what is walked. -/
namespace Ev
open PySem PySem.Spec PyProof.Rows L2
theorem wipeE_length (env : Env) : ∀ vs : List Nat, (wipeE env vs).length = env.length
  | [] => rfl
  | v :: vs => by unfold wipeE; rw [List.length_set, wipeE_length env vs]
theorem wipeE_some {env : Env} {i : Nat} {x : AV} : ∀ {vs : List Nat}, (wipeE env vs)[i]? = some (some x) → env[i]? = some (some x) ∧ i ∉ vs
  | [], h => ⟨h, by simp⟩
  | v :: vs, h => by
    unfold wipeE at h
    by_cases hi : v = i
    · subst hi
      rw [List.getElem?_set] at h
      by_cases hv : v < (wipeE env vs).length <;> simp [hv] at h
    · rw [List.getElem?_set_ne hi] at h
      obtain ⟨h1, h2⟩ := wipeE_some h
      exact ⟨h1, by simp only [List.mem_cons, not_or]; exact ⟨Ne.symm hi, h2⟩⟩
theorem wipeE_out {env : Env} {i : Nat} : ∀ {vs : List Nat}, i ∉ vs → (wipeE env vs)[i]? = env[i]?
  | [], _ => rfl
  | v :: vs, h => by
    simp only [List.mem_cons, not_or] at h
    unfold wipeE
    rw [List.getElem?_set_ne (Ne.symm h.1), wipeE_out h.2]
theorem wipeS_out {σ : L2.St} {i : Nat} : ∀ {vs : List Nat}, i ∉ vs → (wipe σ vs)[i]? = σ[i]?
  | [], _ => rfl
  | v :: vs, h => by
    simp only [List.mem_cons, not_or] at h
    unfold wipe
    rw [List.getElem?_set_ne (Ne.symm h.1), wipeS_out h.2]
theorem wipeS_in {σ : L2.St} {i : Nat} : ∀ {vs : List Nat}, i ∈ vs → i < σ.length → (wipe σ vs)[i]? = some none
  | v :: vs, h, hl => by
    unfold wipe
    by_cases hi : v = i
    · subst hi
      rw [List.getElem?_set_self (by rw [wipe_length]; exact hl)]
    · rw [List.getElem?_set_ne hi]
      exact wipeS_in ((List.mem_cons.mp h).resolve_left (Ne.symm hi)) hl
/-- states that agree but for vs -/
theorem wipe_agree {σ σ' : L2.St} {vs : List Nat} (hl : σ'.length = σ.length) (h : ∀ i, i ∉ vs → σ'[i]? = σ[i]?) : wipe σ' vs = wipe σ vs := by
  apply List.ext_getElem?
  intro i
  by_cases hi : i ∈ vs
  · by_cases hlt : i < σ.length
    · rw [wipeS_in hi hlt, wipeS_in hi (by rw [hl]; exact hlt)]
    · rw [List.getElem?_eq_none (by rw [wipe_length, hl]; omega), List.getElem?_eq_none (by rw [wipe_length]; omega)]
  · rw [wipeS_out hi, wipeS_out hi, h i hi]
theorem back_length (e0 env : Env) : ∀ vs : List Nat, (back e0 env vs).length = env.length
  | [] => rfl
  | v :: vs => by unfold back; rw [List.length_set, back_length e0 env vs]
theorem back_out {e0 env : Env} {i : Nat} : ∀ {vs : List Nat}, i ∉ vs → (back e0 env vs)[i]? = env[i]?
  | [], _ => rfl
  | v :: vs, h => by
    simp only [List.mem_cons, not_or] at h
    unfold back
    rw [List.getElem?_set_ne (Ne.symm h.1), back_out h.2]
theorem back_in {e0 env : Env} {i : Nat} {d : AV} : ∀ {vs : List Nat}, i ∈ vs → (back e0 env vs)[i]? = some (some d) → e0[i]? = some (some d)
  | v :: vs, h, q => by
    unfold back at q
    by_cases hi : v = i
    · subst hi
      rw [List.getElem?_set] at q
      by_cases hl : v < (back e0 env vs).length
      · simp [hl] at q
        cases z : e0[v]? with
        | none => rw [z] at q; cases q
        | some o => rw [z] at q; cases q; rfl
      · simp [hl] at q
    · rw [List.getElem?_set_ne hi] at q
      exact back_in ((List.mem_cons.mp h).resolve_left (Ne.symm hi)) q
section
variable {K : PySem.W.Frag} {w : World} {IO : List (Nat × Addr)} {F F1 F2 F0 B B1 B2 H H1 H2 : Hp} {σ : L2.St} {env e1 e2 : Env} {O O1 : Sl} {vs : List Nat} {a : Addr} {o u : HO}
theorem SR.wipe (S : SR K w IO F0 F B O σ H env) (hv : ∀ i ∈ O, i ∉ vs) : SR K w IO F0 F B O (L2.wipe σ vs) H (wipeE env vs) :=
  S.forget (wipeE_length _ _) (wipe_length _ _) (fun i d e => by
    obtain ⟨h1, h2⟩ := wipeE_some e
    exact ⟨h1, wipeS_out h2⟩) fun i hi => wipeS_out (hv i hi)
/-- behind a comprehension: the names of its own as they were -/
theorem SR.back (S1 : SR K w IO F0 F1 B1 O1 σ H1 e1) (S2 : SR K w IO F0 F2 B2 O (L2.wipe σ vs) H2 (wipeE e2 vs)) (ff : Same F1 F2) (h1 : ∀ i ∈ O1, i ∉ vs) (h2 : ∀ i ∈ O, i ∉ vs) : SR K w IO F0 F2 B2 O σ H2 (back e1 e2 vs) where
  fh := S2.fh
  bh := S2.bh
  f0 := S2.f0
  fb := S2.fb
  slot := fun i d e => by
    by_cases hi : i ∈ vs
    · obtain ⟨v, g1, g2, g3⟩ := S1.slot i d (back_in hi e)
      exact ⟨v, g1, fun z => absurd hi (h2 i z), fun _ => Rep.mono ff (g3 fun z => h1 i z hi)⟩
    · rw [back_out hi] at e
      obtain ⟨v, g1, g2, g3⟩ := S2.slot i d (by rw [wipeE_out hi]; exact e)
      rw [wipeS_out hi] at g1
      exact ⟨v, g1, g2, g3⟩
  apart := fun i j a d e hi hj q1 q2 m1 m2 s1 s2 => by
    rw [back_out (h2 i hi)] at q1
    rw [back_out (h2 j hj)] at q2
    exact S2.apart i j a d e hi hj (by rw [wipeE_out (h2 i hi)]; exact q1) (by rw [wipeE_out (h2 j hj)]; exact q2) m1 m2 (by rw [wipeS_out (h2 i hi)]; exact s1) (by rw [wipeS_out (h2 j hj)]; exact s2)
  len := by
    rw [back_length]
    have := S2.len
    rw [wipeE_length, wipe_length] at this
    exact this
  io := fun p hp q => by
    have := S2.io p hp q
    rw [wipeS_out (h2 _ q)] at this
    exact this
/-- an object of nobody's is frozen -/
theorem SR.froz (S : SR K w IO F0 F B O σ H env) (hF : F a = none) (hB : B a = none) (hH : H a = some o) (hn : NoSlot O σ env a) : SR K w IO F0 (upd F a o) B O σ H env where
  fh := fun b u e => by
    by_cases hb : b = a
    · subst hb; rw [upd_same] at e; cases e; exact hH
    · rw [upd_ne hb] at e; exact S.fh _ _ e
  bh := S.bh
  f0 := S.f0.trans (same_upd' hF)
  fb := fun b u e => by
    by_cases hb : b = a
    · subst hb; exact .inr hB
    · rw [upd_ne hb] at e; exact S.fb _ _ e
  slot := fun i d e => by
    obtain ⟨v, h1, h2, h3⟩ := S.slot i d e
    refine ⟨v, h1, fun q => (h2 q).at (same_upd' hF) fun b u eb hm f1 f2 f3 => ?_, fun q => Rep.mono (same_upd' hF) (h3 q)⟩
    have hb : b ≠ a := fun z => hn i q d e hm (by rw [h1, eb, z])
    exact ⟨by rw [upd_ne hb]; exact f1, f2, f3⟩
  apart := S.apart
  len := S.len
  io := S.io
end
/-! ### targets -/
def gNames : List Nat → TGs
  | [] => gNil
  | i :: is => gCons (gName i) (gNames is)
def gT (K : PySem.W.Frag) : Tg → TG
  | .var i => gName i
  | .tup is => gTup K is.length (gNames is)
def nameB (N : List Str) (fn : Str → Bool) (sc : Scope) (i : Nat) (y : Str) : Bool := decide (N[i]? = some y) && (decide (sc.names.lookup y = some .local) || (fn y && decide (sc.names.lookup y = some .cell)))
def chkNames (N : List Str) (fn : Str → Bool) (sc : Scope) : List Expr → List Nat → Bool
  | [], [] => true
  | .Name y _ :: es, i :: is => nameB N fn sc i y && chkNames N fn sc es is
  | _, _ => false
def chkTg (N : List Str) (fn : Str → Bool) (sc : Scope) : Expr → Tg → Bool
  | .Name y _, .var i => nameB N fn sc i y
  | .Tuple es _ _, .tup is => chkNames N fn sc es is
  | _, _ => false
section
variable {c : Cx} {sc : Scope}
theorem pg_nameB {i : Nat} {y : Str} {pos : Pos} (hN : c.N.Nodup) (h : nameB c.N c.fn c.env.scope i y = true) : PG c (.Name y pos) (gName i) := by
  unfold nameB at h
  simp only [Bool.and_eq_true, Bool.or_eq_true, decide_eq_true_eq] at h
  obtain ⟨h1, h2⟩ := h
  rcases h2 with h2 | ⟨h2, h3⟩
  · exact pg_name hN h1 (.inl h2) (.inr h2)
  · exact pg_name hN h1 (.inr h3) (.inl h2)
theorem pgs_names (hN : c.N.Nodup) : ∀ {es : List Expr} {is : List Nat}, chkNames c.N c.fn c.env.scope es is = true → PGs c es (gNames is) ∧ (assignEach es c.env).length = is.length ∧ (assignEach es c.env).findIdx? (·.1) = none
  | [], [], _ => ⟨pgs_nil, rfl, rfl⟩
  | [], _ :: _, h => by cases h
  | e :: es, [], h => by cases e <;> cases h
  | e :: es, i :: is, h => by
    cases e with
    | Name y p =>
      have h : (nameB c.N c.fn c.env.scope i y && chkNames c.N c.fn c.env.scope es is) = true := h
      rw [Bool.and_eq_true] at h
      obtain ⟨g1, g2, g3⟩ := pgs_names hN h.2
      refine ⟨pgs_cons (pg_nameB hN h.1) g1 rfl, ?_, ?_⟩
      · show ((false, assign (.Name y p) c.env) :: assignEach es c.env).length = _
        rw [List.length_cons, g2, List.length_cons]
      · show ((false, assign (.Name y p) c.env) :: assignEach es c.env).findIdx? (·.1) = none
        rw [List.findIdx?_cons]
        simp [g3]
    | _ => cases h
theorem pg_tg (hN : c.N.Nodup) (hc : c.calm = true) {e : Expr} {tg : Tg} (h : chkTg c.N c.fn c.env.scope e tg = true) : PG c e (gT c.K tg) := by
  cases e with
  | Name y p => cases tg with
    | var i => exact pg_nameB hN h
    | tup is => cases h
  | Tuple es k p => cases tg with
    | var i => cases h
    | tup is =>
      obtain ⟨g1, g2, g3⟩ := pgs_names hN h
      exact pg_tup hc g1 g2 g3
  | _ => cases tg <;> cases h
end
section
variable {K : PySem.W.Frag} {w : World} {IO : List (Nat × Addr)} {F F0 B H : Hp} {env env2 : Env} {O : Sl}
theorem names_imp {Q : L2.St → Hp → Prop} : ∀ {is : List Nat} {ds : List AV} {us : List V} {σ : L2.St} {env : Env}, SR K w IO F0 F B O σ H env → setAll is ds env = some env2 → RepL K w F us ds → (∀ i ∈ is, i ∉ O) →
    (∀ σ2, SR K w IO F0 F B O σ2 H env2 → σ2.length = σ.length → (∀ i, i ∉ is → σ2[i]? = σ[i]?) → Q σ2 H) → us.length = is.length ∧ gNames is us σ H Q
  | [], [], us, σ, env, S, h, r, hO, q => by
    cases h
    cases r
    exact ⟨rfl, rfl, q σ S rfl fun _ _ => rfl⟩
  | i :: is, d :: ds, us, σ, env, S, h, r, hO, q => by
    cases r with
    | cons r1 r2 =>
      rename_i v us
      obtain ⟨g1, g2⟩ := names_imp (Q := Q) (S.store (hO i List.mem_cons_self) r1) (show setAll is ds (env.set i (some d)) = some env2 from h) r2 (fun j hj => hO j (List.mem_cons_of_mem _ hj)) fun σ2 S2 l2 h2 => q σ2 S2 (by rw [l2, List.length_set]) fun j hj => by
        simp only [List.mem_cons, not_or] at hj
        rw [h2 j hj.2, List.getElem?_set_ne (Ne.symm hj.1)]
      exact ⟨by rw [List.length_cons, List.length_cons, g1], v, us, rfl, g2⟩
  | [], _ :: _, _, _, _, _, h, _, _, _ => by cases h
  | _ :: _, [], _, _, _, _, h, _, _, _ => by cases h
theorem tg_imp {tg : Tg} {d : AV} {v : V} {σ : L2.St} {Q : L2.St → Hp → Prop} (S : SR K w IO F0 F B O σ H env) (hb : bindTg tg d env = .ok env2) (hr : Rep K w F v d) (hO : ∀ i ∈ tgsOf tg, i ∉ O)
    (q : ∀ σ2, SR K w IO F0 F B O σ2 H env2 → σ2.length = σ.length → (∀ i, i ∉ tgsOf tg → σ2[i]? = σ[i]?) → Q σ2 H) : gT K tg v σ H Q := by
  cases tg with
  | var i =>
    cases hb
    exact q _ (S.store (hO i List.mem_cons_self) hr) (List.length_set ..) fun j hj => List.getElem?_set_ne fun z => hj (by rw [z]; exact List.mem_cons_self)
  | tup is =>
    cases d with
    | tuple ds =>
      have hb : (match setAll is ds env with
        | some e => R.ok e
        | none => .bad) = .ok env2 := hb
      cases hs : setAll is ds env with
      | none => rw [hs] at hb; cases hb
      | some e =>
        rw [hs] at hb
        cases hb
        cases hr with
        | tup h1 r1 =>
          obtain ⟨g1, g2⟩ := names_imp S hs r1 hO q
          exact ⟨_, _, rfl, Same.tup S.fh h1, g1, g2⟩
    | _ => cases hb
end
/-! ### what is walked -/
/-- the i-th of ds comes -/
def YEv (K : PySem.W.Frag) (w : World) (F1 : Hp) (ds : List AV) : Nat → Hp → V → Hp → Prop := fun i H x H' => ∀ F, Same F1 F → Same F H → ∃ d F', ds[i]? = some d ∧ Ext F H F' H' ∧ Rep K w F' x d
def rdIt (K : PySem.W.Frag) (w : World) (cal : Cal) (b : Bool) (it : It) : TI := fun σ H R => ∃ IO F0 F B O env ds env' O', SR K w IO F0 F B O σ H env ∧ evIt cal it env = .ok (ds, env') ∧ owIt b O it = some O' ∧
  ∀ J F' H' Bs, Pst K w IO F0 F B O' σ H env' (prIt it) F' H' → Same Bs H' → (b = false → Bs = F') → (∀ a o, Bs a = some o → F' a = some o ∨ B a = none) → Walk J ds.length (Same Bs) (YEv K w F' ds) → R J H'
theorem PI.imp' {X : Cx} {tg e : Expr} {t t' : TI} (h : PI X tg e t) (hi : ∀ σ H R, t' σ H R → t σ H R) : PI X tg e t' := ⟨fun pins s σ H R I q => h.run pins s σ H R I (hi σ H R q)⟩
theorem old_yld {K : PySem.W.Frag} {w : World} {F1 : Hp} {ds : List AV} {xs : List V} (r : RepL K w F1 xs ds) {i : Nat} {H : Hp} {x : V} {H' : Hp} (h : H' = H ∧ xs[i]? = some x) : YEv K w F1 ds i H x H' := fun F s1 s2 => by
  obtain ⟨rfl, h⟩ := h
  obtain ⟨d, g1, g2⟩ := r.get' h
  exact ⟨d, F, g1, Ext.refl s2, Rep.mono s1 g2⟩
section
variable {c : Cx} {cal : Cal} {tg l : Expr} {a : X} {tl : TE}
/-- a list or a tuple -/
def iSeq (K : PySem.W.Frag) (tl : TE) : TI := fun σ H R => tl σ H fun x H1 => ∃ p, x = .ref p ∧ ((∃ xs, SqL K H1 p xs) ∧ R (Itl K p) H1 ∨ (∃ xs, SqT K H1 p xs) ∧ R (Itt K p) H1)
theorem pi_seq (hl : PE c l tl) : PI c tg l (iSeq c.K tl) := by
  refine ⟨fun pins s σ H R I h => thn (hl.run pins s σ H _ I h) fun u st ⟨x, Hx, Ix, rx, p, ep, q⟩ => ?_⟩
  subst ep
  cases rx
  have fresh : ∀ b ∈ [st.heap.objs.size], FpOk c pins Hx b := fun b hb => by
    obtain rfl : b = st.heap.objs.size := by simpa using hb
    exact Ix.fpOk (Nat.le_refl _) (Ix.hok.fresh (Nat.le_refl _))
  rcases q with ⟨⟨xs, hq⟩, q⟩ | ⟨⟨xs, hq⟩, q⟩
  · obtain ⟨its, _, pl, _⟩ := Ix.list hq
    exact wpAny_pyIter_list pl.isList ⟨st.heap.objs.size, [st.heap.objs.size], _, _, Hx, rfl, Ix.kept (t' := st.toks) fun b o e => Heap.get?_push_of_some _ e, turn_list p _, ⟨_, Heap.get?_push_size _ rfl, rfl, rfl⟩, fresh, q⟩
  · obtain ⟨its, _, pt, _⟩ := Ix.tuple hq
    exact wpAny_pyIter_tuple (show st.heap.IsTuple p its.toArray from pt) ⟨st.heap.objs.size, [st.heap.objs.size], _, _, Hx, rfl, Ix.kept (t' := st.toks) fun b o e => Heap.get?_push_of_some _ e, turn_tuple p _, ⟨_, Heap.get?_push_size _ rfl, rfl, rfl⟩, fresh, q⟩
theorem it_expr (b : Bool) (ha : OkE cal c l a) : PI c tg l (rdIt c.K c.w cal b (.expr a)) := PI.imp' (pi_seq (ha.pe (opM b))) fun σ H RR h => by
  obtain ⟨IO, F0, F, B, O, env, ds, env', O', S, e, o, q⟩ := h
  obtain ⟨⟨da, e1⟩, ea, e⟩ := R.bind_eq_ok (show (evE cal a env >>= fun p => match p.1 with
    | .list xs => R.ok (xs, p.2)
    | .tuple xs => R.ok (xs, p.2)
    | _ => .bad) = .ok (ds, env') from e)
  refine ⟨IO, F0, F, B, O, env, da, e1, O', S, ea, by revert o; unfold owIt opM; cases b <;> exact fun z => z, fun va F1 H1 p1 r1 => ?_⟩
  have hh : Same F1 H1 := p1.sr.fh
  cases da with
  | list xs =>
    cases e
    cases b with
    | true =>
      obtain ⟨r1, ob⟩ := r1
      obtain ⟨x, us, rfl, hq, hr⟩ := Opd.listE (show Opd c.K c.w F1 H1 va (.list ds) from r1)
      have key : ∃ Bs us, Same Bs H1 ∧ (∀ a o, Bs a = some o → F1 a = some o ∨ B a = none) ∧ LstX c.K Bs x us ∧ LstX c.K H1 x us ∧ RepL c.K c.w F1 us ds := by
        rcases ob rfl with ⟨a, u, ea, hb, hu⟩ | hr2
        · cases ea
          rcases hq with hq | hq
          · by_cases hf : F1 x = none
            · refine ⟨upd F1 x u, us, fun b u2 e => ?_, fun b u2 e => ?_, .inl ?_, .inl hq, hr⟩
              · by_cases hbx : b = x
                · subst hbx; rw [upd_same] at e; cases e; exact hu
                · rw [upd_ne hbx] at e; exact hh _ _ e
              · by_cases hbx : b = x
                · subst hbx; exact .inr hb
                · rw [upd_ne hbx] at e; exact .inl e
              · rcases hq with q | ⟨o, q⟩
                · rw [hu] at q; cases q; exact .inl upd_same
                · rw [hu] at q; cases q; exact .inr ⟨o, upd_same⟩
            · obtain ⟨o, ho⟩ := Option.ne_none_iff_exists'.mp hf
              refine ⟨F1, us, hh, fun b u e => .inl e, .inl ?_, .inl hq, hr⟩
              have h1 := hh _ _ ho
              rcases hq with q | ⟨o2, q⟩
              · rw [h1] at q; cases q; exact .inl ho
              · rw [h1] at q; cases q; exact .inr ⟨o2, ho⟩
          · exact ⟨F1, us, hh, fun b u e => .inl e, .inr hq, .inr hq, hr⟩
        · cases hr2 with
          | lst hq2 hr3 => exact ⟨F1, _, hh, fun b u e => .inl e, hq2, hq2.mono hh, hr3⟩
      obtain ⟨Bs, us, b1, b2, b3, b4, hr⟩ := key
      refine ⟨x, rfl, .inl ⟨⟨us, b4.sql⟩, q _ F1 H1 Bs p1 b1 (fun z => by cases z) b2 ?_⟩⟩
      rw [← hr.length]
      exact walk_list.mono (fun H2 s2 => (b3.mono s2).sql) fun i H2 x H3 _ _ y => old_yld hr y
    | false =>
      cases (show Rep c.K c.w F1 va (.list ds) from r1) with
      | lst hq hr =>
        refine ⟨_, rfl, .inl ⟨⟨_, (hq.mono hh).sql⟩, q _ F1 H1 F1 p1 hh (fun _ => rfl) (fun _ _ e => .inl e) ?_⟩⟩
        rw [← hr.length]
        exact walk_list.mono (fun H2 s2 => (hq.mono s2).sql) fun i H2 x H3 _ _ y => old_yld hr y
  | tuple xs =>
    cases e
    have r2 : Rep c.K c.w F1 va (.tuple ds) := by
      cases b with
      | true => exact r1.1
      | false => exact r1
    cases r2 with
    | tup hq hr =>
      cases b with
      | true =>
        refine ⟨_, rfl, .inr ⟨⟨_, Same.tup hh hq⟩, q _ F1 H1 F1 p1 hh (fun z => by cases z) (fun _ _ e => .inl e) ?_⟩⟩
        rw [← hr.length]
        exact walk_tup.mono (fun H2 s2 => Same.tup s2 hq) fun i H2 x H3 _ _ y => old_yld hr y
      | false =>
        refine ⟨_, rfl, .inr ⟨⟨_, Same.tup hh hq⟩, q _ F1 H1 F1 p1 hh (fun _ => rfl) (fun _ _ e => .inl e) ?_⟩⟩
        rw [← hr.length]
        exact walk_tup.mono (fun H2 s2 => Same.tup s2 hq) fun i H2 x H3 _ _ y => old_yld hr y
  | _ => cases e
theorem okRng_b {i : Int} (h : okRng i = true) : -(2 ^ 62) ≤ i ∧ i < 2 ^ 62 := by
  unfold okRng at h
  simp only [Bool.and_eq_true, decide_eq_true_eq] at h
  omega
theorem rangeD_length (lo hi : Int) : (rangeD lo hi).length = (hi - lo).toNat := by unfold rangeD; rw [List.length_map, List.length_range]
theorem rng_walk {K : PySem.W.Frag} {w : World} {F1 Bs : Hp} {lo hi : Int} : Walk (Itr lo (hi - lo).toNat) (rangeD lo hi).length (Same Bs) (YEv K w F1 (rangeD lo hi)) := by
  rw [rangeD_length]
  refine walk_range.mono (fun _ _ => trivial) fun i H x H' hi' _ y => fun F s1 s2 => ?_
  obtain ⟨rfl, rfl⟩ := y
  refine ⟨.int (lo + i), F, ?_, Ext.refl s2, .int _⟩
  unfold rangeD
  rw [List.getElem?_map, List.getElem?_range hi']
  rfl
theorem it_rng1 {p pos : Pos} (b : Bool) (hs : stE l = false) (hg : Gl c "range") (hm : c.mg "range" = none) (ha : OkE cal c l a) : PI c tg (.Call (.Name "range" p) [l] [] pos) (rdIt c.K c.w cal b (.rng1 a)) :=
  PI.imp' (pi_range1 hg hm (pa_cons (ha.pe .val) pa_nil (star_plain hs)) (star_plain hs)) fun σ H RR h => by
    obtain ⟨IO, F0, F, B, O, env, ds, env', O', S, e, o, q⟩ := h
    obtain ⟨⟨da, e1⟩, ea, e⟩ := R.bind_eq_ok (show (evE cal a env >>= fun p => match p.1 with
      | .int n => if okRng n then R.ok (rangeD 0 n, p.2) else .bad
      | _ => .bad) = .ok (ds, env') from e)
    refine ⟨IO, F0, F, B, O, env, da, e1, O', S, ea, o, fun va F1 H1 p1 r1 => ?_⟩
    cases da with
    | int n =>
      cases (show Rep c.K c.w F1 va (.int n) from r1)
      have e : (if okRng n then R.ok (rangeD 0 n, e1) else .bad) = .ok (ds, env') := e
      split at e
      · rename_i hr
        cases e
        obtain ⟨h1, h2⟩ := okRng_b hr
        refine ⟨n, rfl, h1, h2, ?_⟩
        have := q (Itr 0 (n - 0).toNat) F1 H1 F1 p1 p1.sr.fh (fun _ => rfl) (fun _ _ e => .inl e) rng_walk
        rw [Int.sub_zero] at this
        exact this
      · cases e
    | _ => cases e
theorem it_rng2 {l2 : Expr} {d : X} {p pos : Pos} (b : Bool) (hs : stE l = false) (hs2 : stE l2 = false) (hg : Gl c "range") (hm : c.mg "range" = none) (ha : OkE cal c l a) (hd : OkE cal c l2 d) : PI c tg (.Call (.Name "range" p) [l, l2] [] pos) (rdIt c.K c.w cal b (.rng2 a d)) :=
  PI.imp' (pi_range2 hg hm (pa_cons (ha.pe .val) (pa_cons (hd.pe .val) pa_nil (star_plain hs2)) (star_plain hs)) (by rw [star_plain hs, star_plain hs2]; rfl) (star_plain hs2)) fun σ H RR h => by
    obtain ⟨IO, F0, F, B, O, env, ds, env', O', S, e, o, q⟩ := h
    obtain ⟨⟨da, e1⟩, ea, e⟩ := R.bind_eq_ok (show (evE cal a env >>= fun p => evE cal d p.2 >>= fun p2 => match p.1, p2.1 with
      | .int m, .int n => if okRng m && okRng n then R.ok (rangeD m n, p2.2) else .bad
      | _, _ => .bad) = .ok (ds, env') from e)
    obtain ⟨⟨db, e2⟩, eb, e⟩ := R.bind_eq_ok e
    obtain ⟨O1, oa, ob⟩ := andThen_some (show andThen (owE O a) (fun O1 => owE O1 d) = some O' from o)
    refine ⟨IO, F0, F, B, O, env, da, e1, O1, S, ea, oa, fun va F1 H1 p1 r1 => ⟨IO, F0, F1, B, O1, e1, db, e2, O', p1.sr, eb, ob, fun vb F2 H2 p2 r2 => ?_⟩⟩
    cases da with
    | int m => cases db with
      | int n =>
        cases (show Rep c.K c.w F1 va (.int m) from r1)
        cases (show Rep c.K c.w F2 vb (.int n) from r2)
        have e : (if okRng m && okRng n then R.ok (rangeD m n, e2) else .bad) = .ok (ds, env') := e
        split at e
        · rename_i hr
          rw [Bool.and_eq_true] at hr
          cases e
          obtain ⟨h1, h2⟩ := okRng_b hr.1
          obtain ⟨h3, h4⟩ := okRng_b hr.2
          exact ⟨m, n, rfl, ⟨h1, h2, h3, h4⟩, q (Itr m (n - m).toNat) F2 H2 F2 (p1.trans p2 fun z => by
            have z : (prE a && prE d) = true := z
            rw [Bool.and_eq_true] at z
            exact z) p2.sr.fh (fun _ => rfl) (fun _ _ e => .inl e) rng_walk⟩
        · cases e
      | _ => cases e
    | _ => cases db <;> cases e
end
end Ev
end

section
set_option linter.all false
set_option autoImplicit false
set_option maxRecDepth 100000
/-! EvJ: comprehensions. -/
namespace Ev
open PySem PySem.Spec PyProof.Rows L2
/-- turns of a comprehension: BODY leads to the next turn's state -/
def LoopR (J : L2.It) (σ : L2.St) (vs : List Nat) (g : TG) (tt : TT) (BODY : L2.St → Hp → (Hp → Prop) → Prop) (Qd : Hp → Prop) (H0 : Hp) : Prop := ∃ W : Nat → Nat → Hp → Prop, (∃ m, W 0 m H0) ∧ ∀ i m H, W i m H →
  (J.stop i H ∧ Qd H) ∨ (J.go i H ∧ ∃ Nx : Hp → Prop, (∀ H', Nx H' → ∃ m', m' < m ∧ W (i + 1) m' H') ∧ ∀ x H', J.yld i H x H' → g x (wipe σ vs) H' fun σ2 H2 => wipe σ2 vs = wipe σ vs ∧ tt σ2 H2 fun b H3 => if b = true then BODY σ2 H3 Nx else Nx H3)
def tT (K : PySem.W.Frag) (w : World) (cal : Cal) : Ox → TT
  | .none => tYes
  | .some x => tB (rd K w cal .val x)
/-- one turn's own function -/
def turnF (cal : Cal) (ws : List Nat) (tg : Tg) (c : Ox) (rest : Env → R (List AV × Env)) (x : AV) (env : Env) : R (List AV × Env) := do
  let env2 ← bindTg tg x (wipeE env ws)
  let (b, env3) ← evOx cal c env2
  match b with
  | none => rest env3
  | some b => match (← asB b) with
    | true => rest env3
    | false => .ok ([], env3)
theorem apart_mem {A B : Sl} (h : apartS A B = true) {i : Nat} (hi : i ∈ A) : i ∉ B := by
  have := List.all_eq_true.mp h i hi
  simpa using this
theorem minus_mem {O P : Sl} {i : Nat} : i ∈ minus O P ↔ i ∈ O ∧ i ∉ P := by simp [minus]
theorem wipe_wipe {σ : L2.St} {vs us : List Nat} (h : ∀ i ∈ us, i ∈ vs) : wipe (wipe σ us) vs = wipe σ vs :=
  wipe_agree (wipe_length _ _) fun i hi => wipeS_out fun z => hi (h i z)
theorem wipeE_agree {e e' : Env} {vs : List Nat} (hl : e'.length = e.length) (h : ∀ i, i ∉ vs → e'[i]? = e[i]?) : wipeE e' vs = wipeE e vs := by
  have nn : ∀ {e : Env} {vs : List Nat} {i : Nat}, i ∈ vs → i < e.length → (wipeE e vs)[i]? = some none := by
    intro e vs
    induction vs with
    | nil => intro i h; cases h
    | cons v vs ih =>
      intro i h hl
      unfold wipeE
      by_cases hi : v = i
      · subst hi
        rw [List.getElem?_set_self (by rw [wipeE_length]; exact hl)]
      · rw [List.getElem?_set_ne hi]
        exact ih ((List.mem_cons.mp h).resolve_left (Ne.symm hi)) hl
  apply List.ext_getElem?
  intro i
  by_cases hi : i ∈ vs
  · by_cases hlt : i < e.length
    · rw [nn hi hlt, nn hi (by rw [hl]; exact hlt)]
    · rw [List.getElem?_eq_none (by rw [wipeE_length, hl]; omega), List.getElem?_eq_none (by rw [wipeE_length]; omega)]
  · rw [wipeE_out hi, wipeE_out hi, h i hi]
theorem wipeE_wipeE {e : Env} {vs us : List Nat} (h : ∀ i ∈ us, i ∈ vs) : wipeE (wipeE e us) vs = wipeE e vs :=
  wipeE_agree (wipeE_length _ _) fun i hi => wipeE_out fun z => hi (h i z)
section
variable {K : PySem.W.Frag} {w : World} {cal : Cal} {IO : List (Nat × Addr)} {F F0 F1 B H : Hp} {O O2 : Sl} {σ : L2.St} {env : Env} {ws vs : List Nat} {tg : Tg} {c : Ox} {ds r : List AV} {env4 : Env} {rest : Env → R (List AV × Env)}
/-- one turn up to its body -/
theorem turn_imp {i : Nat} {x : V} {H' : Hp} {d : AV} {K1 : L2.St → Hp → Prop} {K2 : Hp → Prop} (S : SR K w IO F0 F B O σ H (wipeE env ws)) (y : YEv K w F1 ds i H x H') (s1 : Same F1 F) (hd : ds[i]? = some d)
    (e : turnF cal ws tg c rest d env = .ok (r, env4)) (how : owOx (minus O (ws ++ tgsOf tg)) c = some O2) (hO : ∀ i ∈ O, i ∉ ws ++ tgsOf tg) (hsub : ∀ i ∈ tgsOf tg, i ∈ vs)
    (hy : ∀ env3 σ2 F3 H3, SR K w IO F0 F3 B O2 σ2 H3 env3 → Same F F3 → (prOx c = true → Same H H3) → wipe σ2 vs = wipe σ vs → rest env3 = .ok (r, env4) → K1 σ2 H3)
    (hn : ∀ σ2 F3 H3, SR K w IO F0 F3 B O2 σ2 H3 env4 → Same F F3 → (prOx c = true → Same H H3) → wipe σ2 vs = wipe σ vs → r = [] → K2 H3) :
    gT K tg x σ H' fun σ2 H2 => wipe σ2 vs = wipe σ vs ∧ tT K w cal c σ2 H2 fun b H3 => if b = true then K1 σ2 H3 else K2 H3 := by
  obtain ⟨d', F', hd', X, hr⟩ := y F s1 S.fh
  rw [hd] at hd'
  cases hd'
  obtain ⟨env2, eb, e⟩ := R.bind_eq_ok (show (bindTg tg d (wipeE env ws) >>= fun env2 => evOx cal c env2 >>= fun p => match p.1 with
    | none => rest p.2
    | some b => asB b >>= fun k => match k with
      | true => rest p.2
      | false => R.ok ([], p.2)) = .ok (r, env4) from e)
  obtain ⟨⟨ob, env3⟩, ec, e9⟩ := R.bind_eq_ok e
  refine tg_imp (S.ext X) eb hr (fun i hi z => hO i z (List.mem_append_right _ hi)) fun σ2 S2 l2 a2 => ?_
  have hw : wipe σ2 vs = wipe σ vs := wipe_agree l2 fun i hi => a2 i fun z => hi (hsub i z)
  refine ⟨hw, ?_⟩
  have S3 : SR K w IO F0 F' B (minus O (ws ++ tgsOf tg)) σ2 H' env2 := S2.congr fun i => by rw [minus_mem]; exact ⟨fun z => z.1, fun z => ⟨z, hO i z⟩⟩
  cases c with
  | none =>
    cases ec
    cases how
    exact hy _ σ2 F' H' S3 X.ff (fun _ => X.hh) hw e9
  | some x =>
    obtain ⟨⟨dx, e3⟩, ex, ec⟩ := R.bind_eq_ok (show (evE cal x env2 >>= fun p => R.ok (some p.1, p.2)) = .ok (ob, env3) from ec)
    cases ec
    obtain ⟨k, ek, e10⟩ := R.bind_eq_ok (show (asB dx >>= fun k => match k with
      | true => rest e3
      | false => R.ok ([], e3)) = .ok (r, env4) from e9)
    obtain rfl := asB_ok ek
    refine ⟨IO, F0, F', B, _, env2, _, e3, O2, S3, ex, how, fun v F3 H3 p3 r3 => ?_⟩
    cases (show Rep K w F3 v (.bool k) from r3)
    refine ⟨k, rfl, ?_⟩
    cases k with
    | true => exact hy _ σ2 F3 H3 p3.sr (X.ff.trans p3.ff) (fun z => X.hh.trans (p3.hh z)) hw e10
    | false =>
      cases e10
      exact hn σ2 F3 H3 p3.sr (X.ff.trans p3.ff) (fun z => X.hh.trans (p3.hh z)) hw rfl
theorem steady_some {l O' : Sl} {f : Sl → Option Sl} (h : steady l f O = some O') : ∃ O2, f O' = some O2 ∧ (∀ i ∈ O', i ∈ O) ∧ (∀ i ∈ O', i ∈ O2) ∧ ∀ i ∈ O', i ∉ l := by
  unfold steady at h
  cases h1 : f O with
  | none => rw [h1] at h; cases h
  | some O1 =>
    rw [h1] at h
    have h : (match f O1 with
      | some O2 => if (sub O1 O && sub O1 O2 && apartS l O1) = true then some O1 else none
      | none => none) = some O' := h
    cases h2 : f O1 with
    | none => rw [h2] at h; cases h
    | some O2 =>
      rw [h2] at h
      have h : (if (sub O1 O && sub O1 O2 && apartS l O1) = true then some O1 else none) = some O' := h
      split at h
      · rename_i hc
        cases h
        simp only [Bool.and_eq_true] at hc
        exact ⟨O2, h2, fun i hi => sub_mem hc.1.1 hi, fun i hi => sub_mem hc.1.2 hi, fun i hi z => apart_mem hc.2 z hi⟩
      · cases h
/-- the turns: acc the list at D, accd its values; pre: those that stood there at the start -/
theorem loop_imp {J : L2.It} {Bs H1 : Hp} {D : Addr} {BODY : L2.St → Hp → (Hp → Prop) → Prop} {Qd : Hp → Prop} {O' O3 O4 : Sl} {e1 env1 : Env} {out pre : List AV} {acc0 : List V} {bp pb : Bool}
    (W : Walk J ds.length (Same Bs) (YEv K w F1 ds)) (hBs : Same Bs H1) (hb : bp = false → Bs = F1) (hbp : bp = true → prOx c = true ∧ pb = true) (hF0 : F0 D = none) (hB : B D = none) (hsub : ∀ i ∈ ws ++ tgsOf tg, i ∈ vs) (hws : ∀ i ∈ vs, i ∈ ws)
    (S1 : SR K w IO F0 F (upd B D (.lst acc0)) O σ H1 e1) (s1 : Same F1 F) (r0 : RepL K w F acc0 pre) (el : loopC (turnF cal ws tg c rest) ds e1 = .ok (out, env1)) (hz : (pre ++ out).length ≤ sizeLine)
    (hO' : ∀ i ∈ O', i ∈ O) (h3 : owOx (minus O' (ws ++ tgsOf tg)) c = some O3) (h5 : ∀ i ∈ O', i ∈ O3 ∧ i ∈ O4) (h6 : ∀ i ∈ O', i ∉ ws ++ tgsOf tg)
    (hbody : ∀ (acc : List V) (accd : List AV) (env3 : Env) (σ2 : L2.St) (F3 H3 : Hp) (a : List AV) (en : Env) (Nx : Hp → Prop), SR K w IO F0 F3 (upd B D (.lst acc)) O3 σ2 H3 env3 → Same F F3 → RepL K w F3 acc accd → rest env3 = .ok (a, en) → (accd ++ a).length ≤ sizeLine →
      (∀ (acc' : List V) (F4 H4 : Hp) (σ4 : L2.St), SR K w IO F0 F4 (upd B D (.lst acc')) O4 σ4 H4 (wipeE en vs) → wipe σ4 vs = wipe σ2 vs → Same F3 F4 → RepL K w F4 acc' (accd ++ a) → (pb = true → ∀ b o, b ≠ D → H3 b = some o → H4 b = some o) → Nx H4) → BODY σ2 H3 Nx)
    (hq : ∀ (acc : List V) (F4 H4 : Hp), SR K w IO F0 F4 (upd B D (.lst acc)) O' (wipe σ vs) H4 (wipeE env1 vs) → Same F F4 → RepL K w F4 acc (pre ++ out) → (bp = true → ∀ b o, b ≠ D → H1 b = some o → H4 b = some o) → Qd H4)
    (hDs : ∀ o, Bs D ≠ some o) :
    LoopR J σ vs (gT K tg) (tT K w cal c) BODY Qd H1 := by
  have hO'v : ∀ i ∈ O', i ∉ vs := fun i hi z => h6 i hi (List.mem_append_left _ (hws i z))
  have same : ∀ {H4 : Hp}, (∀ b o, b ≠ D → H1 b = some o → H4 b = some o) → Same Bs H4 := fun {H4} h b o e => h b o (fun z => hDs o (z ▸ e)) (hBs b o e)
  obtain ⟨F2, S2, s2⟩ := S1.shrink hO'
  let Pv : Nat → Hp → Prop := fun i H => ∃ (acc : List V) (accd : List AV) (en : Env) (F4 : Hp) (rst : List AV), SR K w IO F0 F4 (upd B D (.lst acc)) O' (wipe σ vs) H (wipeE en vs) ∧ Same F F4 ∧ RepL K w F4 acc (pre ++ accd) ∧
    (bp = true → ∀ b o, b ≠ D → H1 b = some o → H b = some o) ∧ loopC (turnF cal ws tg c rest) (ds.drop i) en = .ok (rst, env1) ∧ out = accd ++ rst
  refine ⟨fun i m H => m = ds.length - i ∧ i ≤ ds.length ∧ Pv i H, ⟨ds.length, by simp, Nat.zero_le _, acc0, [], e1, F2, out, S2.wipe hO'v, s2, by rw [List.append_nil]; exact r0.mono s2, fun _ _ _ _ h => h, by simpa using el, rfl⟩, ?_⟩
  rintro i m H ⟨rfl, hi, acc, accd, en, F4, rst, S4, s4, r4, p4, e4, ho⟩
  have hG : Same Bs H := by
    cases hbv : bp with
    | true => exact same (p4 hbv)
    | false => rw [hb hbv]; exact s1.trans (s4.trans S4.fh)
  by_cases hlt : i < ds.length
  · refine .inr ⟨W.goes i H hlt hG, Pv (i + 1), fun H' p' => ⟨ds.length - (i + 1), by omega, rfl, hlt, p'⟩, fun x H' yl => ?_⟩
    have hd : ds[i]? = some ds[i] := List.getElem?_eq_getElem hlt
    rw [List.drop_eq_getElem_cons hlt] at e4
    obtain ⟨⟨a, en1⟩, ea, e4⟩ := R.bind_eq_ok (show (turnF cal ws tg c rest ds[i] en >>= fun p => loopC (turnF cal ws tg c rest) (ds.drop (i + 1)) p.2 >>= fun p2 => R.ok (p.1 ++ p2.1, p2.2)) = .ok (rst, env1) from e4)
    obtain ⟨⟨rst2, en2⟩, er, e5⟩ := R.bind_eq_ok e4
    cases e5
    have wv : wipeE en ws = wipeE en vs := by
      apply List.ext_getElem?
      intro j
      by_cases hj : j ∈ vs
      · have h1 : wipeE (wipeE en vs) ws = wipeE en ws := wipeE_wipeE hws
        have h2 : wipeE (wipeE en ws) vs = wipeE en vs := wipeE_wipeE fun i hi => hsub i (List.mem_append_left _ hi)
        by_cases hjl : j < en.length
        · cases q1 : (wipeE en ws)[j]? with
          | none => rw [List.getElem?_eq_none_iff, wipeE_length] at q1; omega
          | some o1 => cases o1 with
            | some d1 => exact absurd (hws j hj) (wipeE_some q1).2
            | none => cases q2 : (wipeE en vs)[j]? with
              | none => rw [List.getElem?_eq_none_iff, wipeE_length] at q2; omega
              | some o2 => cases o2 with
                | some d2 => exact absurd hj (wipeE_some q2).2
                | none => rfl
        · rw [List.getElem?_eq_none (by rw [wipeE_length]; omega), List.getElem?_eq_none (by rw [wipeE_length]; omega)]
      · rw [wipeE_out hj, wipeE_out fun z => hj (hsub j (List.mem_append_left _ z))]
    have hlen : (pre ++ (accd ++ a)).length ≤ sizeLine := by
      rw [ho] at hz
      simp only [List.length_append] at hz ⊢
      omega
    have hww : wipe (wipe σ vs) vs = wipe σ vs := wipe_wipe fun _ h => h
    refine (turn_imp (K1 := fun σ2 H3 => BODY σ2 H3 (Pv (i + 1))) (K2 := Pv (i + 1)) (F1 := F1) (vs := vs) (ds := ds) (by rw [wv]; exact S4) (W.yields i H x H' hlt hG yl) (s1.trans s4) hd ea h3 h6 (fun i hi => hsub i (List.mem_append_right _ hi))
      (fun env3 σ2 F3 H3 S3 f3 hh3 w3 e3 => ?_) fun σ2 F3 H3 S3 f3 hh3 w3 e3 => ?_) |> fun h => by
        rw [hww] at h
        exact h
    · rw [hww] at w3
      refine hbody acc (pre ++ accd) env3 σ2 F3 H3 a en1 (Pv (i + 1)) S3 (s4.trans f3) (r4.mono f3) e3 (by rw [List.append_assoc]; exact hlen) fun acc' F5 H5 σ5 S5 w5 f5 r5 hh5 => ?_
      obtain ⟨F6, S6, s6⟩ := S5.shrink (O' := O') fun j hj => (h5 j hj).2
      have S7 := S6.wipe hO'v
      rw [w5, w3, wipeE_wipeE (fun _ h => h)] at S7
      refine ⟨acc', accd ++ a, en1, F6, rst2, S7, s4.trans (f3.trans (f5.trans s6)), by rw [← List.append_assoc]; exact r5.mono s6, fun hbt b o hbD hbo => ?_, er, by rw [ho]; simp⟩
      obtain ⟨q1, q2⟩ := hbp hbt
      exact hh5 q2 b o hbD (hh3 q1 b o (p4 hbt b o hbD hbo))
    · rw [hww] at w3
      subst e3
      obtain ⟨F6, S6, s6⟩ := S3.shrink (O' := O') fun j hj => (h5 j hj).1
      have S7 := S6.wipe hO'v
      rw [w3] at S7
      exact ⟨acc, accd, en1, F6, rst2, S7, s4.trans (f3.trans s6), r4.mono (f3.trans s6), fun hbt b o hbD hbo => hh3 (hbp hbt).1 b o (p4 hbt b o hbD hbo), er, by rw [ho]; simp⟩
  · have e : i = ds.length := by omega
    subst e
    rw [List.drop_length] at e4
    cases e4
    rw [List.append_nil] at ho
    subst ho
    exact .inl ⟨W.stops H hG, hq acc F4 H S4 s4 r4 p4⟩
end
end Ev
end

section
set_option linter.all false
set_option autoImplicit false
set_option maxRecDepth 100000
/-! EvK: list comprehensions of one and of two clauses. -/
namespace Ev
open PySem PySem.Spec PyProof.Rows L2
section
variable {K : PySem.W.Frag} {w : World} {cal : Cal}
/-- a new list whose items are there -/
theorem new_list {m : Md} {x : X} {IO : List (Nat × Addr)} {F0 F F1 B H H' : Hp} {O' : Sl} {σ : L2.St} {env' : Env} {D : Addr} {acc : List V} {ds : List AV} {pr : Bool} {Q : VK} (hf : freshE x = true) (S : SR K w IO F0 F1 B O' σ H' env') (hF : F1 D = none) (hB : B D = none) (hn : NoSlot O' σ env' D) (hD : H' D = some (.lst acc)) (r : RepL K w F1 acc ds)
    (ff : Same F F1) (hh : pr = true → Same H H') (q : ∀ v F' H', Pst K w IO F0 F B O' σ H env' pr F' H' → RV K w m x F' B H' O' σ env' v (.list ds) → Q v H') : Q (.ref D) H' := by
  cases m with
  | val => exact q _ _ H' ⟨S.froz hF hB hD hn, ff.trans (same_upd' hF), hh⟩ (.lst (.inl (.inl upd_same)) (r.mono (same_upd' hF)))
  | opd => exact q _ F1 H' ⟨S, ff, hh⟩ ⟨⟨D, acc, rfl, .inl (.inl hD), r⟩, fun _ => .inl ⟨D, _, rfl, hB, hD⟩⟩
  | new =>
    refine q _ F1 H' ⟨S, ff, hh⟩ ?_
    unfold RV
    rw [if_pos hf]
    exact ⟨⟨D, acc, rfl, hF, hB, hD, r⟩, fun a e _ => by cases e; exact hn⟩
/-- the item's own step -/
def BodyE (K : PySem.W.Frag) (w : World) (cal : Cal) (ex : X) (D : Addr) : L2.St → Hp → (Hp → Prop) → Prop := fun σ2 H3 Nx => rd K w cal .val ex σ2 H3 fun y H4 => ∃ acc, H4 D = some (.lst acc) ∧ acc.length < sizeLine ∧ Nx (upd H4 D (.lst (acc ++ [y])))
def lastE (cal : Cal) (ex : X) (env : Env) : R (List AV × Env) := do
  let (v, env') ← evE cal ex env
  .ok ([v], env')
theorem body_imp {IO : List (Nat × Addr)} {F0 F3 B H3 : Hp} {O3 O4 : Sl} {σ2 : L2.St} {env3 en : Env} {D : Addr} {acc : List V} {accd a : List AV} {ex : X} {Nx : Hp → Prop} {vs : List Nat} {pb : Bool} (hpb : pb = true → prE ex = true) (hF0 : F0 D = none)
    (S3 : SR K w IO F0 F3 (upd B D (.lst acc)) O3 σ2 H3 env3) (r : RepL K w F3 acc accd) (e : lastE cal ex env3 = .ok (a, en)) (hz : (accd ++ a).length ≤ sizeLine) (ho : owE O3 ex = some O4) (hv : ∀ i ∈ O4, i ∉ vs)
    (h : ∀ (acc' : List V) (F4 H4 : Hp) (σ4 : L2.St), SR K w IO F0 F4 (upd B D (.lst acc')) O4 σ4 H4 (wipeE en vs) → wipe σ4 vs = wipe σ2 vs → Same F3 F4 → RepL K w F4 acc' (accd ++ a) → (pb = true → ∀ b o, b ≠ D → H3 b = some o → H4 b = some o) → Nx H4) : BodyE K w cal ex D σ2 H3 Nx := by
  obtain ⟨⟨v, e1⟩, ev, e⟩ := R.bind_eq_ok (show (evE cal ex env3 >>= fun p => R.ok ([p.1], p.2)) = .ok (a, en) from e)
  cases e
  refine ⟨IO, F0, F3, _, O3, env3, v, _, O4, S3, ev, ho, fun y F4 H4 p4 r4 => ?_⟩
  have r4 : Rep K w F4 y v := r4
  have hl := r.length
  have bD : (upd B D (HO.lst acc)) D = some (.lst acc) := upd_same
  have nF : F4 D = none := by
    cases z : F4 D with
    | none => rfl
    | some o =>
      rcases p4.sr.fb D o z with q | q
      · rw [hF0] at q; cases q
      · rw [bD] at q; cases q
  refine ⟨acc, p4.sr.bh _ _ bD, by simp only [List.length_append, List.length_cons, List.length_nil] at hz; omega, ?_⟩
  have S5 := p4.sr.put (o := .lst (acc ++ [y])) nF (p4.sr.noSlot (.inr (.inl (by rw [bD]; simp))))
  rw [upd_upd] at S5
  refine h (acc ++ [y]) F4 _ _ (S5.wipe hv) (wipe_wipe fun _ h => h) p4.ff ((r.mono p4.ff).snoc r4) fun z b o hb ho => ?_
  rw [upd_ne hb]
  exact p4.hh (hpb z) b o ho
theorem owC_one {O O' : Sl} {ws : List Nat} {tg : Tg} {it : It} {c : Ox} {pb : Bool} {last : Sl → Option Sl} (h : owCs O (.cons ws tg it c .nil) pb last = some O') :
    ∃ O1 O3 O4, owIt (prOx c && pb) O it = some O1 ∧ (∀ i ∈ O', i ∈ O1) ∧ owOx (minus O' (ws ++ tgsOf tg)) c = some O3 ∧ last O3 = some O4 ∧ (∀ i ∈ O', i ∈ O3 ∧ i ∈ O4) ∧ ∀ i ∈ O', i ∉ ws ++ tgsOf tg := by
  obtain ⟨O1, h1, h⟩ := andThen_some (show andThen (owIt (prOx c && true && pb) O it) (fun O1 => steady (ws ++ tgsOf tg) (fun O => andThen (owOx (minus O (ws ++ tgsOf tg)) c) fun O2 => both (some O2) (last O2)) O1) = some O' from h)
  obtain ⟨O2, h2, g1, g2, g3⟩ := steady_some h
  obtain ⟨O3, h3, h4⟩ := andThen_some h2
  obtain ⟨A, O4, e1, h5, rfl⟩ := both_some h4
  cases e1
  rw [Bool.and_true] at h1
  exact ⟨O1, O3, O4, h1, g1, h3, h5, fun i hi => mem_meet.mp (g2 i hi), g3⟩
theorem evC_one {ws : List Nat} {tg : Tg} {it : It} {c : Ox} {last : Env → R (List AV × Env)} {env : Env} : evCs cal (.cons ws tg it c .nil) last env = (do let (xs, env1) ← evIt cal it env; loopC (turnF cal ws tg c last) xs env1) := rfl
theorem evC_two {ws ws1 : List Nat} {tg tg1 : Tg} {it it1 : It} {c c1 : Ox} {last : Env → R (List AV × Env)} {env : Env} : evCs cal (.cons ws tg it c (.cons ws1 tg1 it1 c1 .nil)) last env = (do let (xs, env1) ← evIt cal it env; loopC (turnF cal ws tg c fun env => do let (xs, env1) ← evIt cal it1 env; loopC (turnF cal ws1 tg1 c1 last) xs env1) xs env1) := rfl
/-- one clause -/
theorem comp1_imp {m : Md} {own : List Nat} {tg : Tg} {it : It} {c : Ox} {ex : X} {σ : L2.St} {H : Hp} {Q : VK} (hsub : ∀ i ∈ tgsOf tg, i ∈ own) (hv : ∀ (O3 O4 : Sl), owE O3 ex = some O4 → ∀ i ∈ O4, i ∈ O3) (hvc : ∀ (O3 O4 : Sl), owOx O3 c = some O4 → ∀ i ∈ O4, i ∈ O3)
    (h : rd K w cal m (.comp own (.cons own tg it c .nil) ex) σ H Q) : tLc (rdIt K w cal (prOx c && prE ex) it) (gT K tg) (tT K w cal c) (rd K w cal .val ex) own σ H Q := by
  obtain ⟨IO, F0, F, B, O, env, d, env', O', S, e, o, q⟩ := h
  obtain ⟨⟨out, env1⟩, ec, e⟩ := R.bind_eq_ok (show (evCs cal (.cons own tg it c .nil) (lastE cal ex) env >>= fun p => lstR p.1 >>= fun l => R.ok (l, back env p.2 own)) = .ok (d, env') from e)
  obtain ⟨l, el, e⟩ := R.bind_eq_ok e
  cases e
  obtain ⟨rfl, hz⟩ := lstR_ok el
  rw [evC_one] at ec
  obtain ⟨⟨ds, e1⟩, ei, eloop⟩ := R.bind_eq_ok ec
  rw [owM_nv rfl] at o
  have o : (if apartS own O = true then owCs O (.cons own tg it c .nil) (prE ex) (fun O => owE O ex) else none) = some O' := o
  split at o
  · rename_i hap
    obtain ⟨O1, O3, O4, oi, g1, g2, g3, g4, g5⟩ := owC_one o
    refine ⟨IO, F0, F, B, O, env, ds, e1, O1, S, ei, oi, fun J F1 H1 Bs p1 hBs hb _ W D hD => ?_⟩
    have nF : F1 D = none := p1.sr.fh.free hD
    have nB : B D = none := p1.sr.bh.free hD
    have nF0 : F0 D = none := p1.sr.f0.free nF
    have S1 := p1.sr.put (o := .lst []) nF (p1.sr.noSlot (.inr (.inr hD)))
    have hO'v : ∀ i ∈ O', i ∉ own := fun i hi z => g5 i hi (List.mem_append_left _ z)
    have hO4 : ∀ i ∈ O4, i ∉ own := fun i hi z => by
      have h1 := hvc _ _ g2 i (hv _ _ g3 i hi)
      exact (minus_mem.mp h1).2 (List.mem_append_left _ z)
    have bs0 : ∀ o, Bs D ≠ some o := fun o z => by
      have := hBs _ _ z
      rw [hD] at this
      cases this
    refine loop_imp (BODY := BodyE K w cal ex D) (Qd := fun H => Q (.ref D) H) (bp := prOx c && prE ex) (pb := prE ex) (pre := []) W (hBs.trans (same_upd' hD)) hb (fun z => by rw [Bool.and_eq_true] at z; exact z) nF0 nB (fun i hi => (List.mem_append.mp hi).elim id (hsub i)) (fun i hi => hi) S1 (Same.refl _) .nil eloop (by simpa using hz) g1 g2 g4 g5
      (fun acc accd env3 σ2 F3 H3 a en Nx S3 f3 r3 e3 z3 k => body_imp (fun z => z) nF0 S3 r3 e3 z3 g3 hO4 k) (fun acc F4 H4 S4 f4 r4 h4 => ?_) bs0
    have S5 : SR K w IO F0 F4 B O' (wipe σ own) H4 (wipeE env1 own) := S4.less (same_upd' nB)
    have S6 := S.back S5 (p1.ff.trans f4) (fun i hi z => apart_mem hap z hi) hO'v
    have bD : (upd B D (HO.lst acc)) D = some (.lst acc) := upd_same
    have hD4 : H4 D = some (.lst acc) := S4.bh _ _ bD
    have nF4 : F4 D = none := by
      cases z : F4 D with
      | none => rfl
      | some o =>
        rcases S4.fb D o z with q | q
        · rw [nF0] at q; cases q
        · rw [bD] at q; cases q
    have ns : NoSlot O' σ (back env env1 own) D := fun j hj dd hd hm hs => by
      rw [back_out (hO'v j hj)] at hd
      exact S4.noSlot (.inr (.inl (by rw [bD]; simp))) j hj dd (by rw [wipeE_out (hO'v j hj)]; exact hd) hm (by rw [wipeS_out (hO'v j hj)]; exact hs)
    refine new_list (ds := out) rfl S6 nF4 nB ns hD4 r4 (p1.ff.trans f4) (fun z => ?_) q
    have z : ((prIt it && prOx c && true) && prE ex) = true := z
    simp only [Bool.and_eq_true, and_true] at z
    intro b o hbo
    have hb1 := p1.hh z.1.1 b o hbo
    have nb : b ≠ D := fun y => by subst y; rw [hD] at hb1; cases hb1
    exact h4 (by rw [z.1.2, z.2]; rfl) b o nb (by rw [upd_ne nb]; exact hb1)
  · cases o
/-- two clauses -/
theorem comp2_imp {m : Md} {own ws1 : List Nat} {tg tg1 : Tg} {it it1 : It} {c c1 : Ox} {ex : X} {σ : L2.St} {H : Hp} {Q : VK} (hsub : ∀ i ∈ tgsOf tg, i ∈ own) (hsub1 : ∀ i ∈ ws1 ++ tgsOf tg1, i ∈ ws1) (hs2 : ∀ i ∈ ws1, i ∈ own)
    (hv : ∀ (O3 O4 : Sl), owE O3 ex = some O4 → ∀ i ∈ O4, i ∈ O3) (hvc : ∀ (O3 O4 : Sl), owOx O3 c = some O4 → ∀ i ∈ O4, i ∈ O3) (hvc1 : ∀ (O3 O4 : Sl), owOx O3 c1 = some O4 → ∀ i ∈ O4, i ∈ O3)
    (hvi : ∀ b (O3 O4 : Sl), owIt b O3 it1 = some O4 → ∀ i ∈ O4, i ∈ O3)
    (h : rd K w cal m (.comp own (.cons own tg it c (.cons ws1 tg1 it1 c1 .nil)) ex) σ H Q) :
    tLc2 (rdIt K w cal (prOx c && (prIt it1 && prOx c1 && true) && prE ex) it) (gT K tg) (tT K w cal c) (rdIt K w cal (prOx c1 && prE ex) it1) (gT K tg1) (tT K w cal c1) (rd K w cal .val ex) own ws1 σ H Q := by
  obtain ⟨IO, F0, F, B, O, env, d, env', O', S, e, o, q⟩ := h
  obtain ⟨⟨out, env1⟩, ec, e⟩ := R.bind_eq_ok (show (evCs cal (.cons own tg it c (.cons ws1 tg1 it1 c1 .nil)) (lastE cal ex) env >>= fun p => lstR p.1 >>= fun l => R.ok (l, back env p.2 own)) = .ok (d, env') from e)
  obtain ⟨l, el, e⟩ := R.bind_eq_ok e
  cases e
  obtain ⟨rfl, hz⟩ := lstR_ok el
  rw [evC_two] at ec
  obtain ⟨⟨ds, e1⟩, ei, eloop⟩ := R.bind_eq_ok ec
  rw [owM_nv rfl] at o
  have o : (if apartS own O = true then owCs O (.cons own tg it c (.cons ws1 tg1 it1 c1 .nil)) (prE ex) (fun O => owE O ex) else none) = some O' := o
  split at o
  · rename_i hap
    obtain ⟨O1, oi, o⟩ := andThen_some (show andThen (owIt (prOx c && (prIt it1 && prOx c1 && true) && prE ex) O it) (fun O1 => steady (own ++ tgsOf tg) (fun O => andThen (owOx (minus O (own ++ tgsOf tg)) c) fun O2 => both (some O2) (owCs O2 (.cons ws1 tg1 it1 c1 .nil) (prE ex) (fun O => owE O ex))) O1) = some O' from o)
    obtain ⟨O2, h2, g1, g4, g5⟩ := steady_some o
    obtain ⟨O3, g2, h4⟩ := andThen_some h2
    obtain ⟨A, O4, e9, oin, rfl⟩ := both_some h4
    cases e9
    obtain ⟨P1, P3, P4, pi, k1, k2, k3, k4, k5⟩ := owC_one oin
    refine ⟨IO, F0, F, B, O, env, ds, e1, O1, S, ei, oi, fun J F1 H1 Bs p1 hBs hb _ W D hD => ?_⟩
    have nF : F1 D = none := p1.sr.fh.free hD
    have nB : B D = none := p1.sr.bh.free hD
    have nF0 : F0 D = none := p1.sr.f0.free nF
    have S1 := p1.sr.put (o := .lst []) nF (p1.sr.noSlot (.inr (.inr hD)))
    have hO'v : ∀ i ∈ O', i ∉ own := fun i hi z => g5 i hi (List.mem_append_left _ z)
    have hO3 : ∀ i ∈ O3, i ∉ own := fun i hi z => (minus_mem.mp (hvc _ _ g2 i hi)).2 (List.mem_append_left _ z)
    have hP4 : ∀ i ∈ P4, i ∉ ws1 := fun i hi z => (minus_mem.mp (hvc1 _ _ k2 i (hv _ _ k3 i hi))).2 (List.mem_append_left _ z)
    have hO4v : ∀ i ∈ O4, i ∉ own := fun i hi z => hO3 i (hvi _ _ _ pi i (k1 i hi)) z
    have bs0 : ∀ o, Bs D ≠ some o := fun o z => by
      have := hBs _ _ z
      rw [hD] at this
      cases this
    refine loop_imp (BODY := fun σ2 H3 Nx => rdIt K w cal (prOx c1 && prE ex) it1 σ2 H3 fun J1 H4 => LoopR J1 σ2 ws1 (gT K tg1) (tT K w cal c1) (BodyE K w cal ex D) Nx H4) (Qd := fun H => Q (.ref D) H) (bp := prOx c && (prIt it1 && prOx c1 && true) && prE ex) (pb := prIt it1 && prOx c1 && prE ex) (pre := []) W (hBs.trans (same_upd' hD)) hb
      (fun z => by simp only [Bool.and_eq_true, and_true] at z ⊢; exact ⟨z.1.1, z.1.2, z.2⟩) nF0 nB (fun i hi => (List.mem_append.mp hi).elim id (hsub i)) (fun i hi => hi) S1 (Same.refl _) .nil eloop (by simpa using hz) g1 g2 (fun i hi => mem_meet.mp (g4 i hi)) g5
      (fun acc accd env3 σ2 F3 H3 a en Nx S3 f3 r3 e3 z3 k => ?_) (fun acc F4 H4 S4 f4 r4 h4 => ?_) bs0
    · obtain ⟨⟨ds1, e5⟩, ei1, eloop1⟩ := R.bind_eq_ok e3
      refine ⟨IO, F0, F3, _, O3, env3, ds1, e5, P1, S3, ei1, pi, fun J1 F5 H5 Bs1 p5 hBs1 hb1 hB1 W1 => ?_⟩
      have bD3 : H5 D = some (.lst acc) := p5.sr.bh _ _ upd_same
      have nF5 : F5 D = none := by
        cases z : F5 D with
        | none => rfl
        | some o =>
          rcases p5.sr.fb D o z with q | q
          · rw [nF0] at q; cases q
          · rw [upd_same] at q; cases q
      have hO4w : ∀ i ∈ O4, i ∉ ws1 := fun i hi z => hO4v i hi (hs2 i z)
      refine loop_imp (BODY := BodyE K w cal ex D) (Qd := Nx) (bp := prOx c1 && prE ex) (pb := prE ex) (pre := accd) (acc0 := acc) W1 hBs1 hb1 (fun z => by rw [Bool.and_eq_true] at z; exact z) nF0 nB hsub1 (fun i hi => hi) p5.sr (Same.refl _) (r3.mono p5.ff) eloop1 z3 k1 k2 k4 k5
        (fun acc accd env3 σ3 F6 H6 a en Nx S6 f6 r6 e6 z6 kk => body_imp (fun z => z) nF0 S6 r6 e6 z6 k3 hP4 kk) (fun acc F6 H6 S6 f6 r6 h6 => ?_) fun o z => ?_
      · have S7 := S6.wipe hO4v
        rw [wipe_wipe hs2, wipeE_wipeE hs2] at S7
        refine k acc F6 H6 _ S7 (wipe_wipe fun _ h => h) (p5.ff.trans f6) r6 fun z b o hb ho => ?_
        simp only [Bool.and_eq_true] at z
        exact h6 (by rw [z.1.2, z.2]; rfl) b o hb (p5.hh z.1.1 b o ho)
      · rcases hB1 _ _ z with q | q
        · rw [nF5] at q; cases q
        · rw [upd_same] at q; cases q
    · have S5 : SR K w IO F0 F4 B O' (wipe σ own) H4 (wipeE env1 own) := S4.less (same_upd' nB)
      have S6 := S.back S5 (p1.ff.trans f4) (fun i hi z => apart_mem hap z hi) hO'v
      have bD : (upd B D (HO.lst acc)) D = some (.lst acc) := upd_same
      have hD4 : H4 D = some (.lst acc) := S4.bh _ _ bD
      have nF4 : F4 D = none := by
        cases z : F4 D with
        | none => rfl
        | some o =>
          rcases S4.fb D o z with q | q
          · rw [nF0] at q; cases q
          · rw [bD] at q; cases q
      have ns : NoSlot O' σ (back env env1 own) D := fun j hj dd hd hm hs => by
        rw [back_out (hO'v j hj)] at hd
        exact S4.noSlot (.inr (.inl (by rw [bD]; simp))) j hj dd (by rw [wipeE_out (hO'v j hj)]; exact hd) hm (by rw [wipeS_out (hO'v j hj)]; exact hs)
      refine new_list (ds := out) rfl S6 nF4 nB ns hD4 r4 (p1.ff.trans f4) (fun z => ?_) q
      have z : ((prIt it && prOx c && (prIt it1 && prOx c1 && true)) && prE ex) = true := z
      simp only [Bool.and_eq_true, and_true] at z
      intro b o hbo
      have hb1 := p1.hh z.1.1.1 b o hbo
      have nb : b ≠ D := fun y => by subst y; rw [hD] at hb1; cases hb1
      exact h4 (by simp [z.1.1.2, z.1.2.1, z.1.2.2, z.2]) b o nb (by rw [upd_ne nb]; exact hb1)
  · cases o
end
end Ev
end

section
set_option linter.all false
set_option autoImplicit false
set_option maxRecDepth 100000
set_option maxHeartbeats 2000000
/-! EvL: which text an own expression stands for; each such reads as the evaluator says. -/
namespace Ev
open PySem PySem.Spec PyProof.Rows L2
/-! ### what is owned grows nowhere -/
theorem at_sub {O O' : Sl} {r : Option Sl} {f : Sl → Option Sl} (h1 : ∀ O1, r = some O1 → ∀ i ∈ O1, i ∈ O) (h2 : ∀ O1 O', f O1 = some O' → ∀ i ∈ O', i ∈ O1) (h : andThen r f = some O') : ∀ i ∈ O', i ∈ O := fun i hi => by
  obtain ⟨O1, e1, e2⟩ := andThen_some h
  exact h1 O1 e1 i (h2 O1 O' e2 i hi)
theorem bor_sub {O O' : Sl} {e : X} {r : Option Sl} (h1 : ∀ O1, r = some O1 → ∀ i ∈ O1, i ∈ O) (h : bor e O r = some O') : ∀ i ∈ O', i ∈ O := by
  unfold bor at h
  cases hv : isVar e with
  | some j => rw [hv] at h; cases h; exact fun i hi => hi
  | none => rw [hv] at h; exact h1 O' h
theorem if_sub {O O' : Sl} {b : Bool} {r r' : Option Sl} (h1 : ∀ O1, r = some O1 → ∀ i ∈ O1, i ∈ O) (h2 : ∀ O1, r' = some O1 → ∀ i ∈ O1, i ∈ O) (h : (if b = true then r else r') = some O') : ∀ i ∈ O', i ∈ O := by
  cases b with
  | true => exact h1 O' h
  | false => exact h2 O' h
theorem both_sub {O O' : Sl} {a b : Option Sl} (h1 : ∀ O1, a = some O1 → ∀ i ∈ O1, i ∈ O) (h : both a b = some O') : ∀ i ∈ O', i ∈ O := fun i hi => by
  obtain ⟨A, B, e1, _, rfl⟩ := both_some h
  exact h1 A e1 i (mem_meet.mp hi).1
theorem chk_sub {O O' : Sl} {b : Bool} (h : (if b = true then some O else none) = some O') : ∀ i ∈ O', i ∈ O := by
  cases b with
  | true => cases h; exact fun i hi => hi
  | false => cases h
theorem some_sub {O : Sl} : ∀ O1, some O = some O1 → ∀ i ∈ O1, i ∈ O := fun O1 e i hi => by cases e; exact hi
mutual
theorem owE_sub : ∀ (x : X) {O O' : Sl}, owE O x = some O' → ∀ i ∈ O', i ∈ O
  | .var j, O, O', h => by cases h; intro i hi; exact (List.mem_filter.mp hi).1
  | .con _, O, O', h => by cases h; exact fun i hi => hi
  | .bin _ a b, O, O', h => at_sub (fun O1 h => if_sub (fun O1 h => bor_sub (fun O1 h => owE_sub a h) h) (fun O1 h => owE_sub a h) h) (fun O1 O' h => bor_sub (fun O1 h => owE_sub b h) h) h
  | .neg a, O, O', h => owE_sub a h
  | .not a, O, O', h => owE_sub a h
  | .and a b, O, O', h => at_sub (fun O1 h => owE_sub a h) (fun O1 O' h => both_sub some_sub h) h
  | .or a b, O, O', h => at_sub (fun O1 h => owE_sub a h) (fun O1 O' h => both_sub some_sub h) h
  | .cmp _ a b, O, O', h => at_sub (fun O1 h => if_sub (fun O1 h => bor_sub (fun O1 h => owE_sub a h) h) (fun O1 h => owE_sub a h) h) (fun O1 O' h => bor_sub (fun O1 h => owE_sub b h) h) h
  | .chain _ _ a b c, O, O', h => at_sub (fun O1 h => owE_sub a h) (fun O1 O' h => at_sub (fun O1 h => owE_sub b h) (fun O1 O' h => both_sub some_sub h) h) h
  | .ite c a b, O, O', h => at_sub (fun O1 h => owE_sub c h) (fun O1 O' h => both_sub (fun O1 h => owE_sub a h) h) h
  | .tup es, O, O', h => owXs_sub es h
  | .lst es, O, O', h => owXs_sub es h
  | .dict es, O, O', h => owDs_sub es h
  | .idx a b, O, O', h => at_sub (fun O1 h => if_sub (fun O1 h => bor_sub (fun O1 h => owE_sub a h) h) (fun O1 h => owE_sub a h) h) (fun O1 O' h => bor_sub (fun O1 h => owE_sub b h) h) h
  | .slc a lo hi, O, O', h => at_sub (fun O1 h => if_sub (fun O1 h => bor_sub (fun O1 h => owE_sub a h) h) (fun O1 h => owE_sub a h) h) (fun O1 O' h => at_sub (fun O1 h => owOx_sub lo h) (fun O1 O' h => owOx_sub hi h) h) h
  | .comp own cs e, O, O', h => by
    have h : (if apartS own O = true then owCs O cs (prE e) fun O => owE O e else none) = some O' := h
    exact if_sub (fun O1 h => owCs_sub cs (fun O1 O' h => owE_sub e h) h) (fun O1 h => by cases h) h
  | .dcomp own cs k v, O, O', h => by
    have h : (if apartS own O = true then owCs O cs (prE k && prE v) fun O => andThen (owE O k) fun O1 => owE O1 v else none) = some O' := h
    exact if_sub (fun O1 h => owCs_sub cs (fun O1 O' h => at_sub (fun O1 h => owE_sub k h) (fun O1 O' h => owE_sub v h) h) h) (fun O1 h => by cases h) h
  | .call _ es, O, O', h => owXs_sub es h
  | .blt _ .nil, O, O', h => by cases h; exact fun i hi => hi
  | .blt _ (.cons e .nil), O, O', h => bor_sub (fun O1 h => owE_sub e h) h
  | .blt _ (.cons e (.cons a r)), O, O', h => owXs_sub (.cons e (.cons a r)) h
  | .blt _ (.cons e (.star a r)), O, O', h => owXs_sub (.cons e (.star a r)) h
  | .blt _ (.cons e (.io a r)), O, O', h => owXs_sub (.cons e (.io a r)) h
  | .blt _ (.cons e (.tmp a r)), O, O', h => owXs_sub (.cons e (.tmp a r)) h
  | .blt _ (.star e r), O, O', h => owXs_sub (.star e r) h
  | .blt _ (.io e r), O, O', h => owXs_sub (.io e r) h
  | .blt _ (.tmp e r), O, O', h => owXs_sub (.tmp e r) h
  | .meth _ o es, O, O', h => at_sub (fun O1 h => if_sub (fun O1 h => bor_sub (fun O1 h => owE_sub o h) h) (fun O1 h => owE_sub o h) h) (fun O1 O' h => owXs_sub es h) h
  | .pop _ e, O, O', h => at_sub (fun O1 h => owOx_sub e h) (fun O1 O' h => chk_sub h) h
theorem owXs_sub : ∀ (es : Xs) {O O' : Sl}, owXs O es = some O' → ∀ i ∈ O', i ∈ O
  | .nil, O, O', h => by cases h; exact fun i hi => hi
  | .cons e r, O, O', h => at_sub (fun O1 h => owE_sub e h) (fun O1 O' h => owXs_sub r h) h
  | .star e r, O, O', h => at_sub (fun O1 h => bor_sub (fun O1 h => owE_sub e h) h) (fun O1 O' h => owXs_sub r h) h
  | .tmp e r, O, O', h => at_sub (fun O1 h => owE_sub e h) (fun O1 O' h => if_sub (fun O1 h => owXs_sub r h) (fun O1 h => by cases h) h) h
  | .io i r, O, O', h => at_sub (fun O1 h => owXs_sub r h) (fun O1 O' h => chk_sub h) h
theorem owOx_sub : ∀ (x : Ox) {O O' : Sl}, owOx O x = some O' → ∀ i ∈ O', i ∈ O
  | .none, O, O', h => by cases h; exact fun i hi => hi
  | .some e, O, O', h => owE_sub e h
theorem owDs_sub : ∀ (x : Ds) {O O' : Sl}, owDs O x = some O' → ∀ i ∈ O', i ∈ O
  | .nil, O, O', h => by cases h; exact fun i hi => hi
  | .kv k v r, O, O', h => at_sub (fun O1 h => owE_sub k h) (fun O1 O' h => at_sub (fun O1 h => owE_sub v h) (fun O1 O' h => owDs_sub r h) h) h
  | .star d r, O, O', h => at_sub (fun O1 h => bor_sub (fun O1 h => owE_sub d h) h) (fun O1 O' h => owDs_sub r h) h
theorem owCs_sub : ∀ (x : Cs) {pb : Bool} {last : Sl → Option Sl} {O O' : Sl}, (∀ O1 O', last O1 = some O' → ∀ i ∈ O', i ∈ O1) → owCs O x pb last = some O' → ∀ i ∈ O', i ∈ O
  | .nil, pb, last, O, O', hl, h => hl O O' h
  | .cons ws tg it c r, pb, last, O, O', hl, h => at_sub (fun O1 h => owIt_sub it h) (fun O1 O' h => (steady_some h).choose_spec.2.1) h
theorem owIt_sub : ∀ (x : It) {b : Bool} {O O' : Sl}, owIt b O x = some O' → ∀ i ∈ O', i ∈ O
  | .expr e, b, O, O', h => if_sub (fun O1 h => bor_sub (fun O1 h => owE_sub e h) h) (fun O1 h => owE_sub e h) h
  | .rng1 e, b, O, O', h => owE_sub e h
  | .rng2 a e, b, O, O', h => at_sub (fun O1 h => owE_sub a h) (fun O1 O' h => owE_sub e h) h
  | .enum e, b, O, O', h => if_sub (fun O1 h => bor_sub (fun O1 h => owE_sub e h) h) (fun O1 h => owE_sub e h) h
  | .items e, b, O, O', h => if_sub (fun O1 h => bor_sub (fun O1 h => owE_sub e h) h) (fun O1 h => owE_sub e h) h
  | .vals e, b, O, O', h => if_sub (fun O1 h => bor_sub (fun O1 h => owE_sub e h) h) (fun O1 h => owE_sub e h) h
end
/-! ### shapes of built-in calls -/
def glB (sc : Scope) (x : Str) : Bool := decide (sc.names.lookup x = some .globalImplicit)
def visB (sc : Scope) (x : Str) : Bool := decide (sc.names.lookup x = some .local) || decide (sc.names.lookup x = some .cell) || decide (sc.names.lookup x = some .free)
def odd (x : Str) : Bool := (x == ("__debug__" : Str)) || (x == ("__classdict__" : Str))
def call1 (sc : Scope) (nm : Str) : Expr → Option Expr
  | .Call (.Name x _) [l] [] _ => if decide (x = nm) && glB sc nm && !stE l then some l else none
  | _ => none
def call2 (sc : Scope) (nm : Str) : Expr → Option (Expr × Expr)
  | .Call (.Name x _) [l, r] [] _ => if decide (x = nm) && glB sc nm && !stE l && !stE r then some (l, r) else none
  | _ => none
def isi (sc : Scope) (T : Str) : Expr → Option Expr
  | .Call (.Name x _) [l, .Name y _] [] _ => if decide (x = "isinstance") && glB sc "isinstance" && decide (y = T) && glB sc T && !stE l then some l else none
  | _ => none
def isi2 (sc : Scope) : Expr → Option Expr
  | .Call (.Name x _) [l, .Tuple [.Name y _, .Name z _] _ _] [] _ => if decide (x = "isinstance") && glB sc "isinstance" && decide (y = "tuple") && glB sc "tuple" && decide (z = "list") && glB sc "list" && !stE l then some l else none
  | _ => none
def revE : Expr → Option Expr
  | .Subscript l (.Slice none none (some (.UnaryOp .USub (.Constant (.int 1) _ _) _)) _) _ => some l
  | _ => none
def sh1 (sc : Scope) (f : Blt) (e : Expr) : Option Expr := match f with
  | .len => call1 sc "len" e
  | .sum => call1 sc "sum" e
  | .all => call1 sc "all" e
  | .any => call1 sc "any" e
  | .min => call1 sc "min" e
  | .max => call1 sc "max" e
  | .sorted => call1 sc "sorted" e
  | .abs => call1 sc "abs" e
  | .list => call1 sc "list" e
  | .tuple => call1 sc "tuple" e
  | .int => call1 sc "int" e
  | .str => call1 sc "str" e
  | .sset => (call1 sc "sorted" e).bind (call1 sc "set")
  | .lset => (call1 sc "len" e).bind (call1 sc "set")
  | .isInt => isi sc "int" e
  | .isBool => isi sc "bool" e
  | .isTup => isi sc "tuple" e
  | .isStr => isi sc "str" e
  | .isList => isi sc "list" e
  | .isTL => isi2 sc e
  | .lrng1 => (call1 sc "list" e).bind (call1 sc "range")
  | .trng1 => (call1 sc "tuple" e).bind (call1 sc "range")
  | .rev => revE e
  | _ => none
def sh2 (sc : Scope) (f : Blt) (e : Expr) : Option (Expr × Expr) := match f with
  | .min2 => call2 sc "min" e
  | .max2 => call2 sc "max" e
  | .lrng2 => (call1 sc "list" e).bind (call2 sc "range")
  | .trng2 => (call1 sc "tuple" e).bind (call2 sc "range")
  | _ => none
/-- o.name(..): the base is no call without arguments by a name -/
def abE : Expr → Bool
  | .Call .. => false
  | _ => true
def mname : Mth → Option Str
  | .index => some "index"
  | .count => some "count"
  | _ => none
def shm1 (m : Mth) (e : Expr) : Option (Expr × Expr) := match e with
  | .Call (.Attribute o name apos) [l] [] pos => if decide (mname m = some name) && (apos.endLine == pos.line) && abE o && !stE l then some (o, l) else none
  | _ => none
/-- the rules of built-ins -/
structure Rls (c : Cx) : Prop where
  ops : Rules c
  u1 : ∀ f e l, sh1 c.env.scope f e = some l → tvE e = true ∧ ∀ nb t, (nb = true → freshB f = true) → PE c l t → PE c e (tUn (rUn c.K c.w (fun x => bltop f [x]) nb) t)
  u2 : ∀ f e l r, sh2 c.env.scope f e = some (l, r) → tvE e = true ∧ ∀ nb t u, (nb = true → freshB f = true) → PE c l t → PE c r u → PE c e (tOp (rOp c.K c.w (fun x y => bltop f [x, y]) nb) t u)
  m1 : ∀ m e l r, shm1 m e = some (l, r) → tvE e = true ∧ (∀ da db d, mthop m da [db] = .ok d → ∃ xs, da = .list xs) ∧ ∀ t u, PE c l t → PE c r u → PE c e (fun σ H Q => t σ H fun x H1 => tyV c.K "list" x H1 ∧ u σ H1 fun y H2 => rOp c.K c.w (fun x y => mthop m x [y]) false x y H2 Q)
  enum : ∀ (es : List Expr) (n : Nat) (tp : Pos) (l : Expr) (p pos : Pos) (cal : Cal) (b : Bool) (a : X), glB c.env.scope "enumerate" = true → stE l = false → OkE cal c l a → PI c (.Tuple es n tp) (.Call (.Name "enumerate" p) [l] [] pos) (rdIt c.K c.w cal b (.enum a))
  rng : c.mg "range" = none
  hu : c.A.units + 1 < cLine
/-! ### the check -/
def isOr : Expr → Option (List Expr × Pos)
  | .BoolOp .Or l p => some (l, p)
  | _ => none
def tupTg : Expr → Bool
  | .Tuple .. => true
  | _ => false
def pixE : Expr → Bool
  | .Slice .. => false
  | _ => true
def fullE : Expr → Bool
  | .Set .. => false
  | _ => true
/-- a place of a list item N: i its name x -/
def ownL (N : List Str) (own : List Nat) : List (Str × Nat) := own.map fun i => (N.getD i "", i)
mutual
def chkE (P : Tab) (N : List Str) : X → (Str → Bool) → Scope → Expr → Bool
  | .var i, fn, sc, e => match e with
    | .Name y _ => decide (N[i]? = some y) && visB sc y && !odd y
    | _ => false
  | .con a, fn, sc, e => match e with
    | .Constant k _ _ => match a, k with
      | .none, .none => true
      | .bool x, .bool y => decide (x = y)
      | .int x, .int y => decide (x = y)
      | .str x, .str y => decide (x = y)
      | _, _ => false
    | .Name y _ => glB sc y && !odd y && (match P.g y with
      | some b => beqA a b
      | none => false)
    | _ => false
  | .bin op a b, fn, sc, e => match e with
    | .BinOp l o r _ => decide (o = bopP op) && chkE P N a fn sc l && chkE P N b fn sc r
    | _ => false
  | .neg a, fn, sc, e => match e with
    | .UnaryOp .USub l _ => chkE P N a fn sc l
    | _ => false
  | .not a, fn, sc, e => match e with
    | .UnaryOp .Not l _ => chkE P N a fn sc l
    | _ => false
  | .and a b, fn, sc, e => match e with
    | .BoolOp .And [l, r] _ => chkE P N a fn sc l && chkE P N b fn sc r
    | .BoolOp .And (l :: r :: t :: rest) p => chkE P N a fn sc l && chkE P N b fn sc (.BoolOp .And (r :: t :: rest) p)
    | _ => false
  | .or a b, fn, sc, e => match e with
    | .BoolOp .Or [l, r] _ => chkE P N a fn sc l && chkE P N b fn sc r
    | .BoolOp .Or (l :: r :: t :: rest) p => chkE P N a fn sc l && chkE P N b fn sc (.BoolOp .Or (r :: t :: rest) p)
    | _ => false
  | .cmp op a b, fn, sc, e => match e with
    | .Compare l [o] [r] _ => decide (o = copP op) && !behindInMarks (copP op) r && chkE P N a fn sc l && chkE P N b fn sc r
    | _ => false
  | .chain op op' a b d, fn, sc, e => match e with
    | .Compare l [o, o'] [r, t] _ => decide (o = copP op) && decide (o' = copP op') && !lastMarks [copP op, copP op'] [r, t] && chkE P N a fn sc l && chkE P N b fn sc r && chkE P N d fn sc t
    | _ => false
  | .ite d a b, fn, sc, e => match e with
    | .IfExp t l r _ => chkE P N d fn sc t && chkE P N a fn sc l && chkE P N b fn sc r
    | _ => false
  | .tup es, fn, sc, e => match e with
    | .Tuple ls _ _ => plainXs es && chkXs P N es fn sc ls
    | _ => false
  | .lst es, fn, sc, e => match e with
    | .List ls _ => plainXs es && chkXs P N es fn sc ls
    | _ => false
  | .dict .nil, fn, sc, e => match e with
    | .Dict [] [] _ => true
    | _ => false
  | .dict _, _, _, _ => false
  | .idx a b, fn, sc, e => match e with
    | .Subscript l r _ => pixE r && chkE P N a fn sc l && chkE P N b fn sc r
    | _ => false
  | .slc a lo hi, fn, sc, e => match e with
    | .Subscript l (.Slice lo' hi' none _) _ => chkE P N a fn sc l && chkOx P N lo fn sc lo' && chkOx P N hi fn sc hi'
    | _ => false
  | .comp own cs ex, fn, sc, e => match e with
    | .ListComp elt gens scope _ => blkC N sc scope (ownL N own) && chkCs P N own cs fn sc scope gens && chkE P N ex (fun x => scope.names.lookup x == some .cell) (relS scope sc) elt
    | _ => false
  | .dcomp .., _, _, _ => false
  | .call f es, fn, sc, e => match e with
    | .Call (.Name x _) ls [] _ => decide (x = P.nm f) && glB sc x && !odd x && noStar es && (match P f with
      | some D => decide (posIo 0 es = D.io)
      | none => false) && (ls.all fun l => !stE l) && chkXs P N es fn sc ls
    | _ => false
  | .blt f (.cons a .nil), fn, sc, e => match sh1 sc f e with
    | some l => chkE P N a fn sc l
    | none => false
  | .blt f (.cons a (.cons b .nil)), fn, sc, e => match sh2 sc f e with
    | some (l, r) => chkE P N a fn sc l && chkE P N b fn sc r
    | none => false
  | .blt _ _, _, _, _ => false
  | .meth m a (.cons b .nil), fn, sc, e => match shm1 m e with
    | some (l, r) => chkE P N a fn sc l && chkE P N b fn sc r
    | none => false
  | .meth _ _ _, _, _, _ => false
  | .pop i .none, fn, sc, e => match e with
    | .Call (.Attribute (.Name y _) name apos) [] [] pos => decide (name = "pop") && decide (N[i]? = some y) && visB sc y && !odd y && (apos.endLine == pos.line)
    | _ => false
  | .pop i (.some a), fn, sc, e => match e with
    | .Call (.Attribute (.Name y _) name apos) [l] [] pos => decide (name = "pop") && decide (N[i]? = some y) && visB sc y && !odd y && (apos.endLine == pos.line) && !stE l && chkE P N a fn sc l
    | _ => false
def chkXs (P : Tab) (N : List Str) : Xs → (Str → Bool) → Scope → List Expr → Bool
  | .nil, fn, sc, ls => match ls with
    | [] => true
    | _ => false
  | .cons a r, fn, sc, ls => match ls with
    | l :: ls => !stE l && chkE P N a fn sc l && chkXs P N r fn sc ls
    | [] => false
  | .star a r, fn, sc, ls => match ls with
    | .Starred l _ :: ls => chkE P N a fn sc l && chkXs P N r fn sc ls
    | _ => false
  | .tmp a r, fn, sc, ls => match ls with
    | l :: ls => !stE l && chkE P N a fn sc l && chkXs P N r fn sc ls
    | [] => false
  | .io i r, fn, sc, ls => match ls with
    | .Name y _ :: ls => decide (N[i]? = some y) && visB sc y && !odd y && chkXs P N r fn sc ls
    | _ => false
def chkOx (P : Tab) (N : List Str) : Ox → (Str → Bool) → Scope → Option Expr → Bool
  | .none, fn, sc, e => match e with
    | none => true
    | some _ => false
  | .some a, fn, sc, e => match e with
    | some l => chkE P N a fn sc l
    | none => false
def chkIfs (P : Tab) (N : List Str) : Ox → (Str → Bool) → Scope → List Expr → Bool
  | .none, fn, sc, e => match e with
    | [] => true
    | _ => false
  | .some a, fn, sc, e => match e with
    | [l] => chkE P N a fn sc l
    | _ => false
/-- one clause, two clauses -/
def chkCs (P : Tab) (N : List Str) (own : List Nat) : Cs → (Str → Bool) → Scope → Scope → List Comprehension → Bool
  | .cons ws tg it c .nil, fn, sc, scope, gens => match gens with
    | [⟨t, iter, ifs, 0⟩] => decide (ws = own) && sub (tgsOf tg) own && fullE iter && chkTg N (fun x => scope.names.lookup x == some .cell) (relS scope sc) t tg && chkIt P N it fn sc t iter && chkIfs P N c (fun x => scope.names.lookup x == some .cell) (relS scope sc) ifs
    | _ => false
  | .cons ws tg it c (.cons ws1 tg1 it1 c1 .nil), fn, sc, scope, gens => match gens with
    | [⟨t, iter, ifs, 0⟩, ⟨t1, iter1, ifs1, 0⟩] => decide (ws = own) && sub (tgsOf tg) own && sub (tgsOf tg1) ws1 && sub ws1 own && fullE iter && fullE iter1 && chkTg N (fun x => scope.names.lookup x == some .cell) (relS scope sc) t tg && chkIt P N it fn sc t iter && chkIfs P N c (fun x => scope.names.lookup x == some .cell) (relS scope sc) ifs &&
        chkTg N (fun x => scope.names.lookup x == some .cell) (relS scope sc) t1 tg1 && chkIt P N it1 (fun x => scope.names.lookup x == some .cell) (relS scope sc) t1 iter1 && chkIfs P N c1 (fun x => scope.names.lookup x == some .cell) (relS scope sc) ifs1
    | _ => false
  | _, _, _, _, _ => false
def chkIt (P : Tab) (N : List Str) : It → (Str → Bool) → Scope → Expr → Expr → Bool
  | .expr a, fn, sc, t, e => chkE P N a fn sc e
  | .rng1 a, fn, sc, t, e => match call1 sc "range" e with
    | some l => chkE P N a fn sc l
    | none => false
  | .rng2 a b, fn, sc, t, e => match call2 sc "range" e with
    | some (l, r) => chkE P N a fn sc l && chkE P N b fn sc r
    | none => false
  | .enum a, fn, sc, t, e => tupTg t && (match call1 sc "enumerate" e with
    | some l => chkE P N a fn sc l
    | none => false)
  | _, _, _, _, _ => false
end
end Ev
end

section
set_option linter.all false
set_option autoImplicit false
set_option maxRecDepth 100000
set_option maxHeartbeats 4000000
/-! EvM: the check is right: expressions. -/
namespace Ev
open PySem PySem.Spec PyProof.Rows L2
section
variable {cal : Cal} {c : Cx} {e l : Expr} {i : Nat} {y : Str} {a : X} {p pos apos : Pos}
theorem seq_of_ix {n m : Nat} {i : Int} (h : ixOf n i = some m) : seqIndex? i n = some m ∧ -(n : Int) ≤ i ∧ i < n := by
  unfold ixOf at h
  unfold seqIndex?
  by_cases h0 : 0 ≤ i
  · rw [if_pos h0] at h
    by_cases h1 : i < n
    · rw [if_pos h1] at h
      have h2 : ¬ i < 0 := by omega
      simp only [if_neg h2]
      rw [if_pos (by simp [h0, h1])]
      exact ⟨h, by omega, h1⟩
    · rw [if_neg h1] at h; cases h
  · rw [if_neg h0] at h
    by_cases h1 : -(n : Int) ≤ i
    · rw [if_pos h1] at h
      have h2 : i < 0 := by omega
      simp only [if_pos h2]
      rw [if_pos (by simp; omega)]
      exact ⟨h, h1, by omega⟩
    · rw [if_neg h1] at h; cases h
def rPopI : V → List V → Hp → VK → Prop := fun x vs H Q => ∃ l xs i m y, x = .ref l ∧ vs = [.int i] ∧ H l = some (.lst xs) ∧ ixOf xs.length i = some m ∧ xs[m]? = some y ∧ Q y (upd H l (.lst (xs.eraseIdx m)))
theorem mt_popI {X : Cx} : MtM X "list.pop" rPopI := by
  intro pins s σ H x vs v us Q I rx rv ⟨l, xs, i, m, y, e1, e2, hH, hm, hy, q⟩
  have z : xs.length ≤ sizeLine := (I.lstM hH).1
  obtain ⟨h1, h2, h3⟩ := seq_of_ix hm
  have hz : sizeLine < 2 ^ 62 := by decide
  exact mt_popAt pins s σ H x vs v us Q I rx rv ⟨l, xs, i, m, y, e1, e2, hH, by omega, by omega, h1, hy, q⟩
theorem few_one {l : Expr} {env : PySem.Env} {pos : Pos} (h : stE l = false) : ((backTo pos (starEach [l] env)).all (fun x => !x.1) && (backToKw pos (keywordEach [] env)).all (fun x => x.1.isSome)
      && decide ([l].length + ([] : List Keyword).length + (if ([] : List Keyword).isEmpty then 0 else 1) < 30)) = true := by
  rw [star_plain h]
  rfl
theorem ok_pop1 (hN : c.N[i]? = some y) (hv : Vis c.env.scope y) (hd : (y == ("__debug__" : Str)) = false) (hcd : (y == ("__classdict__" : Str)) = false) (hline : (apos.endLine == pos.line) = true) (hs : stE l = false) (ha : OkE cal c l a) :
    OkE cal c (.Call (.Attribute (.Name y p) "pop" apos) [l] [] pos) (.pop i (.some a)) :=
  OkE.of rfl fun m => (pe_bm PySem.F.plainAttrs_list PySem.F.slot_list_pop PySem.F.type_list_pop mt_popI (pe_var hN hv hd hcd) (pa_cons (ha.pe .val) pa_nil (star_plain hs)) rfl (few_one hs) hline (star_plain hs) rfl).imp fun σ H Q h => by
    obtain ⟨IO, F0, F, B, O, env, d, env', O', S, e, o, q⟩ := h
    rw [owM_nv rfl] at o
    obtain ⟨O1, oa, o⟩ := andThen_some (show andThen (owE O a) (fun O1 => if O1.contains i then some O1 else none) = some O' from o)
    split at o
    · rename_i hi
      cases o
      obtain ⟨x0, el0, e⟩ := R.bind_eq_ok (show (look env i >>= fun x0 => isL x0 >>= fun _ => (evE cal a env >>= fun p => (R.ok (some p.1, p.2) : R (Option AV × Env))) >>= fun p => look p.2 i >>= fun x => match x, p.1 with
        | .list xs, none => (match xs.getLast? with
          | some v => R.ok (v, p.2.set i (some (.list xs.dropLast)))
          | none => .bad)
        | .list xs, some (.int j) => (match ixOf xs.length j with
          | some n => (match xs[n]? with
            | some v => .ok (v, p.2.set i (some (.list (xs.eraseIdx n))))
            | none => .bad)
          | none => .bad)
        | _, _ => .bad) = .ok (d, env') from e)
      obtain ⟨_, ei, e⟩ := R.bind_eq_ok e
      obtain ⟨⟨k0, e1⟩, ek, e⟩ := R.bind_eq_ok e
      obtain ⟨⟨dk, e1'⟩, ea, ek⟩ := R.bind_eq_ok ek
      cases ek
      obtain ⟨dl, el, e⟩ := R.bind_eq_ok e
      have hi1 : i ∈ O' := by simpa using hi
      have hi0 : i ∈ O := owE_sub a oa i hi1
      cases x0 with
      | list ds0 =>
        obtain ⟨x, xs0, hs0, hx0, _, _⟩ := change_list (ds' := ds0) S hi0 (look_ok el0)
        refine ⟨.ref x, hs0, .inl ⟨rfl, xs0, .inl (.inl hx0)⟩, IO, F0, F, B, O, env, dk, e1', O', S, ea, oa, fun va F1 H1 p1 r1 => ?_⟩
        cases dl with
        | list ds => cases dk with
          | int j =>
            have e : (match ixOf ds.length j with
              | some n => (match ds[n]? with
                | some v => R.ok (v, e1'.set i (some (.list (ds.eraseIdx n))))
                | none => .bad)
              | none => .bad) = .ok (d, env') := e
            cases hn : ixOf ds.length j with
            | none => rw [hn] at e; cases e
            | some n =>
              rw [hn] at e
              have e : (match ds[n]? with
                | some v => R.ok (v, e1'.set i (some (.list (ds.eraseIdx n))))
                | none => .bad) = .ok (d, env') := e
              cases hg : ds[n]? with
              | none => rw [hg] at e; cases e
              | some dv =>
                rw [hg] at e
                cases e
                have ev := (Rep.opd p1.sr.fh r1).intE
                subst ev
                obtain ⟨x', xs, hs1, hx1, r, ch⟩ := change_list (ds' := ds.eraseIdx n) p1.sr hi1 (look_ok el)
                have ex : x' = x := by rw [hs0] at hs1; cases hs1; rfl
                subst ex
                obtain ⟨v, gv, rv⟩ := r.get hg
                refine ⟨x', xs, j, n, v, rfl, rfl, hx1, by rw [r.length]; exact hn, gv, ?_⟩
                have S2 := ch (xs.eraseIdx n) (r.erase n)
                exact q v F1 _ ⟨S2, p1.ff, fun z => by cases z⟩ (imm_rv rfl S2.fh rv)
          | _ => cases e
        | _ => cases e
      | _ => cases ei
    · cases o
end
theorem glB_ok {c : Cx} {x : Str} (h : glB c.env.scope x = true) : Gl c x := by
  have h2 : c.env.scope.names.lookup x = some .globalImplicit := by
    unfold glB at h
    exact of_decide_eq_true h
  exact h2
theorem visB_ok {sc : Scope} {x : Str} (h : visB sc x = true) : Vis sc x := by
  unfold visB at h
  simp only [Bool.or_eq_true, decide_eq_true_eq] at h
  rcases h with (h | h) | h
  · exact .inl h
  · exact .inr (.inl h)
  · exact .inr (.inr h)
theorem odd_ok {x : Str} (h : (!odd x) = true) : (x == ("__debug__" : Str)) = false ∧ (x == ("__classdict__" : Str)) = false := by
  unfold odd at h
  simpa using h
theorem full_ok {e : Expr} (h : fullE e = true) (env : PySem.Env) (x : Value) : foldedSetIterable e env x = pure x := by
  cases e <;> first | rfl | cases h
theorem pix_ok {e : Expr} (h : pixE e = true) : PlainIx e := fun o i => by
  cases e <;> first | rfl | cases h
theorem ownL_map (N : List Str) (own : List Nat) : (ownL N own).map (·.2) = own := by
  unfold ownL
  rw [List.map_map]
  induction own with
  | nil => rfl
  | cons a l ih => rw [List.map_cons, ih]; rfl
section
variable {P : Tab} {k : Nat} {c : Cx}
theorem Good.blk (G : Good P k c) (s : Shared) (H : Hp) (scope : Scope) (env : PySem.Env) (fp : List Addr) : Good P k (c.blk s H scope env fp) := ⟨G.nd, G.calm, G.room, G.fre, G.fn, G.glo⟩
/-- what the inner parts of a comprehension keep -/
def InC (P : Tab) (k : Nat) (c : Cx) (scope : Scope) (p : Cx → Prop) : Prop := ∀ (s : Shared) (H : Hp) (C : Addr) (cl : List (Str × Addr)) (fp : List Addr), p (c.blk s H scope (compEnvC scope cl C c.env) fp)
/-- .. as a store on one line -/
def SwOk (cal : Cal) (c : Cx) (e : Expr) (x : X) : Prop := ∀ (i : Nat) (y : Str) (py spos : Pos) (m : Md), c.N[i]? = some y → c.env.scope.names.lookup y = some .local → swapsWith e (some (.Name y py)) spos.line c.env = pure true → PS c (.Assign [.Name y py] e spos) (tAsg (rd c.K c.w cal m x) (gName i))
variable {cal : Cal} {elt t iter t1 iter1 : Expr} {ifs ifs1 : List Expr} {scope : Scope} {own ws1 : List Nat} {tg tg1 : Tg} {it it1 : It} {cx cx1 : Ox} {ex : X} {pos : Pos}
theorem ok_comp1 (G : Good P k c) (hb : blkC c.N c.env.scope scope (ownL c.N own) = true) (hsub : ∀ i ∈ tgsOf tg, i ∈ own) (hf : fullE iter = true) (hi : PI c t iter (rdIt c.K c.w cal (prOx cx && prE ex) it))
    (hg : InC P k c scope fun c => PG c t (gT c.K tg)) (ht : InC P k c scope fun c' => PTs c' ifs (tT c'.K c'.w cal cx)) (he : InC P k c scope fun c' => OkE cal c' elt ex) :
    OkE cal c (.ListComp elt [⟨t, iter, ifs, 0⟩] scope pos) (.comp own (.cons own tg it cx .nil) ex) ∧ SwOk cal c (.ListComp elt [⟨t, iter, ifs, 0⟩] scope pos) (.comp own (.cons own tg it cx .nil) ex) := by
  refine ⟨OkE.of rfl fun m => ?_, fun i y py spos m hy hl hsw => ?_⟩
  rotate_left
  · have h := ps_setLc (pos := pos) (g := gT c.K tg) (tt := tT c.K c.w cal cx) (te := rd c.K c.w cal .val ex) G.calm G.nd hy hl hsw hi (blkOk_by hb) hg ht (fun s H C cl fp => (he s H C cl fp).pe .val) (full_ok hf _)
    rw [ownL_map] at h
    exact h.imp fun D σ H q => comp1_imp hsub (fun O3 O4 h => owE_sub ex h) (fun O3 O4 h => owOx_sub cx h) q
  have h := pe_lc (pos := pos) (g := gT c.K tg) (tt := tT c.K c.w cal cx) (te := rd c.K c.w cal .val ex) G.calm G.nd hi (blkOk_by hb) hg ht (fun s H C cl fp => (he s H C cl fp).pe .val) (full_ok hf _)
  rw [ownL_map] at h
  exact h.imp fun σ H Q q => comp1_imp hsub (fun O3 O4 h => owE_sub ex h) (fun O3 O4 h => owOx_sub cx h) q
theorem ok_comp2 (G : Good P k c) (hb : blkC c.N c.env.scope scope (ownL c.N own) = true) (hsub : ∀ i ∈ tgsOf tg, i ∈ own) (hsub1 : ∀ i ∈ tgsOf tg1, i ∈ ws1) (hs2 : ∀ i ∈ ws1, i ∈ own) (hf : fullE iter = true) (hf1 : fullE iter1 = true)
    (hi : PI c t iter (rdIt c.K c.w cal (prOx cx && (prIt it1 && prOx cx1 && true) && prE ex) it))
    (hg : InC P k c scope fun c => PG c t (gT c.K tg)) (ht : InC P k c scope fun c' => PTs c' ifs (tT c'.K c'.w cal cx))
    (hi1 : InC P k c scope fun c' => PI c' t1 iter1 (rdIt c'.K c'.w cal (prOx cx1 && prE ex) it1)) (hg1 : InC P k c scope fun c => PG c t1 (gT c.K tg1)) (ht1 : InC P k c scope fun c' => PTs c' ifs1 (tT c'.K c'.w cal cx1)) (he : InC P k c scope fun c' => OkE cal c' elt ex) :
    OkE cal c (.ListComp elt [⟨t, iter, ifs, 0⟩, ⟨t1, iter1, ifs1, 0⟩] scope pos) (.comp own (.cons own tg it cx (.cons ws1 tg1 it1 cx1 .nil)) ex) ∧ SwOk cal c (.ListComp elt [⟨t, iter, ifs, 0⟩, ⟨t1, iter1, ifs1, 0⟩] scope pos) (.comp own (.cons own tg it cx (.cons ws1 tg1 it1 cx1 .nil)) ex) := by
  refine ⟨OkE.of rfl fun m => ?_, fun i y py spos m hy hl hsw => ?_⟩
  rotate_left
  · have h := ps_setLc2 (pos := pos) (vs1 := ws1) (g := gT c.K tg) (tt := tT c.K c.w cal cx) (wi1 := rdIt c.K c.w cal (prOx cx1 && prE ex) it1) (g1 := gT c.K tg1) (tt1 := tT c.K c.w cal cx1) (te := rd c.K c.w cal .val ex) G.calm G.nd hy hl hsw hi (blkOk_by hb) (by rw [ownL_map]; exact hs2) hg ht hi1 hg1 ht1 (fun s H C cl fp => (he s H C cl fp).pe .val) (full_ok hf _) (fun env x => full_ok hf1 env x)
    rw [ownL_map] at h
    exact h.imp fun D σ H q => comp2_imp hsub (fun i hi => (List.mem_append.mp hi).elim id (hsub1 i)) hs2 (fun O3 O4 h => owE_sub ex h) (fun O3 O4 h => owOx_sub cx h) (fun O3 O4 h => owOx_sub cx1 h) (fun b O3 O4 h => owIt_sub it1 h) q
  have h := pe_lc2 (pos := pos) (vs1 := ws1) (g := gT c.K tg) (tt := tT c.K c.w cal cx) (wi1 := rdIt c.K c.w cal (prOx cx1 && prE ex) it1) (g1 := gT c.K tg1) (tt1 := tT c.K c.w cal cx1) (te := rd c.K c.w cal .val ex) G.calm G.nd hi (blkOk_by hb) (by rw [ownL_map]; exact hs2) hg ht hi1 hg1 ht1 (fun s H C cl fp => (he s H C cl fp).pe .val) (full_ok hf _) (fun env x => full_ok hf1 env x)
  rw [ownL_map] at h
  exact h.imp fun σ H Q q => comp2_imp hsub (fun i hi => (List.mem_append.mp hi).elim id (hsub1 i)) hs2 (fun O3 O4 h => owE_sub ex h) (fun O3 O4 h => owOx_sub cx h) (fun O3 O4 h => owOx_sub cx1 h) (fun b O3 O4 h => owIt_sub it1 h) q
theorem call1_ok {sc : Scope} {nm : Str} {e l : Expr} (h : call1 sc nm e = some l) : ∃ p pos, e = .Call (.Name nm p) [l] [] pos ∧ glB sc nm = true ∧ stE l = false := by
  unfold call1 at h
  split at h
  · split at h
    · rename_i hc
      cases h
      simp only [Bool.and_eq_true, decide_eq_true_eq, Bool.not_eq_true'] at hc
      exact ⟨_, _, by rw [hc.1.1], hc.1.2, hc.2⟩
    · cases h
  · cases h
theorem call2_ok {sc : Scope} {nm : Str} {e l r : Expr} (h : call2 sc nm e = some (l, r)) : ∃ p pos, e = .Call (.Name nm p) [l, r] [] pos ∧ glB sc nm = true ∧ stE l = false ∧ stE r = false := by
  unfold call2 at h
  split at h
  · split at h
    · rename_i hc
      cases h
      simp only [Bool.and_eq_true, decide_eq_true_eq, Bool.not_eq_true'] at hc
      exact ⟨_, _, by rw [hc.1.1.1], hc.1.1.2, hc.1.2, hc.2⟩
    · cases h
  · cases h
end
section
variable {P : Tab} {k : Nat} (HR : ∀ c, Good P k c → Rls c)
include HR
mutual
theorem ok_E : ∀ (x : X) {c : Cx} {e : Expr}, Good P k c → chkE P c.N x c.fn c.env.scope e = true → OkE (callD P k) c e x
  | .var i, c, e, G, h => by
    unfold chkE at h
    split at h
    · simp only [Bool.and_eq_true, decide_eq_true_eq] at h
      exact ok_var h.1.1 (visB_ok h.1.2) (odd_ok h.2).1 (odd_ok h.2).2
    · cases h
  | .con a, c, e, G, h => by
    unfold chkE at h
    split at h
    · split at h <;> first
        | exact ok_con rfl
        | (rw [of_decide_eq_true h]; exact ok_con rfl)
        | cases h
    · simp only [Bool.and_eq_true] at h
      split at h
      · rename_i hg
        rw [beqA_ok h.2]
        exact ok_glo (glB_ok h.1.1) (odd_ok h.1.2).1 (G.glo _ _ hg)
      · cases h.2
    · cases h
  | .bin op a b, c, e, G, h => by
    unfold chkE at h
    split at h
    · simp only [Bool.and_eq_true, decide_eq_true_eq] at h
      rw [h.1.1]
      exact ok_bin (HR c G).ops op (ok_E a G h.1.2) (ok_E b G h.2)
    · cases h
  | .neg a, c, e, G, h => by
    unfold chkE at h
    split at h
    · exact ok_neg (ok_E a G h)
    · cases h
  | .not a, c, e, G, h => by
    unfold chkE at h
    split at h
    · exact ok_not (ok_E a G h)
    · cases h
  | .and a b, c, e, G, h => by
    unfold chkE at h
    split at h
    · rw [Bool.and_eq_true] at h
      have hb := ok_E b G h.2
      exact ok_and (ok_E a G h.1) (pe_one (hb.pe .val)) (pw_and1 hb.pt)
    · rw [Bool.and_eq_true] at h
      have hb := ok_E b G h.2
      exact ok_and (ok_E a G h.1) (hb.pe .val) (hb.pw _ _ _ rfl)
    · cases h
  | .or a b, c, e, G, h => by
    unfold chkE at h
    split at h
    · rw [Bool.and_eq_true] at h
      have hb := ok_E b G h.2
      exact ok_or (ok_E a G h.1) (pe_one (hb.pe .val)) (pw_or1 hb.pt)
    · rw [Bool.and_eq_true] at h
      have hb := ok_E b G h.2
      exact ok_or (ok_E a G h.1) (hb.pe .val) (hb.pw _ _ _ rfl)
    · cases h
  | .cmp op a b, c, e, G, h => by
    unfold chkE at h
    split at h
    · simp only [Bool.and_eq_true, decide_eq_true_eq, Bool.not_eq_true'] at h
      rw [h.1.1.1]
      exact ok_cmp (HR c G).ops op h.1.1.2 (ok_E a G h.1.2) (ok_E b G h.2)
    · cases h
  | .chain op op' a b d, c, e, G, h => by
    unfold chkE at h
    split at h
    · simp only [Bool.and_eq_true, decide_eq_true_eq, Bool.not_eq_true'] at h
      obtain ⟨⟨⟨⟨⟨h1, h2⟩, h3⟩, h4⟩, h5⟩, h6⟩ := h
      rw [h1, h2]
      exact ok_chain (HR c G).ops op op' h3 (ok_E a G h4) (ok_E b G h5) (ok_E d G h6)
    · cases h
  | .ite d a b, c, e, G, h => by
    unfold chkE at h
    split at h
    · simp only [Bool.and_eq_true] at h
      exact ok_ite (ok_E d G h.1.1) (ok_E a G h.1.2) (ok_E b G h.2)
    · cases h
  | .tup es, c, e, G, h => by
    unfold chkE at h
    split at h
    · rw [Bool.and_eq_true] at h
      exact ok_tup h.1 (ok_Xs es G h.2)
    · cases h
  | .lst es, c, e, G, h => by
    unfold chkE at h
    split at h
    · rw [Bool.and_eq_true] at h
      exact ok_lst h.1 (ok_Xs es G h.2)
    · cases h
  | .dict .nil, c, e, G, h => by
    unfold chkE at h
    split at h
    · exact ok_dict0
    · cases h
  | .dict (.kv ..), c, e, G, h => by cases h
  | .dict (.star ..), c, e, G, h => by cases h
  | .idx a b, c, e, G, h => by
    unfold chkE at h
    split at h
    · simp only [Bool.and_eq_true] at h
      exact ok_idx (HR c G).ops (pix_ok h.1.1) (ok_E a G h.1.2) (ok_E b G h.2)
    · cases h
  | .slc a lo hi, c, e, G, h => by
    unfold chkE at h
    split at h
    · simp only [Bool.and_eq_true] at h
      exact ok_slc (HR c G).ops (ok_E a G h.1.1) (ok_Ox lo G h.1.2) (ok_Ox hi G h.2)
    · cases h
  | .comp own cs ex, c, e, G, h => by
    unfold chkE at h
    split at h
    · rename_i elt gens scope pos
      simp only [Bool.and_eq_true] at h
      obtain ⟨⟨hb, hc⟩, he⟩ := h
      have HE : InC P k c scope fun c' => OkE (callD P k) c' elt ex := fun s H C cl fp => ok_E ex (G.blk ..) he
      exact (ok_Cs own cs G hb hc HE).1
    · cases h
  | .dcomp .., c, e, G, h => by cases h
  | .call f es, c, e, G, h => by
    unfold chkE at h
    split at h
    · rename_i y p ls pos
      simp only [Bool.and_eq_true, decide_eq_true_eq] at h
      obtain ⟨⟨⟨⟨⟨⟨h1, h2⟩, h3⟩, h4⟩, h5⟩, h6⟩, h7⟩ := h
      subst h1
      cases hP : P f with
      | none => rw [hP] at h5; cases h5
      | some D =>
        rw [hP] at h5
        have h5 := of_decide_eq_true h5
        have A := ok_Xs es G h7
        cases ls with
        | nil =>
          cases es with
          | nil => exact ok_call0 G hP h5 (glB_ok h2) (odd_ok h3).1
          | _ => cases h7
        | cons l ls => exact ok_call G hP h5 h4 (glB_ok h2) (odd_ok h3).1 h6 A
    · cases h
  | .blt f (.cons a .nil), c, e, G, h => by
    unfold chkE at h
    cases hs : sh1 c.env.scope f e with
    | none => rw [hs] at h; cases h
    | some l =>
      rw [hs] at h
      obtain ⟨u1, u2⟩ := (HR c G).u1 f e l hs
      exact ok_blt1 f u1 u2 (ok_E a G h)
  | .blt f (.cons a (.cons b .nil)), c, e, G, h => by
    unfold chkE at h
    cases hs : sh2 c.env.scope f e with
    | none => rw [hs] at h; cases h
    | some lr =>
      obtain ⟨l, r⟩ := lr
      rw [hs] at h
      have h : (chkE P c.N a c.fn c.env.scope l && chkE P c.N b c.fn c.env.scope r) = true := h
      rw [Bool.and_eq_true] at h
      obtain ⟨u1, u2⟩ := (HR c G).u2 f e l r hs
      exact ok_blt2 f u1 u2 (ok_E a G h.1) (ok_E b G h.2)
  | .blt _ .nil, c, e, G, h => by cases h
  | .blt _ (.star _ _), c, e, G, h => by cases h
  | .blt _ (.io _ _), c, e, G, h => by cases h
  | .blt _ (.tmp _ _), c, e, G, h => by cases h
  | .blt _ (.cons _ (.star _ _)), c, e, G, h => by cases h
  | .blt _ (.cons _ (.io _ _)), c, e, G, h => by cases h
  | .blt _ (.cons _ (.tmp _ _)), c, e, G, h => by cases h
  | .blt _ (.cons _ (.cons _ (.cons _ _))), c, e, G, h => by cases h
  | .blt _ (.cons _ (.cons _ (.star _ _))), c, e, G, h => by cases h
  | .blt _ (.cons _ (.cons _ (.io _ _))), c, e, G, h => by cases h
  | .blt _ (.cons _ (.cons _ (.tmp _ _))), c, e, G, h => by cases h
  | .meth m a (.cons b .nil), c, e, G, h => by
    unfold chkE at h
    cases hs : shm1 m e with
    | none => rw [hs] at h; cases h
    | some lr =>
      obtain ⟨l, r⟩ := lr
      rw [hs] at h
      have h : (chkE P c.N a c.fn c.env.scope l && chkE P c.N b c.fn c.env.scope r) = true := h
      rw [Bool.and_eq_true] at h
      obtain ⟨u1, u2, u3⟩ := (HR c G).m1 m e l r hs
      exact ok_meth1 m u1 u2 u3 (ok_E a G h.1) (ok_E b G h.2)
  | .meth _ _ .nil, c, e, G, h => by cases h
  | .meth _ _ (.star _ _), c, e, G, h => by cases h
  | .meth _ _ (.io _ _), c, e, G, h => by cases h
  | .meth _ _ (.tmp _ _), c, e, G, h => by cases h
  | .meth _ _ (.cons _ (.cons _ _)), c, e, G, h => by cases h
  | .meth _ _ (.cons _ (.star _ _)), c, e, G, h => by cases h
  | .meth _ _ (.cons _ (.io _ _)), c, e, G, h => by cases h
  | .meth _ _ (.cons _ (.tmp _ _)), c, e, G, h => by cases h
  | .pop i .none, c, e, G, h => by
    unfold chkE at h
    split at h
    · simp only [Bool.and_eq_true, decide_eq_true_eq] at h
      obtain ⟨⟨⟨⟨h1, h2⟩, h3⟩, h4⟩, h5⟩ := h
      rw [h1]
      exact ok_pop0 h2 (visB_ok h3) (odd_ok h4).1 (odd_ok h4).2 h5
    · cases h
  | .pop i (.some a), c, e, G, h => by
    unfold chkE at h
    split at h
    · simp only [Bool.and_eq_true, decide_eq_true_eq, Bool.not_eq_true'] at h
      obtain ⟨⟨⟨⟨⟨⟨h1, h2⟩, h3⟩, h4⟩, h5⟩, h6⟩, h7⟩ := h
      rw [h1]
      exact ok_pop1 h2 (visB_ok h3) (odd_ok (by rw [h4]; rfl)).1 (odd_ok (by rw [h4]; rfl)).2 h5 h6 (ok_E a G h7)
    · cases h
theorem ok_Xs : ∀ (x : Xs) {c : Cx} {ls : List Expr}, Good P k c → chkXs P c.N x c.fn c.env.scope ls = true → PA c ls (rdXs c.K c.w (callD P k) x)
  | .nil, c, ls, G, h => by
    unfold chkXs at h
    split at h
    · exact xs_nil
    · cases h
  | .cons a r, c, ls, G, h => by
    unfold chkXs at h
    split at h
    · simp only [Bool.and_eq_true, Bool.not_eq_true'] at h
      exact xs_cons h.1.1 (ok_E a G h.1.2) (ok_Xs r G h.2)
    · cases h
  | .star a r, c, ls, G, h => by
    unfold chkXs at h
    split at h
    · rw [Bool.and_eq_true] at h
      exact xs_star (ok_E a G h.1) (ok_Xs r G h.2)
    · cases h
  | .tmp a r, c, ls, G, h => by
    unfold chkXs at h
    split at h
    · simp only [Bool.and_eq_true, Bool.not_eq_true'] at h
      exact xs_tmp h.1.1 (ok_E a G h.1.2) (ok_Xs r G h.2)
    · cases h
  | .io i r, c, ls, G, h => by
    unfold chkXs at h
    split at h
    · simp only [Bool.and_eq_true, decide_eq_true_eq] at h
      exact xs_io h.1.1.1 (visB_ok h.1.1.2) (odd_ok h.1.2).1 (odd_ok h.1.2).2 (ok_Xs r G h.2)
    · cases h
theorem ok_Ox : ∀ (x : Ox) {c : Cx} {e : Option Expr}, Good P k c → chkOx P c.N x c.fn c.env.scope e = true → PO c e (rdOx c.K c.w (callD P k) x)
  | .none, c, e, G, h => by
    unfold chkOx at h
    split at h
    · exact ox_none
    · cases h
  | .some a, c, e, G, h => by
    unfold chkOx at h
    split at h
    · exact ox_some (ok_E a G h)
    · cases h
theorem ok_Ifs : ∀ (x : Ox) {c : Cx} {ls : List Expr}, Good P k c → chkIfs P c.N x c.fn c.env.scope ls = true → PTs c ls (tT c.K c.w (callD P k) x)
  | .none, c, e, G, h => by
    unfold chkIfs at h
    split at h
    · exact pts_nil
    · cases h
  | .some a, c, e, G, h => by
    unfold chkIfs at h
    split at h
    · exact pts_one (ok_E a G h).pt
    · cases h
theorem ok_Cs : ∀ (own : List Nat) (x : Cs) {c : Cx} {scope : Scope} {gens : List Comprehension} {elt : Expr} {ex : X} {pos : Pos}, Good P k c → blkC c.N c.env.scope scope (ownL c.N own) = true → chkCs P c.N own x c.fn c.env.scope scope gens = true →
    (InC P k c scope fun c' => OkE (callD P k) c' elt ex) → OkE (callD P k) c (.ListComp elt gens scope pos) (.comp own x ex) ∧ SwOk (callD P k) c (.ListComp elt gens scope pos) (.comp own x ex)
  | own, .cons ws tg it cx .nil, c, scope, gens, elt, ex, pos, G, hb, h, he => by
    unfold chkCs at h
    split at h
    · rename_i t iter ifs
      simp only [Bool.and_eq_true, decide_eq_true_eq] at h
      obtain ⟨⟨⟨⟨⟨h1, h2⟩, h3⟩, h4⟩, h5⟩, h6⟩ := h
      subst h1
      exact ok_comp1 G hb (fun i hi => sub_mem h2 hi) h3 (ok_It it _ G h5) (fun s H C cl fp => pg_tg (c := c.blk s H scope (compEnvC scope cl C c.env) fp) G.nd G.calm h4) (fun s H C cl fp => ok_Ifs cx (G.blk ..) h6) he
    · cases h
  | own, .cons ws tg it cx (.cons ws1 tg1 it1 cx1 .nil), c, scope, gens, elt, ex, pos, G, hb, h, he => by
    unfold chkCs at h
    split at h
    · rename_i t iter ifs t1 iter1 ifs1
      simp only [Bool.and_eq_true, decide_eq_true_eq] at h
      obtain ⟨⟨⟨⟨⟨⟨⟨⟨⟨⟨⟨h1, h2⟩, h2a⟩, h2b⟩, h3⟩, h3a⟩, h4⟩, h5⟩, h6⟩, h7⟩, h8⟩, h9⟩ := h
      subst h1
      exact ok_comp2 G hb (fun i hi => sub_mem h2 hi) (fun i hi => sub_mem h2a hi) (fun i hi => sub_mem h2b hi) h3 h3a (ok_It it _ G h5) (fun s H C cl fp => pg_tg (c := c.blk s H scope (compEnvC scope cl C c.env) fp) G.nd G.calm h4) (fun s H C cl fp => ok_Ifs cx (G.blk ..) h6)
        (fun s H C cl fp => ok_It it1 _ (G.blk ..) h8) (fun s H C cl fp => pg_tg (c := c.blk s H scope (compEnvC scope cl C c.env) fp) G.nd G.calm h7) (fun s H C cl fp => ok_Ifs cx1 (G.blk ..) h9) he
    · cases h
  | own, .nil, c, scope, gens, elt, ex, pos, G, hb, h, he => by cases h
  | own, .cons _ _ _ _ (.cons _ _ _ _ (.cons _ _ _ _ _)), c, scope, gens, elt, ex, pos, G, hb, h, he => by cases h
theorem ok_It : ∀ (x : It) (b : Bool) {c : Cx} {t e : Expr}, Good P k c → chkIt P c.N x c.fn c.env.scope t e = true → PI c t e (rdIt c.K c.w (callD P k) b x)
  | .expr a, b, c, t, e, G, h => it_expr b (ok_E a G h)
  | .rng1 a, b, c, t, e, G, h => by
    unfold chkIt at h
    cases hs : call1 c.env.scope "range" e with
    | none => rw [hs] at h; cases h
    | some l =>
      rw [hs] at h
      obtain ⟨p, pos, rfl, g1, g2⟩ := call1_ok hs
      exact it_rng1 b g2 (glB_ok g1) (HR c G).rng (ok_E a G h)
  | .rng2 a d, b, c, t, e, G, h => by
    unfold chkIt at h
    cases hs : call2 c.env.scope "range" e with
    | none => rw [hs] at h; cases h
    | some lr =>
      obtain ⟨l, r⟩ := lr
      rw [hs] at h
      have h : (chkE P c.N a c.fn c.env.scope l && chkE P c.N d c.fn c.env.scope r) = true := h
      rw [Bool.and_eq_true] at h
      obtain ⟨p, pos, rfl, g1, g2, g3⟩ := call2_ok hs
      exact it_rng2 b g2 g3 (glB_ok g1) (HR c G).rng (ok_E a G h.1) (ok_E d G h.2)
  | .enum a, b, c, t, e, G, h => by
    unfold chkIt at h
    rw [Bool.and_eq_true] at h
    obtain ⟨ht, h⟩ := h
    cases hs : call1 c.env.scope "enumerate" e with
    | none => rw [hs] at h; cases h
    | some l =>
      rw [hs] at h
      obtain ⟨p, pos, rfl, g1, g2⟩ := call1_ok hs
      cases t with
      | Tuple es n tp => exact (HR c G).enum es n tp l p pos _ b a g1 g2 (ok_E a G h)
      | _ => cases ht
  | .items a, b, c, t, e, G, h => by cases h
  | .vals a, b, c, t, e, G, h => by cases h
end
end
end Ev
end

section
set_option linter.all false
set_option autoImplicit false
set_option maxRecDepth 100000
set_option maxHeartbeats 2000000
/-! EvN: statements, one by one. -/
namespace Ev
open PySem PySem.Spec PyProof.Rows L2
section
variable {K : PySem.W.Frag} {w : World} {IO : List (Nat × Addr)} {F0 F F' B H : Hp} {O O' : Sl} {σ : L2.St} {env : Env}
/-- a slot's value is forgotten -/
theorem SR.drop (S : SR K w IO F0 F B O σ H env) (i : Nat) : SR K w IO F0 F B (er O i) σ H (env.set i none) where
  fh := S.fh
  bh := S.bh
  f0 := S.f0
  fb := S.fb
  slot := fun j d e => by
    by_cases hj : i = j
    · subst hj
      rw [List.getElem?_set] at e
      by_cases hl : i < env.length <;> simp [hl] at e
    · rw [List.getElem?_set_ne hj] at e
      obtain ⟨v, h1, h2, h3⟩ := S.slot j d e
      exact ⟨v, h1, fun q => h2 (List.mem_filter.mp q).1, fun q => h3 fun z => q (by simp [er, z, Ne.symm hj])⟩
  apart := fun j k a d e hj hk e1 e2 m1 m2 s1 s2 => by
    have n1 : i ≠ j := fun z => by subst z; simp [er] at hj
    have n2 : i ≠ k := fun z => by subst z; simp [er] at hk
    rw [List.getElem?_set_ne n1] at e1
    rw [List.getElem?_set_ne n2] at e2
    exact S.apart j k a d e (List.mem_filter.mp hj).1 (List.mem_filter.mp hk).1 e1 e2 m1 m2 s1 s2
  len := by rw [List.length_set]; exact S.len
  io := fun p hp q => S.io p hp (List.mem_filter.mp q).1
theorem NoSlot.drop {a : Addr} (h : NoSlot O σ env a) (i : Nat) : NoSlot (er O i) σ (env.set i none) a := fun j hj e he hm => by
  have n1 : i ≠ j := fun z => by subst z; simp [er] at hj
  rw [List.getElem?_set_ne n1] at he
  exact h j (List.mem_filter.mp hj).1 e he hm
theorem er_mem {O : Sl} {i j : Nat} : i ∈ er O j ↔ i ∈ O ∧ i ≠ j := by simp [er]
theorem er_not {i : Nat} : i ∉ er O i := by simp [er]
end
/-! ### readings -/
def EndsOk (K : PySem.W.Frag) (w : World) (io : Sl) (IO : List (Nat × Addr)) (F0 F B : Hp) (D : Ends) (f : Flw) : Fl → Prop
  | .nx e => ∀ O', f.nx = some O' → ∀ σ' F' H', SR K w IO F0 F' B O' σ' H' e → Same F F' → D.nx σ' H'
  | .bk e => ∀ O', f.bk = some O' → ∀ σ' F' H', SR K w IO F0 F' B O' σ' H' e → Same F F' → D.bk σ' H'
  | .ct e => ∀ O', f.ct = some O' → ∀ σ' F' H', SR K w IO F0 F' B O' σ' H' e → Same F F' → D.ct σ' H'
  | .rt v e => ∀ O' x σ' F' H', (∀ i ∈ io, i ∈ O') → SR K w IO F0 F' B O' σ' H' e → Same F F' → Rep K w F' x v → D.rt x H'
def rdS (K : PySem.W.Frag) (w : World) (cal : Cal) (io : Sl) (s : S) : TS := fun D σ H => ∃ IO F0 F B O env r f, (∀ p ∈ IO, p.1 ∈ io) ∧ SR K w IO F0 F B O σ H env ∧ evS cal s env = .ok r ∧ owS io O s = some f ∧ EndsOk K w io IO F0 F B D f r
def rdSs (K : PySem.W.Frag) (w : World) (cal : Cal) (io : Sl) (s : Ss) : TS := fun D σ H => ∃ IO F0 F B O env r f, (∀ p ∈ IO, p.1 ∈ io) ∧ SR K w IO F0 F B O σ H env ∧ evSs cal s env = .ok r ∧ owSs io O s = some f ∧ EndsOk K w io IO F0 F B D f r
theorem nxt_some {r : Option Sl} {f : Flw} (h : nxt r = some f) : ∃ O1, r = some O1 ∧ f = { nx := some O1 } := by
  cases r with
  | none => cases h
  | some O1 => cases h; exact ⟨O1, rfl, rfl⟩
theorem map_some {r : Option Sl} {g : Sl → Sl} {O1 : Sl} (h : r.map g = some O1) : ∃ O2, r = some O2 ∧ O1 = g O2 := by
  cases r with
  | none => cases h
  | some O2 => cases h; exact ⟨O2, rfl, rfl⟩
theorem guard_none {α : Type} {b : Bool} {r : Option α} {f : α} (h : (if b = true then none else r) = some f) : b = false ∧ r = some f := by
  cases b with
  | true => cases h
  | false => exact ⟨rfl, h⟩
theorem guard_some {α : Type} {b : Bool} {r : Option α} {f : α} (h : (if b = true then r else none) = some f) : b = true ∧ r = some f := by
  cases b with
  | true => exact ⟨rfl, h⟩
  | false => cases h
section
variable {cal : Cal} {c : Cx} {io : Sl}
theorem not_io {IO : List (Nat × Addr)} {i : Nat} (h : ∀ p ∈ IO, p.1 ∈ io) (hi : io.contains i = false) : ∀ p ∈ IO, p.1 ≠ i := fun p hp z => by
  have := h p hp
  rw [z] at this
  simp at hi
  exact hi this
def mA (e : X) : Md := if freshE e then .new else .val
theorem owM_mA {O : Sl} {e : X} : owM (mA e) O e = owE O e := by unfold mA; cases freshE e <;> rfl
/-- name = e -/
theorem asg_imp {i : Nat} {e : X} {D : Ends} {σ : L2.St} {H : Hp} (h : rdS c.K c.w cal io (.asg i e) D σ H) : tAsg (rd c.K c.w cal (mA e) e) (gName i) D σ H := by
  obtain ⟨IO, F0, F, B, O, env, r, f, hio, S, ev, ow, en⟩ := h
  obtain ⟨⟨v, e1⟩, ee, er'⟩ := R.bind_eq_ok (show (evE cal e env >>= fun p => R.ok (Fl.nx (p.2.set i (some p.1)))) = .ok r from ev)
  cases er'
  obtain ⟨hni, ow⟩ := guard_none (show (if io.contains i then none else nxt ((owE O e).map fun O1 => if freshE e then i :: er O1 i else er O1 i)) = some f from ow)
  obtain ⟨O2, ow2, rfl⟩ := nxt_some ow
  obtain ⟨O1, oe, rfl⟩ := map_some ow2
  refine ⟨IO, F0, F, B, O, env, v, e1, O1, S, ee, by rw [owM_mA]; exact oe, fun x F1 H1 p1 r1 => ?_⟩
  refine en _ rfl _ F1 H1 ?_ p1.ff
  have S2 := p1.sr.drop i
  have hset : (e1.set i none).set i (some v) = e1.set i (some v) := List.set_set ..
  cases hf : freshE e with
  | true =>
    have hm : mA e = .new := by unfold mA; rw [hf]; rfl
    rw [hm] at r1
    unfold RV at r1
    simp only [hf, if_true] at r1
    rw [if_pos rfl, ← hset]
    exact S2.storeO er_not (not_io hio hni) r1.1 fun a ea hmu => (r1.2 a ea hmu).drop i
  | false =>
    have hm : mA e = .val := by unfold mA; rw [hf]; rfl
    rw [hm] at r1
    rw [if_neg (by decide), ← hset]
    exact S2.store er_not r1
/-- name = name, the other not read any more -/
theorem move_imp {i j : Nat} {D : Ends} {σ : L2.St} {H : Hp} (h : rdS c.K c.w cal io (.move i j) D σ H) : tAsg (tVar j) (gName i) D σ H := by
  obtain ⟨IO, F0, F, B, O, env, r, f, hio, S, ev, ow, en⟩ := h
  obtain ⟨v, ee, er'⟩ := R.bind_eq_ok (show (look env j >>= fun v => R.ok (Fl.nx ((env.set j none).set i (some v)))) = .ok r from ev)
  cases er'
  obtain ⟨hni, ow⟩ := guard_none (show (if io.contains i || io.contains j || i == j then none else nxt (some (if O.contains j then i :: er (er O j) i else er (er O j) i))) = some f from ow)
  cases ow
  simp only [Bool.or_eq_false_iff] at hni
  have hd := look_ok ee
  obtain ⟨x, g1, g2, g3⟩ := S.slot j v hd
  refine ⟨x, g1, en _ rfl _ F H ?_ (Same.refl _)⟩
  have S2 := (S.drop j).drop i
  have hset : ((env.set j none).set i none).set i (some v) = (env.set j none).set i (some v) := List.set_set ..
  have hij : i ≠ j := by simpa using hni.2
  by_cases hj : j ∈ O
  · rw [if_pos (by simpa using hj), ← hset]
    refine S2.storeO er_not (not_io hio hni.1.1) (g2 hj) fun a ea hmu k hk e he hm hs => ?_
    have k1 : k ∈ er O j := (List.mem_filter.mp hk).1
    have k2 : k ≠ i := by simpa using (List.mem_filter.mp hk).2
    have k3 : k ≠ j := by simpa using (List.mem_filter.mp k1).2
    rw [List.getElem?_set_ne (Ne.symm k2), List.getElem?_set_ne (Ne.symm k3)] at he
    exact k3 (S.apart k j a e v (List.mem_filter.mp k1).1 hj he hd hm hmu hs (by rw [g1, ea]))
  · rw [if_neg (by simpa using hj), ← hset]
    exact S2.store er_not (g3 hj)
/-- slots forgotten, one after another -/
theorem drops {K : PySem.W.Frag} {w : World} {IO : List (Nat × Addr)} {F0 F B H : Hp} {σ : L2.St} : ∀ (l : List Nat) {O : Sl} {env : Env}, SR K w IO F0 F B O σ H env → SR K w IO F0 F B (minus O l) σ H (wipeE env l.reverse) := by
  intro l O env S
  have h : ∀ (l : List Nat) {O : Sl} {env : Env}, SR K w IO F0 F B O σ H env → SR K w IO F0 F B (l.foldr (fun i O => er O i) O) σ H (wipeE env l) := by
    intro l
    induction l with
    | nil => exact fun S => S
    | cons i l ih => exact fun S => (ih S).drop i
  refine (h l.reverse S).congr fun i => ?_
  rw [minus_mem]
  have : ∀ l : List Nat, i ∈ l.foldr (fun i O => er O i) O ↔ i ∈ O ∧ i ∉ l := by
    intro l
    induction l with
    | nil => simp
    | cons j l ih =>
      rw [List.foldr_cons, er_mem, ih, List.mem_cons, not_or]
      constructor
      · rintro ⟨⟨h1, h2⟩, h3⟩; exact ⟨h1, h3, h2⟩
      · rintro ⟨h1, h2, h3⟩; exact ⟨⟨h1, h3⟩, h2⟩
  rw [this]
  simp
theorem setAll_wipe {is : List Nat} : ∀ {vs : List AV} {env e2 : Env} {l : List Nat}, (∀ i ∈ l, i ∈ is) → setAll is vs env = some e2 → setAll is vs (wipeE env l) = some e2 := by
  -- both give a list that agrees everywhere
  have len : ∀ {is : List Nat} {vs : List AV} {env e2 : Env}, setAll is vs env = some e2 → e2.length = env.length := by
    intro is
    induction is with
    | nil => intro vs env e2 h; cases vs <;> cases h; rfl
    | cons i is ih =>
      intro vs env e2 h
      cases vs with
      | nil => cases h
      | cons v vs => rw [ih (show setAll is vs (env.set i (some v)) = some e2 from h), List.length_set]
  have ex : ∀ {is : List Nat} {vs : List AV} {env e2 env' : Env}, setAll is vs env = some e2 → ∃ e3, setAll is vs env' = some e3 := by
    intro is
    induction is with
    | nil => intro vs env e2 env' h; cases vs <;> cases h; exact ⟨_, rfl⟩
    | cons i is ih =>
      intro vs env e2 env' h
      cases vs with
      | nil => cases h
      | cons v vs => exact ih (show setAll is vs (env.set i (some v)) = some e2 from h)
  have agree : ∀ {is : List Nat} {vs : List AV} {env env' e2 e3 : Env}, setAll is vs env = some e2 → setAll is vs env' = some e3 → env'.length = env.length → ∀ j, (j ∈ is ∨ env'[j]? = env[j]?) → e3[j]? = e2[j]? := by
    intro is
    induction is with
    | nil => intro vs env env' e2 e3 h1 h2 hl j hj; cases vs <;> cases h1; cases h2; exact hj.resolve_left (by simp)
    | cons i is ih =>
      intro vs env env' e2 e3 h1 h2 hl j hj
      cases vs with
      | nil => cases h1
      | cons v vs =>
        refine ih (show setAll is vs (env.set i (some v)) = some e2 from h1) (show setAll is vs (env'.set i (some v)) = some e3 from h2) (by rw [List.length_set, List.length_set, hl]) j ?_
        by_cases hij : i = j
        · subst hij
          refine .inr ?_
          rw [List.getElem?_set, List.getElem?_set]
          simp [hl]
        · rcases hj with hj | hj
          · exact .inl ((List.mem_cons.mp hj).resolve_left (Ne.symm hij))
          · refine .inr ?_
            rw [List.getElem?_set_ne hij, List.getElem?_set_ne hij, hj]
  intro vs env e2 l hl h
  obtain ⟨e3, h3⟩ := ex (env' := wipeE env l) h
  rw [h3]
  congr 1
  apply List.ext_getElem?
  intro j
  refine agree h h3 (wipeE_length _ _) j ?_
  by_cases hj : j ∈ l
  · exact .inl (hl j hj)
  · exact .inr (wipeE_out hj)
/-- a, b, .. = e -/
theorem unp_imp {is : List Nat} {e : X} {D : Ends} {σ : L2.St} {H : Hp} (h : rdS c.K c.w cal io (.unp is e) D σ H) : tAsg (rd c.K c.w cal .val e) (gT c.K (.tup is)) D σ H := by
  obtain ⟨IO, F0, F, B, O, env, r, f, hio, S, ev, ow, en⟩ := h
  obtain ⟨⟨v, e1⟩, ee, er'⟩ := R.bind_eq_ok (show (evE cal e env >>= fun p => bindTg (.tup is) p.1 p.2 >>= fun e => R.ok (Fl.nx e)) = .ok r from ev)
  obtain ⟨e2, eb, er'⟩ := R.bind_eq_ok er'
  cases er'
  obtain ⟨hni, ow⟩ := guard_some (show (if apartS is io then nxt ((owE O e).map fun O1 => minus O1 is) else none) = some f from ow)
  obtain ⟨O2, ow2, rfl⟩ := nxt_some ow
  obtain ⟨O1, oe, rfl⟩ := map_some ow2
  refine ⟨IO, F0, F, B, O, env, v, e1, O1, S, ee, oe, fun x F1 H1 p1 r1 => ?_⟩
  have S2 := drops is p1.sr
  have eb2 : bindTg (.tup is) v (wipeE e1 is.reverse) = .ok e2 := by
    cases v with
    | tuple ds =>
      have eb : (match setAll is ds e1 with
        | some e => R.ok e
        | none => .bad) = .ok e2 := eb
      cases hs : setAll is ds e1 with
      | none => rw [hs] at eb; cases eb
      | some e3 =>
        rw [hs] at eb
        cases eb
        show (match setAll is ds (wipeE e1 is.reverse) with
        | some e => R.ok e
        | none => .bad) = _
        rw [setAll_wipe (fun i hi => by simpa using hi) hs]
    | _ => cases eb
  exact tg_imp S2 eb2 r1 (fun i hi z => (minus_mem.mp z).2 hi) fun σ2 S3 _ _ => en _ rfl σ2 F1 H1 S3 p1.ff
/-- name op= e -/
theorem aug_imp {i : Nat} {op : Bop} {e : X} {D : Ends} {σ : L2.St} {H : Hp} (h : rdS c.K c.w cal io (.aug i op e) D σ H) : (op = .add ∧ tAug i (rd c.K c.w cal .val e) (ipI fun i j => i + j) D σ H) ∨ (op = .sub ∧ tAug i (rd c.K c.w cal .val e) (ipI fun i j => i - j) D σ H) := by
  obtain ⟨IO, F0, F, B, O, env, r, f, hio, S, ev, ow, en⟩ := h
  obtain ⟨x, ex, ev⟩ := R.bind_eq_ok (show (look env i >>= fun x => evE cal e env >>= fun p => match op, x, p.1 with
    | .add, .int a, .int b => R.ok (Fl.nx (p.2.set i (some (.int (a + b)))))
    | .sub, .int a, .int b => R.ok (Fl.nx (p.2.set i (some (.int (a - b)))))
    | _, _, _ => .bad) = .ok r from ev)
  obtain ⟨⟨y, e1⟩, ey, ev⟩ := R.bind_eq_ok ev
  obtain ⟨hni, ow⟩ := guard_none (show (if io.contains i then none else nxt ((owE O e).map fun O1 => er O1 i)) = some f from ow)
  obtain ⟨O2, ow2, rfl⟩ := nxt_some ow
  obtain ⟨O1, oe, rfl⟩ := map_some ow2
  have fin : ∀ (g : Int → Int → Int), (∃ a b, x = .int a ∧ y = .int b ∧ r = .nx (e1.set i (some (.int (g a b))))) → tAug i (rd c.K c.w cal .val e) (ipI g) D σ H := fun g ⟨a, b, hx, hy, hr⟩ => by
    subst hx hy hr
    obtain ⟨xv, g1, g2, g3⟩ := S.slot i _ (look_ok ex)
    have hxv : xv = .int a := by
      by_cases hi : i ∈ O
      · cases (show Rep c.K c.w F xv (.int a) from g2 hi); rfl
      · cases (show Rep c.K c.w F xv (.int a) from g3 hi); rfl
    subst hxv
    refine ⟨.int a, g1, IO, F0, F, B, O, env, _, e1, O1, S, ey, oe, fun yv F1 H1 p1 r1 => ?_⟩
    cases (show Rep c.K c.w F1 yv (.int b) from r1)
    refine ⟨a, b, rfl, rfl, en _ rfl _ F1 H1 ?_ p1.ff⟩
    have hset : (e1.set i none).set i (some (PyData.int (g a b))) = e1.set i (some (.int (g a b))) := List.set_set ..
    rw [← hset]
    exact (p1.sr.drop i).store er_not (.int _)
  cases op with
  | add => exact .inl ⟨rfl, fin _ (by
      cases x with
      | int a => cases y with
        | int b => cases ev; exact ⟨a, b, rfl, rfl, rfl⟩
        | _ => cases ev
      | _ => cases y <;> cases ev)⟩
  | sub => exact .inr ⟨rfl, fin _ (by
      cases x with
      | int a => cases y with
        | int b => cases ev; exact ⟨a, b, rfl, rfl, rfl⟩
        | _ => cases ev
      | _ => cases y <;> cases ev)⟩
  | _ => cases x <;> cases y <;> cases ev
theorem expr_imp {e : X} {D : Ends} {σ : L2.St} {H : Hp} (h : rdS c.K c.w cal io (.expr e) D σ H) : tDrop (rd c.K c.w cal .val e) D σ H := by
  obtain ⟨IO, F0, F, B, O, env, r, f, hio, S, ev, ow, en⟩ := h
  obtain ⟨⟨v, e1⟩, ee, er'⟩ := R.bind_eq_ok (show (evE cal e env >>= fun p => R.ok (Fl.nx p.2)) = .ok r from ev)
  cases er'
  obtain ⟨O1, oe, rfl⟩ := nxt_some ow
  exact ⟨IO, F0, F, B, O, env, v, e1, O1, S, ee, oe, fun x F1 H1 p1 r1 => en _ rfl σ F1 H1 p1.sr p1.ff⟩
theorem ret_imp {e : X} {D : Ends} {σ : L2.St} {H : Hp} (h : rdS c.K c.w cal io (.ret e) D σ H) : tRet (rd c.K c.w cal .val e) D σ H := by
  obtain ⟨IO, F0, F, B, O, env, r, f, hio, S, ev, ow, en⟩ := h
  obtain ⟨⟨v, e1⟩, ee, er'⟩ := R.bind_eq_ok (show (evE cal e env >>= fun p => R.ok (Fl.rt p.1 p.2)) = .ok r from ev)
  cases er'
  have ow : (match owE O e with
    | some O1 => if sub io O1 then some ({} : Flw) else none
    | none => none) = some f := ow
  cases oe : owE O e with
  | none => rw [oe] at ow; cases ow
  | some O1 =>
    rw [oe] at ow
    obtain ⟨hs, ow⟩ := guard_some ow
    exact ⟨IO, F0, F, B, O, env, v, e1, O1, S, ee, oe, fun x F1 H1 p1 r1 => en O1 x σ F1 H1 (fun i hi => sub_mem hs hi) p1.sr p1.ff r1⟩
theorem mo_left {a b : Option Sl} {O' : Sl} (h : mo a b = some O') {O1 : Sl} (ha : a = some O1) : ∀ i ∈ O', i ∈ O1 := fun i hi => by
  subst ha
  cases b with
  | none => cases h; exact hi
  | some O2 => cases h; exact (mem_meet.mp hi).1
theorem mo_right {a b : Option Sl} {O' : Sl} (h : mo a b = some O') {O1 : Sl} (hb : b = some O1) : ∀ i ∈ O', i ∈ O1 := fun i hi => by
  subst hb
  cases a with
  | none => cases h; exact hi
  | some O2 => cases h; exact (mem_meet.mp hi).2
theorem mo_of_left {a b : Option Sl} {O1 : Sl} (ha : a = some O1) : ∃ O', mo a b = some O' := by
  subst ha
  cases b with
  | none => exact ⟨_, rfl⟩
  | some O2 => exact ⟨_, rfl⟩
theorem mo_of_right {a b : Option Sl} {O1 : Sl} (hb : b = some O1) : ∃ O', mo a b = some O' := by
  subst hb
  cases a with
  | none => exact ⟨_, rfl⟩
  | some O2 => exact ⟨_, rfl⟩
/-- ends, weaker: g's ways out are owned less -/
theorem EndsOk.of {K : PySem.W.Frag} {w : World} {IO : List (Nat × Addr)} {F0 F F1 B : Hp} {D : Ends} {f g : Flw} {r : Fl} (h : EndsOk K w io IO F0 F B D g r) (ff : Same F F1)
    (h1 : ∀ O1, f.nx = some O1 → ∃ O', g.nx = some O' ∧ ∀ i ∈ O', i ∈ O1) (h2 : ∀ O1, f.bk = some O1 → ∃ O', g.bk = some O' ∧ ∀ i ∈ O', i ∈ O1) (h3 : ∀ O1, f.ct = some O1 → ∃ O', g.ct = some O' ∧ ∀ i ∈ O', i ∈ O1) : EndsOk K w io IO F0 F1 B D f r := by
  cases r with
  | nx e =>
    intro O1 hO σ' F' H' S f1
    obtain ⟨O', g1, g2⟩ := h1 O1 hO
    obtain ⟨F2, S2, s2⟩ := S.shrink g2
    exact h O' g1 σ' F2 H' S2 (ff.trans (f1.trans s2))
  | bk e =>
    intro O1 hO σ' F' H' S f1
    obtain ⟨O', g1, g2⟩ := h2 O1 hO
    obtain ⟨F2, S2, s2⟩ := S.shrink g2
    exact h O' g1 σ' F2 H' S2 (ff.trans (f1.trans s2))
  | ct e =>
    intro O1 hO σ' F' H' S f1
    obtain ⟨O', g1, g2⟩ := h3 O1 hO
    obtain ⟨F2, S2, s2⟩ := S.shrink g2
    exact h O' g1 σ' F2 H' S2 (ff.trans (f1.trans s2))
  | rt v e => exact fun O' x σ' F' H' hi S f1 r => h O' x σ' F' H' hi S (ff.trans f1) r
theorem ite_impS {d : X} {a b : Ss} {D : Ends} {σ : L2.St} {H : Hp} (h : rdS c.K c.w cal io (.ite d a b) D σ H) : tIfS (tB (rd c.K c.w cal .val d)) (rdSs c.K c.w cal io a) (rdSs c.K c.w cal io b) D σ H := by
  obtain ⟨IO, F0, F, B, O, env, r, f, hio, S, ev, ow, en⟩ := h
  obtain ⟨⟨dc, e1⟩, ec, ev⟩ := R.bind_eq_ok (show (evE cal d env >>= fun p => asB p.1 >>= fun k => match k with
    | true => evSs cal a p.2
    | false => evSs cal b p.2) = .ok r from ev)
  obtain ⟨k, ek, e5⟩ := R.bind_eq_ok ev
  obtain rfl := asB_ok ek
  have ow : (match owE O d with
    | some O1 => match owSs io O1 a, owSs io O1 b with
      | some f, some g => some (f.join g)
      | _, _ => none
    | none => none) = some f := ow
  cases oc : owE O d with
  | none => rw [oc] at ow; cases ow
  | some O1 =>
    rw [oc] at ow
    have ow : (match owSs io O1 a, owSs io O1 b with
      | some f, some g => some (f.join g)
      | _, _ => none) = some f := ow
    cases oa : owSs io O1 a with
    | none => rw [oa] at ow; cases ow
    | some fa =>
      cases ob : owSs io O1 b with
      | none => rw [oa, ob] at ow; cases ow
      | some fb =>
        rw [oa, ob] at ow
        cases ow
        refine ⟨IO, F0, F, B, O, env, _, e1, O1, S, ec, oc, fun v F1 H1 p1 r1 => ?_⟩
        cases (show Rep c.K c.w F1 v (.bool k) from r1)
        refine ⟨k, rfl, ?_⟩
        have way : ∀ {x y : Option Sl}, (∀ O1, x = some O1 → ∃ O', mo x y = some O' ∧ ∀ i ∈ O', i ∈ O1) ∧ (∀ O1, y = some O1 → ∃ O', mo x y = some O' ∧ ∀ i ∈ O', i ∈ O1) := fun {x y} =>
          ⟨fun O1 e => let ⟨O', h⟩ := mo_of_left (b := y) e; ⟨O', h, mo_left h e⟩, fun O1 e => let ⟨O', h⟩ := mo_of_right (a := x) e; ⟨O', h, mo_right h e⟩⟩
        cases k with
        | true => exact ⟨IO, F0, F1, B, O1, e1, r, fa, hio, p1.sr, e5, oa, en.of p1.ff way.1 way.1 way.1⟩
        | false => exact ⟨IO, F0, F1, B, O1, e1, r, fb, hio, p1.sr, e5, ob, en.of p1.ff way.2 way.2 way.2⟩
/-! ### suites -/
theorem nil_imp {D : Ends} {σ : L2.St} {H : Hp} (h : rdSs c.K c.w cal io .nil D σ H) : tNext D σ H := by
  obtain ⟨IO, F0, F, B, O, env, r, f, hio, S, ev, ow, en⟩ := h
  cases ev
  cases ow
  exact en O rfl σ F H S (Same.refl _)
theorem cons_imp {s : S} {r : Ss} {D : Ends} {σ : L2.St} {H : Hp} (h : rdSs c.K c.w cal io (.cons s r) D σ H) : tSeq (rdS c.K c.w cal io s) (rdSs c.K c.w cal io r) D σ H := by
  obtain ⟨IO, F0, F, B, O, env, rr, f, hio, S, ev, ow, en⟩ := h
  obtain ⟨r1, e1, ev⟩ := R.bind_eq_ok (show (evS cal s env >>= fun x => match x with
    | .nx e => evSs cal r e
    | .bk e => R.ok (.bk e)
    | .ct e => .ok (.ct e)
    | .rt v e => .ok (.rt v e)) = .ok rr from ev)
  have ow : (match owS io O s with
    | some f => match f.nx with
      | none => some f
      | some O1 => match owSs io O1 r with
        | some g => some ({ nx := g.nx, bk := mo f.bk g.bk, ct := mo f.ct g.ct } : Flw)
        | none => none
    | none => none) = some f := ow
  cases os : owS io O s with
  | none => rw [os] at ow; cases ow
  | some f1 =>
    rw [os] at ow
    refine ⟨IO, F0, F, B, O, env, r1, f1, hio, S, e1, os, ?_⟩
    have ow : (match f1.nx with
      | none => some f1
      | some O1 => match owSs io O1 r with
        | some g => some ({ nx := g.nx, bk := mo f1.bk g.bk, ct := mo f1.ct g.ct } : Flw)
        | none => none) = some f := ow
    cases hn : f1.nx with
    | none =>
      rw [hn] at ow
      cases ow
      cases r1 with
      | nx e => intro O' h; rw [hn] at h; cases h
      | bk e => cases ev; exact en
      | ct e => cases ev; exact en
      | rt v e => cases ev; exact en
    | some O1 =>
      rw [hn] at ow
      have ow : (match owSs io O1 r with
        | some g => some ({ nx := g.nx, bk := mo f1.bk g.bk, ct := mo f1.ct g.ct } : Flw)
        | none => none) = some f := ow
      cases og : owSs io O1 r with
      | none => rw [og] at ow; cases ow
      | some g =>
        rw [og] at ow
        cases ow
        cases r1 with
        | nx e =>
          intro O' h σ' F' H' S' f'
          rw [hn] at h
          cases h
          exact ⟨IO, F0, F', B, O1, e, rr, g, hio, S', ev, og, en.of f' (fun O h => ⟨O, h, fun i hi => hi⟩) (fun O h => let ⟨O', h'⟩ := mo_of_right (a := f1.bk) h; ⟨O', h', mo_right h' h⟩) (fun O h => let ⟨O', h'⟩ := mo_of_right (a := f1.ct) h; ⟨O', h', mo_right h' h⟩)⟩
        | bk e =>
          cases ev
          intro O' h σ' F' H' S' f'
          obtain ⟨O2, h2⟩ := mo_of_left (b := g.bk) h
          obtain ⟨F2, S2, s2⟩ := S'.shrink (mo_left h2 h)
          exact en O2 h2 σ' F2 H' S2 (f'.trans s2)
        | ct e =>
          cases ev
          intro O' h σ' F' H' S' f'
          obtain ⟨O2, h2⟩ := mo_of_left (b := g.ct) h
          obtain ⟨F2, S2, s2⟩ := S'.shrink (mo_left h2 h)
          exact en O2 h2 σ' F2 H' S2 (f'.trans s2)
        | rt v e => cases ev; exact en
end
end Ev
end

section
set_option linter.all false
set_option autoImplicit false
set_option maxRecDepth 100000
set_option maxHeartbeats 2000000
/-! EvO: stores into lists, several stores at once, loops. -/
namespace Ev
open PySem PySem.Spec PyProof.Rows L2
theorem ixOf_eq (n : Nat) (i : Int) : ixOf n i = ixN n i := rfl
section
variable {cal : Cal} {c : Cx} {io : Sl}
/-- a store into a list or a dict -/
def rSetB : TSet := fun o i v H Q => rSetL o i v H Q ∨ rSetD o i v H Q
theorem set_both {X : Cx} (hu : X.A.units + 1 < cLine) : PSet X rSetB := fun pins s σ H o i v ov iv u Q I ro ri rv h => h.elim (set_list pins s σ H o i v ov iv u Q I ro ri rv) (set_dict hu pins s σ H o i v ov iv u Q I ro ri rv)
theorem seti_imp {i : Nat} {k v : X} {D : Ends} {σ : L2.St} {H : Hp} (h : rdS c.K c.w cal io (.seti i k v) D σ H) : tAsg (rd c.K c.w cal .val v) (gSub (tVar i) (rd c.K c.w cal .val k) rSetB) D σ H := by
  obtain ⟨IO, F0, F, B, O, env, r, f, hio, S, ev, ow, en⟩ := h
  obtain ⟨⟨x, e1⟩, ex, ev⟩ := R.bind_eq_ok (show (evE cal v env >>= fun p => look p.2 i >>= fun _ => evE cal k p.2 >>= fun p2 => look p2.2 i >>= fun l => match l, p2.1 with
    | .list xs, .int j => (match ixOf xs.length j with
      | some n => R.ok (Fl.nx (p2.2.set i (some (.list (xs.set n p.1)))))
      | none => .bad)
    | .dict kvs, y => dput' kvs y p.1 >>= fun kvs' => R.ok (Fl.nx (p2.2.set i (some (.dict kvs'))))
    | _, _ => .bad) = .ok r from ev)
  obtain ⟨l0, el0, ev⟩ := R.bind_eq_ok ev
  obtain ⟨⟨y, e2⟩, ey, ev⟩ := R.bind_eq_ok ev
  obtain ⟨l, el, ev⟩ := R.bind_eq_ok ev
  obtain ⟨O9, ow2, rfl⟩ := nxt_some ow
  obtain ⟨O1, o1, ow3⟩ := andThen_some ow2
  obtain ⟨O2, o2, ow4⟩ := andThen_some ow3
  obtain ⟨hi, ow5⟩ := guard_some ow4
  cases ow5
  have hi : i ∈ O9 := by simpa using hi
  refine ⟨IO, F0, F, B, O, env, x, e1, O1, S, ex, o1, fun xv F1 H1 p1 r1 => ?_⟩
  have hd := look_ok (show look e2 i = .ok l from el)
  cases l with
  | list xs => cases y with
    | int j =>
      have ev : (match ixOf xs.length j with
        | some n => R.ok (Fl.nx (e2.set i (some (.list (xs.set n x)))))
        | none => .bad) = .ok r := ev
      cases hn : ixOf xs.length j with
      | none => rw [hn] at ev; cases ev
      | some n =>
        rw [hn] at ev
        cases ev
        obtain ⟨ov, hs, _⟩ := p1.sr.slot i l0 (look_ok (show look e1 i = .ok l0 from el0))
        refine ⟨ov, hs, IO, F0, F1, B, O1, e1, _, e2, O9, p1.sr, ey, o2, fun kv F2 H2 p2 r2 => ?_⟩
        cases (show Rep c.K c.w F2 kv (.int j) from r2)
        obtain ⟨a, us, g1, g2, g3, ch⟩ := change_list (ds' := xs.set n x) p2.sr hi hd
        rw [hs] at g1
        cases g1
        refine .inl ⟨a, us, j, n, rfl, rfl, g2, by rw [g3.length, ← ixOf_eq]; exact hn, ?_⟩
        exact en _ rfl σ F2 _ (ch _ (RepL.set (Rep.mono p2.ff r1) n g3)) (p1.ff.trans p2.ff)
    | _ => cases ev
  | dict kvs =>
    have ev : (dput' kvs y x >>= fun kvs' => R.ok (Fl.nx (e2.set i (some (.dict kvs'))))) = .ok r := by cases y <;> exact ev
    obtain ⟨kvs', ep, ev⟩ := R.bind_eq_ok ev
    cases ev
    unfold dput' at ep
    split at ep
    · rename_i hc
      cases ep
      simp only [Bool.and_eq_true, decide_eq_true_eq] at hc
      obtain ⟨hc1, hc2⟩ := hc
      obtain ⟨nk, hk⟩ := keyA_leaf hc1
      obtain ⟨ov, hs, _⟩ := p1.sr.slot i l0 (look_ok (show look e1 i = .ok l0 from el0))
      refine ⟨ov, hs, IO, F0, F1, B, O1, e1, _, e2, O9, p1.sr, ey, o2, fun kv F2 H2 p2 r2 => ?_⟩
      obtain rfl := keyA_rep hk r2
      obtain ⟨a, L, tk, g1, g2, g3, ch⟩ := change_dict (ds' := dput kvs y x) p2.sr hi hd
      rw [hs] at g1
      cases g1
      refine .inr ⟨a, _, rfl, DPut.k g2 (by rw [g3.length]; exact hc2), ?_⟩
      exact en _ rfl σ F2 _ (ch _ (g3.put hk (Rep.mono p2.ff r1))) (p1.ff.trans p2.ff)
    · cases ep
  | _ => cases y <;> cases ev
theorem asL_ok {v : AV} {xs : List AV} (h : asL v = .ok xs) : v = .list xs := by
  cases v with
  | list ys => cases h; rfl
  | _ => cases h
/-- a slot that holds a list: the method call's receiver -/
theorem list_recv {IO : List (Nat × Addr)} {F0 F B H : Hp} {O : Sl} {σ : L2.St} {env : Env} {i : Nat} {xs : List AV} (S : SR c.K c.w IO F0 F B O σ H env) (hd : env[i]? = some (some (.list xs))) : ∃ a, σ[i]? = some (some (.ref a)) ∧ tyV c.K "list" (.ref a) H := by
  obtain ⟨v, h1, h2, h3⟩ := S.slot i _ hd
  have o : Opd c.K c.w F H v (.list xs) := by
    by_cases hi : i ∈ O
    · exact (h2 hi).opd S.fh
    · exact (h3 hi).opd S.fh
  obtain ⟨a, us, rfl, hq, _⟩ := o.listE
  exact ⟨a, h1, .inl ⟨rfl, us, hq.sql⟩⟩
theorem app_imp {i : Nat} {e : X} {D : Ends} {σ : L2.St} {H : Hp} (h : rdS c.K c.w cal io (.app i e) D σ H) : tDrop (tBM c.K "list" rAppend (tVar i) (tCons (rd c.K c.w cal .val e) tNil)) D σ H := by
  obtain ⟨IO, F0, F, B, O, env, r, f, hio, S, ev, ow, en⟩ := h
  obtain ⟨x0, e0, ev⟩ := R.bind_eq_ok (show ((look env i >>= asL) >>= fun _ => evE cal e env >>= fun p => look p.2 i >>= fun l => match l with
    | .list xs => if xs.length < line then R.ok (Fl.nx (p.2.set i (some (.list (xs ++ [p.1]))))) else .bad
    | _ => .bad) = .ok r from ev)
  obtain ⟨l0, el0, e0⟩ := R.bind_eq_ok e0
  obtain rfl := asL_ok e0
  obtain ⟨⟨x, e1⟩, ex, ev⟩ := R.bind_eq_ok ev
  obtain ⟨l, el, ev⟩ := R.bind_eq_ok ev
  obtain ⟨O9, ow2, rfl⟩ := nxt_some ow
  obtain ⟨O1, o1, ow3⟩ := andThen_some ow2
  obtain ⟨hi, ow4⟩ := guard_some ow3
  cases ow4
  have hi : i ∈ O9 := by simpa using hi
  obtain ⟨a0, hs, hty⟩ := list_recv S (look_ok el0)
  refine ⟨_, hs, hty, IO, F0, F, B, O, env, x, e1, O9, S, ex, o1, fun xv F1 H1 p1 r1 => ?_⟩
  have hd := look_ok (show look e1 i = .ok l from el)
  cases l with
  | list xs =>
    have ev : (if xs.length < line then R.ok (Fl.nx (e1.set i (some (.list (xs ++ [x]))))) else .bad) = .ok r := ev
    split at ev
    · rename_i hz
      cases ev
      obtain ⟨a, us, g1, g2, g3, ch⟩ := change_list (ds' := xs ++ [x]) p1.sr hi hd
      rw [hs] at g1
      cases g1
      exact ⟨_, us, xv, rfl, rfl, g2, by rw [g3.length, ← line_eq]; exact hz, en _ rfl σ F1 _ (ch _ (g3.snoc r1)) p1.ff⟩
    · cases ev
  | _ => cases ev
/-- extend by any list -/
def rExt (K : PySem.W.Frag) : V → List V → Hp → VK → Prop := fun x vs H Q => ∃ l b xs zs, x = .ref l ∧ vs = [.ref b] ∧ H l = some (.lst xs) ∧ LstX K H b zs ∧ xs.length + zs.length ≤ sizeLine ∧ Q .non (upd H l (.lst (xs ++ zs)))
theorem mt_ext : MtM c "list.extend" (rExt c.K) := by
  intro pins s σ H x vs v us Q I rx rv h
  obtain ⟨l, b, xs, zs, rfl, rfl, hl, hb, hz, q⟩ := h
  cases rx
  obtain ⟨u, rfl, ru⟩ := rv.one
  cases ru
  obtain ⟨_, its, n, r, len1, e1⟩ := I.lstM hl
  obtain ⟨_, jts, m, r2, len2, e2⟩ := inv_lst I hb
  have both : its.toArray.size + jts.toArray.size ≤ sizeLine := by rw [List.size_toArray, List.size_toArray, ← len1, ← len2]; exact hz
  have nl : ¬ (!its.toArray.isEmpty && Builtin.List.listTooLong (its.toArray.size + jts.toArray.size)) = true := by
    rw [notLongL both, Bool.and_false]
    decide
  have a1 : its.toArray.size ≤ sizeLine := by omega
  refine call_meets F.slot_list_extend ⟨_, e1, rfl⟩ F.entry_list_extend (F.args_list_extend_2 _ _) (AutoSeq1.list_extend_list_list_0 l its.toArray n b jts.toArray m nl (by omega) (by omega)) ⟨e1, e2, ?_⟩
  exact ⟨.non, _, I.lset (its' := its ++ jts) hl e1 (by simp) (r.append r2) (by rw [List.length_append]; exact hz), rfl, q⟩
theorem ext_imp {i : Nat} {e : X} {D : Ends} {σ : L2.St} {H : Hp} (h : rdS c.K c.w cal io (.ext i e) D σ H) : tDrop (tBM c.K "list" (rExt c.K) (tVar i) (tCons (rd c.K c.w cal .opd e) tNil)) D σ H := by
  obtain ⟨IO, F0, F, B, O, env, r, f, hio, S, ev, ow, en⟩ := h
  obtain ⟨x0, e0, ev⟩ := R.bind_eq_ok (show ((look env i >>= asL) >>= fun _ => evE cal e env >>= fun p => look p.2 i >>= fun l => match l, p.1 with
    | .list xs, .list ys => if xs.length + ys.length ≤ line then R.ok (Fl.nx (p.2.set i (some (.list (xs ++ ys))))) else .bad
    | _, _ => .bad) = .ok r from ev)
  obtain ⟨l0, el0, e0⟩ := R.bind_eq_ok e0
  obtain rfl := asL_ok e0
  obtain ⟨⟨x, e1⟩, ex, ev⟩ := R.bind_eq_ok ev
  obtain ⟨l, el, ev⟩ := R.bind_eq_ok ev
  obtain ⟨O9, ow2, rfl⟩ := nxt_some ow
  obtain ⟨O1, o1, ow3⟩ := andThen_some ow2
  obtain ⟨hi, ow4⟩ := guard_some ow3
  cases ow4
  have hi : i ∈ O9 := by simpa using hi
  obtain ⟨a0, hs, hty⟩ := list_recv S (look_ok el0)
  refine ⟨_, hs, hty, IO, F0, F, B, O, env, x, e1, O9, S, ex, o1, fun xv F1 H1 p1 r1 => ?_⟩
  have hd := look_ok (show look e1 i = .ok l from el)
  cases l with
  | list xs => cases x with
    | list ys =>
      have ev : (if xs.length + ys.length ≤ line then R.ok (Fl.nx (e1.set i (some (.list (xs ++ ys))))) else .bad) = .ok r := ev
      split at ev
      · rename_i hz
        cases ev
        obtain ⟨a, us, g1, g2, g3, ch⟩ := change_list (ds' := xs ++ ys) p1.sr hi hd
        rw [hs] at g1
        cases g1
        obtain ⟨b, zs, rfl, hq, hr⟩ := Opd.listE r1.1
        exact ⟨_, b, us, zs, rfl, rfl, g2, hq, by rw [g3.length, hr.length, ← line_eq]; exact hz, en _ rfl σ F1 _ (ch _ (g3.append hr)) p1.ff⟩
      · cases ev
    | _ => cases ev
  | _ => cases x <;> cases ev
/-! ### a, b = x, y -/
theorem par_store {K : PySem.W.Frag} {w : World} {IO : List (Nat × Addr)} {F0 F B0 B H : Hp} {σ : L2.St} {env : Env} {O : Sl} {es : Xs} {vs : List V} {ds : List AV} {as : List Addr} {Q : L2.St → Hp → Prop} (A : AO K w F B0 B H σ env O es vs ds as) :
    ∀ {is : List Nat} {Oc : Sl} {σc : L2.St} {ec e2 : Env} {l : List Nat}, SR K w IO F0 F B0 Oc σc H ec → (∀ a ∈ as, NoSlot Oc σc ec a) → is.Nodup → (∀ i ∈ is, i ∉ Oc) → (∀ p ∈ IO, p.1 ∉ is) → setAll is ds ec = some e2 → freshs is es = some l →
      (∀ σ2, SR K w IO F0 F B0 (l ++ Oc) σ2 H e2 → Q σ2 H) → vs.length = is.length ∧ gNames is vs σc H Q := by
  induction A with
  | nil =>
    intro is Oc σc ec e2 l S _ _ _ _ hs hf q
    cases is with
    | nil => cases hs; cases hf; exact ⟨rfl, rfl, q σc S⟩
    | cons => cases hs
  | @cons e r v vs d ds as hr _ ih =>
    intro is Oc σc ec e2 l S hn nd hO hIO hs hf q
    cases is with
    | nil => cases hs
    | cons i is =>
      obtain ⟨n1, n2⟩ := List.nodup_cons.mp nd
      have hi := hO i List.mem_cons_self
      obtain ⟨g1, g2⟩ := ih (S.store hi hr) (fun a ha j hj e he hm => by
        have nij : i ≠ j := fun z => hi (z ▸ hj)
        rw [List.getElem?_set_ne nij] at he ⊢
        exact hn a ha j hj e he hm) n2 (fun j hj => hO j (List.mem_cons_of_mem _ hj)) (fun p hp z => hIO p hp (List.mem_cons_of_mem _ z)) (show setAll is ds (ec.set i (some d)) = some e2 from hs) (show freshs is r = some l from hf) q
      exact ⟨by rw [List.length_cons, List.length_cons, g1], v, vs, rfl, g2⟩
  | star =>
    intro is Oc σc ec e2 l S hn nd hO hIO hs hf q
    cases is <;> cases hf
  | io =>
    intro is Oc σc ec e2 l S hn nd hO hIO hs hf q
    cases is <;> cases hf
  | @tmp e r a vs d ds as o hm hb hna _ ih =>
    intro is Oc σc ec e2 l S hn nd hO hIO hs hf q
    cases is with
    | nil => cases hs
    | cons i is =>
      obtain ⟨n1, n2⟩ := List.nodup_cons.mp nd
      have hi := hO i List.mem_cons_self
      obtain ⟨l2, hf2, rfl⟩ := map_some (g := fun l => i :: l) (show (freshs is r).map (fun l => i :: l) = some l from hf)
      have S2 := S.storeO hi (fun p hp z => hIO p hp (by rw [z]; exact List.mem_cons_self)) o fun b eb _ => by cases eb; exact hn a List.mem_cons_self
      obtain ⟨g1, g2⟩ := ih S2 (fun b hb' j hj e he hme hse => by
        by_cases hij : i = j
        · subst hij
          rw [List.getElem?_set] at hse
          by_cases hl : i < σc.length
          · simp [hl] at hse
            exact hna (hse ▸ hb')
          · simp [hl] at hse
        · rw [List.getElem?_set_ne hij] at he hse
          exact hn b (List.mem_cons_of_mem _ hb') j ((List.mem_cons.mp hj).resolve_left (Ne.symm hij)) e he hme hse) n2 (fun j hj z => (List.mem_cons.mp z).elim (fun z => n1 (z ▸ hj)) (hO j (List.mem_cons_of_mem _ hj)))
        (fun p hp z => hIO p hp (List.mem_cons_of_mem _ z)) (show setAll is ds (ec.set i (some d)) = some e2 from hs) hf2 fun σ2 S3 => q σ2 (S3.congr fun j => by simp only [List.cons_append, List.mem_cons, List.mem_append]; constructor <;> (intro h; rcases h with h | h | h <;> simp [h]))
      exact ⟨by rw [List.length_cons, List.length_cons, g1], .ref a, vs, rfl, g2⟩
theorem NoSlot.sub {O O' : Sl} {σ : L2.St} {env env' : Env} {a : Addr} (h : NoSlot O σ env a) (hO : ∀ i ∈ O', i ∈ O) (he : ∀ i ∈ O', env'[i]? = env[i]?) : NoSlot O' σ env' a := fun j hj e h1 h2 => h j (hO j hj) e (by rw [← he j hj]; exact h1) h2
theorem freshs_ios : ∀ (es : Xs) {is l : List Nat}, freshs is es = some l → iosOf es = []
  | .nil, is, l, h => rfl
  | .cons e r, is, l, h => by
    cases is with
    | nil => cases h
    | cons i is => exact freshs_ios r (show freshs is r = some l from h)
  | .star e r, is, l, h => by cases is <;> cases h
  | .io i r, is, l, h => by cases is <;> cases h
  | .tmp e r, is, l, h => by
    cases is with
    | nil => cases h
    | cons i is =>
      obtain ⟨l2, h2, _⟩ := map_some (g := fun l => i :: l) (show (freshs is r).map (fun l => i :: l) = some l from h)
      exact freshs_ios r h2
theorem par_imp {is : List Nat} {es : Xs} {D : Ends} {σ : L2.St} {H : Hp} (h : rdS c.K c.w cal io (.par is es) D σ H) :
    rdXs c.K c.w cal es σ H fun vs H1 => vs.length = is.length ∧ gNames is vs σ H1 D.nx ∧ ∀ p u, H1 p = none → gNames is vs σ (upd H1 p u) D.nx := by
  obtain ⟨IO, F0, F, B, O, env, r, f, hio, S, ev, ow, en⟩ := h
  obtain ⟨⟨ds, e1⟩, ee, ev⟩ := R.bind_eq_ok (show (evXs cal es env >>= fun p => match setAll is p.1 p.2 with
    | some e => R.ok (Fl.nx e)
    | none => .bad) = .ok r from ev)
  obtain ⟨hc, ow⟩ := guard_some (show (if apartS is io && decide is.Nodup then nxt (andThen (owXs O es) fun O1 => (freshs is es).map fun l => l ++ minus O1 is) else none) = some f from ow)
  rw [Bool.and_eq_true] at hc
  obtain ⟨O9, ow2, rfl⟩ := nxt_some ow
  obtain ⟨O1, o1, ow3⟩ := andThen_some ow2
  obtain ⟨l, hf, rfl⟩ := map_some ow3
  have ev : (match setAll is ds e1 with
    | some e => R.ok (Fl.nx e)
    | none => .bad) = .ok r := ev
  cases hs : setAll is ds e1 with
  | none => rw [hs] at ev; cases ev
  | some e2 =>
    rw [hs] at ev
    cases ev
    refine ⟨IO, F0, F, B, O, env, ds, e1, O1, S, ee, o1, fun vs as F1 B1 H1 S1 f1 b1 h1 A => ?_⟩
    have start := drops is (S1.less (O := O1) b1)
    have ns : ∀ a ∈ as, NoSlot (minus O1 is) σ (wipeE e1 is.reverse) a := fun a ha => by
      have n1 : NoSlot O1 σ e1 a := by
        rcases A.places S1 a ha with ⟨j, j1, _⟩ | ⟨_, u, hu⟩
        · rw [freshs_ios es hf] at j1
          cases j1
        · exact S1.noSlot (.inr (.inl (by rw [hu]; simp)))
      exact n1.sub (fun i hi => (minus_mem.mp hi).1) fun i hi => wipeE_out fun z => (minus_mem.mp hi).2 (by simpa using z)
    have fin : ∀ (H2 : Hp), SR c.K c.w IO F0 F1 B (minus O1 is) σ H2 (wipeE e1 is.reverse) → AO c.K c.w F1 B B1 H2 σ e1 O1 es vs ds as → vs.length = is.length ∧ gNames is vs σ H2 D.nx := fun H2 S2 A2 => par_store A2 S2 ns (of_decide_eq_true hc.2) (fun i hi z => (minus_mem.mp z).2 hi) (fun p hp z => apart_mem hc.1 z (hio p hp))
      (setAll_wipe (fun i hi => by simpa using hi) hs) hf fun σ2 S3 => en _ rfl σ2 F1 H2 S3 f1
    obtain ⟨g1, g2⟩ := fin H1 start A
    refine ⟨g1, g2, fun p u hp => (fin _ (start.ext (ext_new S1.fh hp)) ?_).2⟩
    -- the arguments' own things stand in the grown heap
    have grow : ∀ {es : Xs} {vs : List V} {ds : List AV} {as : List Addr}, AO c.K c.w F1 B B1 H1 σ e1 O1 es vs ds as → AO c.K c.w F1 B B1 (upd H1 p u) σ e1 O1 es vs ds as := by
      intro es vs ds as A
      induction A with
      | nil => exact .nil
      | cons r _ ih => exact .cons r ih
      | star r _ ih => exact .star r ih
      | io h1 h2 h3 h4 h5 h6 _ ih => exact .io h1 h2 h3 h4 h5 h6 ih
      | tmp o hm hb hn _ ih =>
        obtain ⟨_, _, w1, g⟩ := o.none_of rfl hm
        have np : ∀ {a : Addr} {x : HO}, H1 a = some x → a ≠ p := fun {a x} hx z => by subst z; rw [hp] at hx; cases hx
        exact .tmp (o.at (Same.refl _) fun b x _ _ k1 k2 k3 => ⟨k1, k2, by rw [upd_ne (np k3)]; exact k3⟩) hm (by rw [upd_ne (np g)]; exact hb) hn ih
    exact grow A
/-! ### loops -/
theorem keeps_some {inv : Sl} {o : Option Sl} {O' : Sl} (h : keeps inv o = true) (e : o = some O') : ∀ i ∈ inv, i ∈ O' := fun i hi => by
  subst e
  exact sub_mem h hi
theorem SR.wipeOnly {K : PySem.W.Frag} {w : World} {IO : List (Nat × Addr)} {F0 F B H : Hp} {O : Sl} {σ : L2.St} {env : Env} (S : SR K w IO F0 F B O σ H env) (ws : List Nat) : SR K w IO F0 F B O σ H (wipeE env ws) :=
  S.forget (wipeE_length _ _) rfl (fun i d e => ⟨(wipeE_some e).1, rfl⟩) fun _ _ => rfl
theorem whl_imp {inv ws : List Nat} {cd : X} {b : Ss} {D : Ends} {σ : L2.St} {H : Hp} (h : rdS c.K c.w cal io (.whl inv ws cd b) D σ H) : tWhile (tB (rd c.K c.w cal .val cd)) (rdSs c.K c.w cal io b) D σ H := by
  obtain ⟨IO, F0, F, B, O, env, r, f, hio, S, ev, ow, en⟩ := h
  obtain ⟨hc, ow⟩ := guard_some (show (if sub inv O && apartS ws io && apartS ws inv then match owE inv cd with
    | some O1 => match owSs io O1 b with
      | some f => if sub inv O1 && keeps inv f.nx && keeps inv f.ct then some ({ nx := mo (some O1) f.bk } : Flw) else none
      | none => none
    | none => none else none) = some f from ow)
  simp only [Bool.and_eq_true] at hc
  cases oc : owE inv cd with
  | none => rw [oc] at ow; cases ow
  | some O1 =>
    rw [oc] at ow
    have ow : (match owSs io O1 b with
      | some f => if sub inv O1 && keeps inv f.nx && keeps inv f.ct then some ({ nx := mo (some O1) f.bk } : Flw) else none
      | none => none) = some f := ow
    cases ob : owSs io O1 b with
    | none => rw [ob] at ow; cases ow
    | some fb =>
      rw [ob] at ow
      obtain ⟨hk, ow⟩ := guard_some ow
      cases ow
      simp only [Bool.and_eq_true] at hk
      obtain ⟨F1, S1, s1⟩ := S.shrink (O' := inv) fun i hi => sub_mem hc.1.1 hi
      let cn : Env → R (Bool × Env) := fun env => do
        let (x, env1) ← evE cal cd env
        .ok (← asB x, env1)
      let bd : Env → R Fl := fun env => do .ok (wipeF ws (← evSs cal b env))
      let W : Nat → L2.St → Hp → Prop := fun m σ H => ∃ F2 e, SR c.K c.w IO F0 F2 B inv σ H e ∧ Same F F2 ∧ whlF cn bd m e = .ok r
      refine ⟨W, ⟨turns, F1, env, S1, s1, ev⟩, ?_⟩
      rintro m σ H ⟨F2, e, S2, s2, e2⟩
      cases m with
      | zero => cases e2
      | succ n =>
        obtain ⟨⟨k, e3⟩, ek, e4⟩ := R.bind_eq_ok (show (cn e >>= fun p => match p.1 with
          | true => (bd p.2 >>= fun x => match x with
            | .nx e => whlF cn bd n e
            | .ct e => whlF cn bd n e
            | .bk e => R.ok (.nx e)
            | .rt v e => .ok (.rt v e))
          | false => .ok (.nx p.2)) = .ok r from e2)
        obtain ⟨⟨dx, e5⟩, ex, e6⟩ := R.bind_eq_ok (show (evE cal cd e >>= fun p => asB p.1 >>= fun k => R.ok (k, p.2)) = .ok (k, e3) from ek)
        obtain ⟨k2, ek2, e7⟩ := R.bind_eq_ok e6
        cases e7
        obtain rfl := asB_ok ek2
        refine ⟨IO, F0, F2, B, inv, e, _, e5, O1, S2, ex, oc, fun v F3 H3 p3 r3 => ?_⟩
        cases (show Rep c.K c.w F3 v (.bool k) from r3)
        refine ⟨k, rfl, ?_⟩
        have toMo : ∃ O', mo (some O1) fb.bk = some O' := mo_of_left rfl
        obtain ⟨OE, hOE⟩ := toMo
        cases k with
        | false =>
          show D.nx σ H3
          cases e4
          obtain ⟨F4, S4, s4⟩ := p3.sr.shrink (mo_left hOE rfl)
          exact en OE hOE σ F4 H3 S4 (s2.trans (p3.ff.trans s4))
        | true =>
          show ∃ N : L2.St → Hp → Prop, (∀ σ' H', N σ' H' → ∃ m', m' < n + 1 ∧ W m' σ' H') ∧ rdSs c.K c.w cal io b { nx := N, rt := D.rt, bk := D.nx, ct := N } σ H3
          obtain ⟨rb, eb, e8⟩ := R.bind_eq_ok (show (bd e5 >>= fun x => match x with
            | .nx e => whlF cn bd n e
            | .ct e => whlF cn bd n e
            | .bk e => R.ok (.nx e)
            | .rt v e => .ok (.rt v e)) = .ok r from e4)
          obtain ⟨rc, ec, e9⟩ := R.bind_eq_ok (show (evSs cal b e5 >>= fun x => R.ok (wipeF ws x)) = .ok rb from eb)
          cases e9
          refine ⟨W n, fun σ' H' h => ⟨n, Nat.lt_succ_self _, h⟩, IO, F0, F3, B, O1, e5, rc, fb, hio, p3.sr, ec, ob, ?_⟩
          have next : ∀ {O' : Sl} {σ' : L2.St} {F' H' : Hp} {e' : Env}, (∀ i ∈ inv, i ∈ O') → SR c.K c.w IO F0 F' B O' σ' H' e' → Same F3 F' → whlF cn bd n (wipeE e' ws) = .ok r → W n σ' H' := fun {O' σ' F' H' e'} hi S' f' he => by
            obtain ⟨F4, S4, s4⟩ := S'.shrink hi
            exact ⟨F4, _, S4.wipeOnly ws, s2.trans (p3.ff.trans (f'.trans s4)), he⟩
          cases rc with
          | nx e' => exact fun O' hO σ' F' H' S' f' => next (keeps_some hk.1.2 hO) S' f' e8
          | ct e' => exact fun O' hO σ' F' H' S' f' => next (keeps_some hk.2 hO) S' f' e8
          | bk e' =>
            cases e8
            intro O' hO σ' F' H' S' f'
            obtain ⟨F4, S4, s4⟩ := S'.shrink (mo_right hOE hO)
            exact en OE hOE σ' F4 H' S4 (s2.trans (p3.ff.trans (f'.trans s4)))
          | rt v e' =>
            cases e8
            exact fun O' x σ' F' H' hi S' f' r' => en O' x σ' F' H' hi S' (s2.trans (p3.ff.trans f')) r'
theorem for_imp {inv ws : List Nat} {tg : Tg} {it : It} {b : Ss} {D : Ends} {σ : L2.St} {H : Hp} (h : rdS c.K c.w cal io (.for_ inv ws tg it b) D σ H) : tFor (rdIt c.K c.w cal false it) (gT c.K tg) (rdSs c.K c.w cal io b) D σ H := by
  obtain ⟨IO, F0, F, B, O, env, r, f, hio, S, ev, ow, en⟩ := h
  obtain ⟨⟨ds, e1⟩, ei, ev⟩ := R.bind_eq_ok (show (evIt cal it env >>= fun p => forF (fun x env => do
      let env2 ← bindTg tg x env
      .ok (wipeF ws (← evSs cal b env2))) p.1 p.2) = .ok r from ev)
  have ow : (match owIt false O it with
    | some O1 => if sub inv O1 && apartS ws io && apartS ws inv && apartS (tgsOf tg) io && apartS (tgsOf tg) inv then match owSs io inv b with
      | some f => if keeps inv f.nx && keeps inv f.ct then some ({ nx := mo (some inv) f.bk } : Flw) else none
      | none => none else none
    | none => none) = some f := ow
  cases oi : owIt false O it with
  | none => rw [oi] at ow; cases ow
  | some O1 =>
    rw [oi] at ow
    obtain ⟨hc, ow⟩ := guard_some ow
    simp only [Bool.and_eq_true] at hc
    cases ob : owSs io inv b with
    | none => rw [ob] at ow; cases ow
    | some fb =>
      rw [ob] at ow
      obtain ⟨hk, ow⟩ := guard_some ow
      cases ow
      rw [Bool.and_eq_true] at hk
      refine ⟨IO, F0, F, B, O, env, ds, e1, O1, S, ei, oi, fun J F1 H1 Bs p1 hBs hb _ Wk => ?_⟩
      obtain ⟨F2, S2, s2⟩ := p1.sr.shrink (O' := inv) fun i hi => sub_mem hc.1.1.1.1 hi
      obtain ⟨OE, hOE⟩ : ∃ O', mo (some inv) fb.bk = some O' := mo_of_left rfl
      let bd : AV → Env → R Fl := fun x env => do
        let env2 ← bindTg tg x env
        .ok (wipeF ws (← evSs cal b env2))
      let Pv : Nat → L2.St → Hp → Prop := fun i σ H => ∃ F3 e, SR c.K c.w IO F0 F3 B inv σ H e ∧ Same F2 F3 ∧ forF bd (ds.drop i) e = .ok r
      have bsF : Bs = F1 := hb rfl
      have base : ∀ {i : Nat} {σ : L2.St} {H : Hp}, Pv i σ H → Same Bs H := fun {i σ H} ⟨F3, e, S3, s3, _⟩ => by
        rw [bsF]
        exact s2.trans (s3.trans S3.fh)
      -- by the turn
      refine ⟨fun i m σ H => m = ds.length - i ∧ i ≤ ds.length ∧ (Pv i σ H), ⟨ds.length, by simp, Nat.zero_le _, F2, e1, S2, Same.refl _, by simpa using ev⟩, ?_⟩
      rintro i m σ H ⟨rfl, hi, pv⟩
      have hG := base pv
      obtain ⟨F3, e, S3, s3, e3⟩ := pv
      by_cases hlt : i < ds.length
      · refine .inr ⟨Wk.goes i H hlt hG, Pv (i + 1), fun σ' H' p' => ⟨ds.length - (i + 1), by omega, rfl, hlt, p'⟩, fun x H' yl => ?_⟩
        rw [List.drop_eq_getElem_cons hlt] at e3
        obtain ⟨rb, eb, e4⟩ := R.bind_eq_ok (show (bd ds[i] e >>= fun x => match x with
          | .nx e => forF bd (ds.drop (i + 1)) e
          | .ct e => forF bd (ds.drop (i + 1)) e
          | .bk e => R.ok (.nx e)
          | .rt v e => .ok (.rt v e)) = .ok r from e3)
        obtain ⟨e5, eg, e6⟩ := R.bind_eq_ok (show (bindTg tg ds[i] e >>= fun env2 => evSs cal b env2 >>= fun x => R.ok (wipeF ws x)) = .ok rb from eb)
        obtain ⟨rc, ec, e9⟩ := R.bind_eq_ok e6
        cases e9
        obtain ⟨d', F4, hd', X4, r4⟩ := Wk.yields i H x H' hlt hG yl F3 (s2.trans s3) S3.fh
        rw [List.getElem?_eq_getElem hlt] at hd'
        cases hd'
        refine tg_imp (S3.ext X4) eg r4 (fun j hj z => apart_mem hc.2 hj z) fun σ2 S5 _ _ => ?_
        refine ⟨IO, F0, F4, B, inv, e5, rc, fb, hio, S5, ec, ob, ?_⟩
        have all : Same F F4 := p1.ff.trans (s2.trans (s3.trans X4.ff))
        have next : ∀ {O' : Sl} {σ' : L2.St} {F' H' : Hp} {e' : Env}, (∀ i ∈ inv, i ∈ O') → SR c.K c.w IO F0 F' B O' σ' H' e' → Same F4 F' → forF bd (ds.drop (i + 1)) (wipeE e' ws) = .ok r → Pv (i + 1) σ' H' := fun {O' σ' F' H' e'} hi S' f' he => by
          obtain ⟨F6, S6, s6⟩ := S'.shrink hi
          exact ⟨F6, _, S6.wipeOnly ws, s3.trans (X4.ff.trans (f'.trans s6)), he⟩
        cases rc with
        | nx e' => exact fun O' hO σ' F' H' S' f' => next (keeps_some hk.1 hO) S' f' e4
        | ct e' => exact fun O' hO σ' F' H' S' f' => next (keeps_some hk.2 hO) S' f' e4
        | bk e' =>
          cases e4
          intro O' hO σ' F' H' S' f'
          obtain ⟨F6, S6, s6⟩ := S'.shrink (mo_right hOE hO)
          exact en OE hOE σ' F6 H' S6 (all.trans (f'.trans s6))
        | rt v e' =>
          cases e4
          exact fun O' x σ' F' H' hi S' f' r' => en O' x σ' F' H' hi S' (all.trans f') r'
      · have e9 : i = ds.length := by omega
        subst e9
        rw [List.drop_length] at e3
        cases e3
        obtain ⟨F6, S6, s6⟩ := S3.shrink (mo_left hOE rfl)
        exact .inl ⟨Wk.stops H hG, en OE hOE σ F6 H S6 (p1.ff.trans (s2.trans (s3.trans s6)))⟩
end
end Ev
end

section
set_option linter.all false
set_option autoImplicit false
set_option maxRecDepth 100000
set_option maxHeartbeats 4000000
/-! EvP: the check is right: statements. -/
namespace Ev
open PySem PySem.Spec PyProof.Rows L2
/-- do a comprehension and its store go together? -/
def swB (sc : Scope) (e : Expr) (y : Str) (py : Pos) : Bool := match e with
  | .ListComp _ _ s p => (sc.names.lookup y == some .local) && (py.line == p.line) && !(s.names.any fun (n, k) => n == y && (k == .local || k == .cell))
  | _ => false
def cmpE : Expr → Bool
  | .ListComp .. => true
  | .SetComp .. => true
  | .DictComp .. => true
  | _ => false
def lcE : Expr → Bool
  | .ListComp .. => true
  | _ => false
/-- what a, b = c, d does with its stores: none: not told -/
def swV (sc : Scope) (ts vs : List Expr) : Option (Option (List Str)) :=
  if !(ts.length == 2 || ts.length == 3) || vs.length != ts.length then some none
  else if vs.any stE then some none
  else
    let names := ts.filterMap fun
      | .Name id pos => if sc.names.lookup id == some .local && pos.line == (ts.head?.map (·.pos.line)).getD 0 then some id else none
      | _ => none
    if names.length != ts.length || names.eraseDups.length != names.length then some none
    else if vs.all (foldedForSure 8) then some none
    else if vs.all (constantsAlone 8) then none
    else some (some names)
theorem blockKind_of {env : PySem.Env} (h : env.scope.kind = .function) : env.blockKind = .function := by unfold Env.blockKind; rw [h]; rfl
theorem swV_ok {env : PySem.Env} {ts vs : List Expr} {a b : Nat} {p q : Pos} {r : Option (List Str)} (hk : env.scope.kind = .function) (h : swV env.scope ts vs = some r) : swappedStores [.Tuple ts a p] (.Tuple vs b q) env = pure r := by
  unfold swappedStores
  simp only [blockKind_of hk]
  unfold swV at h
  split at h
  · rename_i h1
    cases h
    have : (!(ts.length == 2 || ts.length == 3) || vs.length != ts.length || ScopeKind.function != ScopeKind.function) = true := by rw [h1]; rfl
    rw [if_pos this]
  · rename_i h1
    have n1 : ¬ (!(ts.length == 2 || ts.length == 3) || vs.length != ts.length || ScopeKind.function != ScopeKind.function) = true := by
      intro z
      apply h1
      rw [Bool.or_eq_true] at z
      exact z.resolve_right (by decide)
    rw [if_neg n1]
    split at h
    · rename_i h2
      cases h
      exact if_pos h2
    · rename_i h2
      refine (if_neg h2).trans ?_
      simp only at h
      split at h
      · rename_i h3
        cases h
        exact if_pos h3
      · rename_i h3
        refine (if_neg h3).trans ?_
        split at h
        · rename_i h4
          cases h
          exact if_pos h4
        · rename_i h4
          refine (if_neg h4).trans ?_
          split at h
          · cases h
          · rename_i h5
            refine (if_neg h5).trans ?_
            cases h
            rfl
/-! ### the check -/
def fT : Str → Bool := fun _ => true
def docE : Stmt → Bool
  | .Expr (.Constant (.str _) _ _) _ => true
  | _ => false
def nodoc : List Stmt → List Stmt
  | [] => []
  | s :: l => if docE s then l else s :: l
def unE : Expr → Bool
  | .Tuple .. => false
  | _ => true
mutual
def chkS (P : Tab) (N : List Str) (sc : Scope) : S → Stmt → Bool
  | .asg i (.comp own cs ex), st => match st with
    | .Assign [.Name y _] (.ListComp elt gens scope _) _ => nameB N fT sc i y && blkC N sc scope (ownL N own) && chkCs P N own cs fT sc scope gens && chkE P N ex (fun x => scope.names.lookup x == some .cell) (relS scope sc) elt
    | _ => false
  | .asg i e, st => match st with
    | .Assign [.Name y _] v _ => nameB N fT sc i y && !cmpE v && chkE P N e fT sc v
    | _ => false
  | .move i j, st => match st with
    | .Assign [.Name y _] (.Name z _) _ => nameB N fT sc i y && decide (N[j]? = some z) && visB sc z && !odd z
    | _ => false
  | .unp is e, st => match st with
    | .Assign [.Tuple ts k p] v _ => unE v && chkTg N fT sc (.Tuple ts k p) (.tup is) && chkE P N e fT sc v
    | _ => false
  | .par is es, st => match st with
    | .Assign [.Tuple ts k p] (.Tuple vs _ _) _ => chkNames N fT sc ts is && chkXs P N es fT sc vs && decide (is.length ≤ 1000) && (match swV sc ts vs with
      | some none => true
      | some (some names) => match ts, vs, is with
        | [.Name x _, .Name y _], [_, _], [i, j] => decide (names = [x, y]) && decide (sc.names.lookup x = some .local) && decide (sc.names.lookup y = some .local) && decide (i ≠ j)
        | [.Name x _, .Name y _, .Name z _], [_, _, _], [i, j, l] => decide (names = [x, y, z]) && decide (sc.names.lookup x = some .local) && decide (sc.names.lookup y = some .local) && decide (sc.names.lookup z = some .local) && decide (i ≠ j) && decide (i ≠ l) && decide (j ≠ l)
        | _, _, _ => false
      | none => false)
    | _ => false
  | .seti i k v, st => match st with
    | .Assign [.Subscript (.Name y _) ke _] ve _ => decide (N[i]? = some y) && visB sc y && !odd y && pixE ke && chkE P N k fT sc ke && chkE P N v fT sc ve
    | _ => false
  | .app i e, st => match st with
    | .Expr (.Call (.Attribute (.Name y _) name apos) [l] [] pos) _ => decide (name = "append") && decide (N[i]? = some y) && visB sc y && !odd y && (apos.endLine == pos.line) && !stE l && chkE P N e fT sc l
    | _ => false
  | .ext i e, st => match st with
    | .Expr (.Call (.Attribute (.Name y _) name apos) [l] [] pos) _ => decide (name = "extend") && decide (N[i]? = some y) && visB sc y && !odd y && (apos.endLine == pos.line) && !stE l && chkE P N e fT sc l
    | _ => false
  | .aug i op e, st => match st with
    | .AugAssign (.Name y _) o v _ => nameB N fT sc i y && decide (o = bopP op) && chkE P N e fT sc v
    | _ => false
  | .expr e, st => match st with
    | .Expr v _ => !cmpE v && chkE P N e fT sc v
    | _ => false
  | .ret e, st => match st with
    | .Return (some v) _ => chkE P N e fT sc v
    | _ => false
  | .ite d a b, st => match st with
    | .If t l r _ => chkE P N d fT sc t && chkSs P N sc a (nodoc l) && chkSs P N sc b (nodoc r)
    | _ => false
  | .whl _ _ d b, st => match st with
    | .While t l [] _ => chkE P N d fT sc t && chkSs P N sc b (nodoc l)
    | _ => false
  | .for_ _ _ tg it b, st => match st with
    | .For t iter l [] _ => fullE iter && chkTg N fT sc t tg && chkIt P N it fT sc t iter && chkSs P N sc b (nodoc l)
    | _ => false
  | .raise, _ => true
  | .brk, st => match st with
    | .Break _ => true
    | _ => false
  | .cont, st => match st with
    | .Continue _ => true
    | _ => false
  | .pass, st => match st with
    | .Pass _ => true
    | _ => false
def chkSs (P : Tab) (N : List Str) (sc : Scope) : Ss → List Stmt → Bool
  | .nil, l => match l with
    | [] => true
    | _ => false
  | .cons s r, l => match l with
    | st :: l => chkS P N sc s st && chkSs P N sc r l
    | [] => false
end
/-! ### it is right -/
structure GoodS (P : Tab) (k : Nat) (c : Cx) : Prop where
  g : Good P k c
  xe : c.xe = fun _ _ => False
  kind : c.env.scope.kind = .function
  fn : c.fn = fT
theorem doc_ok {e : Stmt} (h : docE e = true) : ∃ x j p q, e = .Expr (.Constant (.str x) j p) q := by
  unfold docE at h
  split at h
  · exact ⟨_, _, _, _, rfl⟩
  · cases h
theorem pss_nodoc {c : Cx} {t : TS} {l : List Stmt} (h : PSs c (nodoc l) t) : PSs c l t := by
  cases l with
  | nil => exact h
  | cons s l =>
    have h : PSs c (if docE s = true then l else s :: l) t := h
    cases hd : docE s with
    | false => rw [hd, if_neg (by decide)] at h; exact h
    | true =>
      rw [hd, if_pos rfl] at h
      obtain ⟨x, j, p, q, rfl⟩ := doc_ok hd
      exact (pss_cons ps_doc h).imp fun D σ H z => z
theorem cmp_sw {e : Expr} (h : cmpE e = false) (t : Option Expr) (n : Nat) (env : PySem.Env) : swapsWith e t n env = pure false := by
  cases e <;> first | rfl | cases h
theorem lc_sw {elt : Expr} {gens : List Comprehension} {scope : Scope} {p py : Pos} {y : Str} {n : Nat} {env : PySem.Env} (hk : env.scope.kind = .function) : swapsWith (.ListComp elt gens scope p) (some (.Name y py)) n env = pure (swB env.scope (.ListComp elt gens scope p) y py) := by
  unfold swapsWith
  simp only [blockKind_of hk]
  show pure ((ScopeKind.function == ScopeKind.function) && (env.kindOf y == some NameKind.local) && (py.line == p.line) && !(scope.names.any fun x => match x with | (n, k) => n == y && (k == .local || k == .cell))) = pure ((env.scope.names.lookup y == some .local) && (py.line == p.line) && !(scope.names.any fun x => match x with | (n, k) => n == y && (k == .local || k == .cell)))
  rw [show (ScopeKind.function == ScopeKind.function) = true from rfl, Bool.true_and]
  rfl
section
variable {P : Tab} {k : Nat} {c : Cx} {io : Sl}
theorem name_loc (G : GoodS P k c) {i : Nat} {y : Str} (h : nameB c.N fT c.env.scope i y = true) : c.N[i]? = some y ∧ Loc c.env.scope y ∧ (c.fn y = true ∨ c.env.scope.names.lookup y = some .local) := by
  unfold nameB at h
  simp only [Bool.and_eq_true, Bool.or_eq_true, decide_eq_true_eq] at h
  obtain ⟨h1, h2⟩ := h
  refine ⟨h1, ?_, .inl (by rw [G.fn]; rfl)⟩
  rcases h2 with h2 | ⟨_, h2⟩
  · exact .inl h2
  · exact .inr h2
theorem set_sub_assign {o i : Expr} {p : Pos} (h : pixE i = true) (env : PySem.Env) (v : Value) : assign (.Subscript o i p) env v = (do
      let ov ← holding [v] (eval o env)
      let iv ← holding [v, ov] (eval i env)
      standAt p
      holding [v, ov, iv] (setItem ov iv v)
      release [v, ov, iv] []) := by
  cases i <;> first | rfl | cases h
theorem stE_few {l : Expr} {env : PySem.Env} {pos : Pos} (h : stE l = false) : ((backTo pos (starEach [l] env)).all (fun x => !x.1) && (backToKw pos (keywordEach [] env)).all (fun x => x.1.isSome)
      && decide ([l].length + ([] : List Keyword).length + (if ([] : List Keyword).isEmpty then 0 else 1) < 30)) = true := by
  rw [star_plain h]
  rfl
theorem plain_none {l : Expr} {env : PySem.Env} {pos : Pos} : (backTo pos (starEach ([] : List Expr) env)).any (·.1) = false := rfl
theorem gNames_two {i j : Nat} {vs : List V} {σ : L2.St} {H : Hp} {Q : L2.St → Hp → Prop} (h : gNames [i, j] vs σ H Q) : ∃ v w, vs = [v, w] ∧ Q ((σ.set i (some v)).set j (some w)) H := by
  obtain ⟨v, r, rfl, w, r2, rfl, rfl, h⟩ := h
  exact ⟨v, w, rfl, h⟩
theorem gNames_three {i j l : Nat} {vs : List V} {σ : L2.St} {H : Hp} {Q : L2.St → Hp → Prop} (h : gNames [i, j, l] vs σ H Q) : ∃ u v w, vs = [u, v, w] ∧ Q (((σ.set i (some u)).set j (some v)).set l (some w)) H := by
  obtain ⟨u, r, rfl, v, r2, rfl, w, r3, rfl, rfl, h⟩ := h
  exact ⟨u, v, w, rfl, h⟩
end
section
variable {P : Tab} {k : Nat} (HR : ∀ c, Good P k c → Rls c)
include HR
theorem ok_asgC {own : List Nat} {cs : Cs} {ex : X} {i : Nat} {st : Stmt} {c : Cx} {io : Sl} (G : GoodS P k c) (h : chkS P c.N c.env.scope (.asg i (.comp own cs ex)) st = true) : PS c st (rdS c.K c.w (callD P k) io (.asg i (.comp own cs ex))) := by
  unfold chkS at h
  split at h
  · rename_i y py elt gens scope p pos
    simp only [Bool.and_eq_true] at h
    obtain ⟨⟨⟨h1, h2⟩, h3⟩, h4⟩ := h
    obtain ⟨n1, n2, n3⟩ := name_loc G h1
    have HE : InC P k c scope fun c' => OkE (callD P k) c' elt ex := fun s H C cl fp => ok_E HR ex (G.g.blk ..) h4
    obtain ⟨o1, o2⟩ := ok_Cs HR own cs (pos := p) G.g h2 (by rw [G.fn]; exact h3) HE
    cases hs : swB c.env.scope (.ListComp elt gens scope p) y py with
    | true =>
      have hl : c.env.scope.names.lookup y = some .local := by
        have hs : ((c.env.scope.names.lookup y == some .local) && (py.line == p.line) && !(scope.names.any fun (n, k) => n == y && (k == .local || k == .cell))) = true := hs
        simp only [Bool.and_eq_true] at hs
        exact eq_of_beq hs.1.1
      exact (o2 i y py pos (mA (.comp own cs ex)) n1 hl (by rw [lc_sw G.kind, hs])).imp fun D σ H q => asg_imp q
    | false => exact (ps_set G.g.nd n1 n2 (o1.pe (mA (.comp own cs ex))) (by rw [lc_sw G.kind, hs]) n3).imp fun D σ H q => asg_imp q
  · cases h
theorem asg_plain {i : Nat} {e : X} {y : Str} {py pos : Pos} {v : Expr} {c : Cx} {io : Sl} (G : GoodS P k c) (h : (nameB c.N fT c.env.scope i y && !cmpE v && chkE P c.N e fT c.env.scope v) = true) : PS c (.Assign [.Name y py] v pos) (rdS c.K c.w (callD P k) io (.asg i e)) := by
  simp only [Bool.and_eq_true, Bool.not_eq_true'] at h
  obtain ⟨n1, n2, n3⟩ := name_loc G h.1.1
  exact (ps_set G.g.nd n1 n2 ((ok_E HR e G.g (by rw [G.fn]; exact h.2)).pe (mA e)) (cmp_sw h.1.2 ..) n3).imp fun D σ H q => asg_imp q
theorem ok_par {is : List Nat} {es : Xs} {st : Stmt} {c : Cx} {io : Sl} (G : GoodS P k c) (h : chkS P c.N c.env.scope (.par is es) st = true) : PS c st (rdS c.K c.w (callD P k) io (.par is es)) := by
  unfold chkS at h
  split at h
  · rename_i ts kt pt vs kv pv pos
    simp only [Bool.and_eq_true, decide_eq_true_eq] at h
    obtain ⟨⟨⟨h1, h2⟩, h3⟩, h4⟩ := h
    have A := ok_Xs HR es G.g (by rw [G.fn]; exact h2)
    have T : PG c (.Tuple ts kt pt) (gT c.K (.tup is)) := pg_tg G.g.nd G.g.calm (by rw [G.fn]; exact h1)
    split at h4
    · rename_i hs
      refine (ps_asg (pos := pos) (pe_tup (x1 := kv) (pos := pv) A) T rfl (swV_ok G.kind hs) rfl).imp fun D σ H q => ?_
      obtain ⟨IO, F0, F, B, O, env, ds, env', O', S, e, o, q⟩ := par_imp q
      refine ⟨IO, F0, F, B, O, env, ds, env', O', S, e, o, fun us as F1 B1 H1 S1 f1 b1 h1 A => ?_⟩
      obtain ⟨g1, g2, g3⟩ := q us as F1 B1 H1 S1 f1 b1 h1 A
      have hz : us.length ≤ sizeLine := by rw [g1, sizeLine_eq]; omega
      exact ⟨hz, fun p hp => ⟨p, us, rfl, SqT.of upd_same, g1, g3 p _ hp⟩⟩
    · rename_i names hs
      split at h4
      · rename_i x px y py l r i j
        simp only [Bool.and_eq_true, decide_eq_true_eq] at h4
        obtain ⟨⟨⟨rfl, hx⟩, hy⟩, hij⟩ := h4
        simp only [chkNames, Bool.and_eq_true] at h1
        obtain ⟨n1, _, _⟩ := name_loc G h1.1
        obtain ⟨n2, _, _⟩ := name_loc G h1.2.1
        exact (ps_par G.g.calm G.g.nd n1 n2 hij hx hy A (swV_ok G.kind hs) rfl).imp fun D σ H q => by
          obtain ⟨IO, F0, F, B, O, env, ds, env', O', S, e, o, q⟩ := par_imp q
          exact ⟨IO, F0, F, B, O, env, ds, env', O', S, e, o, fun us as F1 B1 H1 S1 f1 b1 h1 A => gNames_two (q us as F1 B1 H1 S1 f1 b1 h1 A).2.1⟩
      · rename_i x px y py z pz l r t i j n
        simp only [Bool.and_eq_true, decide_eq_true_eq] at h4
        obtain ⟨⟨⟨⟨⟨⟨rfl, hx⟩, hy⟩, hz⟩, hij⟩, hil⟩, hjl⟩ := h4
        simp only [chkNames, Bool.and_eq_true] at h1
        obtain ⟨n1, _, _⟩ := name_loc G h1.1
        obtain ⟨n2, _, _⟩ := name_loc G h1.2.1
        obtain ⟨n3, _, _⟩ := name_loc G h1.2.2.1
        exact (ps_par3 G.g.calm G.g.nd n1 n2 n3 hij hil hjl hx hy hz A (swV_ok G.kind hs) rfl).imp fun D σ H q => by
          obtain ⟨IO, F0, F, B, O, env, ds, env', O', S, e, o, q⟩ := par_imp q
          exact ⟨IO, F0, F, B, O, env, ds, env', O', S, e, o, fun us as F1 B1 H1 S1 f1 b1 h1 A => gNames_three (q us as F1 B1 H1 S1 f1 b1 h1 A).2.1⟩
      · cases h4
    · cases h4
  · cases h
end
end Ev
end

section
set_option linter.all false
set_option autoImplicit false
set_option maxRecDepth 100000
set_option maxHeartbeats 4000000
/-! EvR: suites, defs, all defs by the depth of their calls. -/
namespace Ev
open PySem PySem.Spec PyProof.Rows L2
section
variable {P : Tab} {k : Nat} (HR : ∀ c, Good P k c → Rls c)
include HR
theorem ok_simple : ∀ (s : S) {st : Stmt} {c : Cx} {io : Sl}, GoodS P k c → chkS P c.N c.env.scope s st = true → (match s with
    | .ite .. => False
    | .whl .. => False
    | .for_ .. => False
    | _ => True) → PS c st (rdS c.K c.w (callD P k) io s)
  | .asg i (.comp own cs ex), st, c, io, G, h, _ => ok_asgC HR G h
  | .asg i (.var _), st, c, io, G, h, _ => by unfold chkS at h; split at h; exact asg_plain HR G h; cases h
  | .asg i (.con _), st, c, io, G, h, _ => by unfold chkS at h; split at h; exact asg_plain HR G h; cases h
  | .asg i (.bin _ _ _), st, c, io, G, h, _ => by unfold chkS at h; split at h; exact asg_plain HR G h; cases h
  | .asg i (.neg _), st, c, io, G, h, _ => by unfold chkS at h; split at h; exact asg_plain HR G h; cases h
  | .asg i (.not _), st, c, io, G, h, _ => by unfold chkS at h; split at h; exact asg_plain HR G h; cases h
  | .asg i (.and _ _), st, c, io, G, h, _ => by unfold chkS at h; split at h; exact asg_plain HR G h; cases h
  | .asg i (.or _ _), st, c, io, G, h, _ => by unfold chkS at h; split at h; exact asg_plain HR G h; cases h
  | .asg i (.cmp _ _ _), st, c, io, G, h, _ => by unfold chkS at h; split at h; exact asg_plain HR G h; cases h
  | .asg i (.chain _ _ _ _ _), st, c, io, G, h, _ => by unfold chkS at h; split at h; exact asg_plain HR G h; cases h
  | .asg i (.ite _ _ _), st, c, io, G, h, _ => by unfold chkS at h; split at h; exact asg_plain HR G h; cases h
  | .asg i (.tup _), st, c, io, G, h, _ => by unfold chkS at h; split at h; exact asg_plain HR G h; cases h
  | .asg i (.lst _), st, c, io, G, h, _ => by unfold chkS at h; split at h; exact asg_plain HR G h; cases h
  | .asg i (.dict _), st, c, io, G, h, _ => by unfold chkS at h; split at h; exact asg_plain HR G h; cases h
  | .asg i (.idx _ _), st, c, io, G, h, _ => by unfold chkS at h; split at h; exact asg_plain HR G h; cases h
  | .asg i (.slc _ _ _), st, c, io, G, h, _ => by unfold chkS at h; split at h; exact asg_plain HR G h; cases h
  | .asg i (.dcomp _ _ _ _), st, c, io, G, h, _ => by unfold chkS at h; split at h; exact asg_plain HR G h; cases h
  | .asg i (.call _ _), st, c, io, G, h, _ => by unfold chkS at h; split at h; exact asg_plain HR G h; cases h
  | .asg i (.blt _ _), st, c, io, G, h, _ => by unfold chkS at h; split at h; exact asg_plain HR G h; cases h
  | .asg i (.meth _ _ _), st, c, io, G, h, _ => by unfold chkS at h; split at h; exact asg_plain HR G h; cases h
  | .asg i (.pop _ _), st, c, io, G, h, _ => by unfold chkS at h; split at h; exact asg_plain HR G h; cases h
  | .move i j, st, c, io, G, h, _ => by
    unfold chkS at h
    split at h
    · simp only [Bool.and_eq_true, decide_eq_true_eq] at h
      obtain ⟨n1, n2, n3⟩ := name_loc G h.1.1.1
      exact (ps_set G.g.nd n1 n2 (pe_var h.1.1.2 (visB_ok h.1.2) (odd_ok h.2).1 (odd_ok h.2).2) rfl n3).imp fun D σ H q => move_imp q
    · cases h
  | .unp is e, st, c, io, G, h, _ => by
    unfold chkS at h
    split at h
    · rename_i ts kk p v pos
      simp only [Bool.and_eq_true] at h
      refine (ps_asg ((ok_E HR e G.g (by rw [G.fn]; exact h.2)).pe .val) (pg_tg G.g.nd G.g.calm (by rw [G.fn]; exact h.1.2)) ?_ ?_ rfl).imp fun D σ H q => unp_imp q
      · cases v <;> rfl
      · have hu := h.1.1
        cases v <;> first | rfl | cases hu
    · cases h
  | .par is es, st, c, io, G, h, _ => ok_par HR G h
  | .seti i kx v, st, c, io, G, h, _ => by
    unfold chkS at h
    split at h
    · simp only [Bool.and_eq_true, decide_eq_true_eq] at h
      obtain ⟨⟨⟨⟨⟨h1, h2⟩, h3⟩, h4⟩, h5⟩, h6⟩ := h
      rename_i y py ke ps ve pos
      have T : PG c (.Subscript (.Name y py) ke ps) _ := pg_sub (pe_var h1 (visB_ok h2) (odd_ok h3).1 (odd_ok h3).2) ((ok_E HR kx G.g (by rw [G.fn]; exact h5)).pe .val) (set_both (HR c G.g).hu) (set_sub_assign h4 _)
      refine (ps_asg ((ok_E HR v G.g (by rw [G.fn]; exact h6)).pe .val) T ?_ ?_ rfl).imp fun D σ H q => seti_imp q
      · cases ve <;> rfl
      · cases ve <;> rfl
    · cases h
  | .app i e, st, c, io, G, h, _ => by
    unfold chkS at h
    split at h
    · simp only [Bool.and_eq_true, decide_eq_true_eq, Bool.not_eq_true'] at h
      obtain ⟨⟨⟨⟨⟨⟨rfl, h1⟩, h2⟩, h3⟩, h4⟩, h5⟩, h6⟩ := h
      exact (ps_expr (pe_bm PySem.F.plainAttrs_list PySem.F.slot_list_append PySem.F.type_list_append mt_append (pe_var h1 (visB_ok h2) (odd_ok (by simpa using h3)).1 (odd_ok (by simpa using h3)).2) (pa_cons ((ok_E HR e G.g (by rw [G.fn]; exact h6)).pe .val) pa_nil (star_plain h5)) rfl (stE_few h5) h4 (star_plain h5) rfl) rfl).imp fun D σ H q => app_imp q
    · cases h
  | .ext i e, st, c, io, G, h, _ => by
    unfold chkS at h
    split at h
    · simp only [Bool.and_eq_true, decide_eq_true_eq, Bool.not_eq_true'] at h
      obtain ⟨⟨⟨⟨⟨⟨rfl, h1⟩, h2⟩, h3⟩, h4⟩, h5⟩, h6⟩ := h
      exact (ps_expr (pe_bm PySem.F.plainAttrs_list PySem.F.slot_list_extend PySem.F.type_list_extend mt_ext (pe_var h1 (visB_ok h2) (odd_ok (by simpa using h3)).1 (odd_ok (by simpa using h3)).2) (pa_cons ((ok_E HR e G.g (by rw [G.fn]; exact h6)).pe .opd) pa_nil (star_plain h5)) rfl (stE_few h5) h4 (star_plain h5) rfl) rfl).imp fun D σ H q => ext_imp q
    · cases h
  | .aug i op e, st, c, io, G, h, _ => by
    unfold chkS at h
    split at h
    · simp only [Bool.and_eq_true, decide_eq_true_eq] at h
      obtain ⟨⟨h1, rfl⟩, h2⟩ := h
      obtain ⟨n1, n2, n3⟩ := name_loc G h1
      have he := (ok_E HR e G.g (by rw [G.fn]; exact h2)).pe .val
      cases op with
      | add => exact (ps_aug G.g.nd n1 n2 he ip_add n3).imp fun D σ H q => (aug_imp q).elim (fun z => z.2) fun z => by cases z.1
      | sub => exact (ps_aug G.g.nd n1 n2 he ip_sub n3).imp fun D σ H q => (aug_imp q).elim (fun z => by cases z.1) fun z => z.2
      | mul => exact ps_never.imp fun D σ H q => (aug_imp q).elim (fun z => by cases z.1) fun z => by cases z.1
      | fdiv => exact ps_never.imp fun D σ H q => (aug_imp q).elim (fun z => by cases z.1) fun z => by cases z.1
      | mod => exact ps_never.imp fun D σ H q => (aug_imp q).elim (fun z => by cases z.1) fun z => by cases z.1
      | pow => exact ps_never.imp fun D σ H q => (aug_imp q).elim (fun z => by cases z.1) fun z => by cases z.1
    · cases h
  | .expr e, st, c, io, G, h, _ => by
    unfold chkS at h
    split at h
    · simp only [Bool.and_eq_true, Bool.not_eq_true'] at h
      exact (ps_expr ((ok_E HR e G.g (by rw [G.fn]; exact h.2)).pe .val) (cmp_sw h.1 ..)).imp fun D σ H q => expr_imp q
    · cases h
  | .ret e, st, c, io, G, h, _ => by
    unfold chkS at h
    split at h
    · exact (ps_ret ((ok_E HR e G.g (by rw [G.fn]; exact h)).pe .val)).imp fun D σ H q => ret_imp q
    · cases h
  | .raise, st, c, io, G, h, _ => ps_never.imp fun D σ H q => by
    obtain ⟨IO, F0, F, B, O, env, r, f, hio, S, ev, ow, en⟩ := q
    cases ev
  | .brk, st, c, io, G, h, _ => by
    unfold chkS at h
    split at h
    · exact ps_break.imp fun D σ H q => by
        obtain ⟨IO, F0, F, B, O, env, r, f, hio, S, ev, ow, en⟩ := q
        cases ev
        cases ow
        exact en _ rfl σ F H S (Same.refl _)
    · cases h
  | .cont, st, c, io, G, h, _ => by
    unfold chkS at h
    split at h
    · exact ps_continue.imp fun D σ H q => by
        obtain ⟨IO, F0, F, B, O, env, r, f, hio, S, ev, ow, en⟩ := q
        cases ev
        cases ow
        exact en _ rfl σ F H S (Same.refl _)
    · cases h
  | .pass, st, c, io, G, h, _ => by
    unfold chkS at h
    split at h
    · exact ps_pass.imp fun D σ H q => by
        obtain ⟨IO, F0, F, B, O, env, r, f, hio, S, ev, ow, en⟩ := q
        cases ev
        cases ow
        exact en _ rfl σ F H S (Same.refl _)
    · cases h
  | .ite .., st, c, io, G, h, q => q.elim
  | .whl .., st, c, io, G, h, q => q.elim
  | .for_ .., st, c, io, G, h, q => q.elim
mutual
theorem ok_S : ∀ (s : S) {st : Stmt} {c : Cx} {io : Sl}, GoodS P k c → chkS P c.N c.env.scope s st = true → PS c st (rdS c.K c.w (callD P k) io s)
  | .ite d a b, st, c, io, G, h => by
    unfold chkS at h
    split at h
    · simp only [Bool.and_eq_true] at h
      exact (ps_if (ok_E HR d G.g (by rw [G.fn]; exact h.1.1)).pt (pss_nodoc (ok_Ss a G h.1.2)) (pss_nodoc (ok_Ss b G h.2))).imp fun D σ H q => ite_impS q
    · cases h
  | .whl inv ws d b, st, c, io, G, h => by
    unfold chkS at h
    split at h
    · simp only [Bool.and_eq_true] at h
      exact (ps_while (by rw [G.xe]; exact PassesOwn.never) (ok_E HR d G.g (by rw [G.fn]; exact h.1)).pt (pss_nodoc (ok_Ss b G h.2))).imp fun D σ H q => whl_imp q
    · cases h
  | .for_ inv ws tg it b, st, c, io, G, h => by
    unfold chkS at h
    split at h
    · simp only [Bool.and_eq_true] at h
      exact (ps_for (by rw [G.xe]; exact PassesOwn.never) G.g.calm (ok_It HR it false G.g (by rw [G.fn]; exact h.1.2)) (pg_tg G.g.nd G.g.calm (by rw [G.fn]; exact h.1.1.2)) (pss_nodoc (ok_Ss b G h.2)) (full_ok h.1.1.1 _)).imp fun D σ H q => for_imp q
    · cases h
  | .asg i e, st, c, io, G, h => ok_simple HR _ G h trivial
  | .move i j, st, c, io, G, h => ok_simple HR _ G h trivial
  | .unp is e, st, c, io, G, h => ok_simple HR _ G h trivial
  | .par is es, st, c, io, G, h => ok_simple HR _ G h trivial
  | .seti i k v, st, c, io, G, h => ok_simple HR _ G h trivial
  | .app i e, st, c, io, G, h => ok_simple HR _ G h trivial
  | .ext i e, st, c, io, G, h => ok_simple HR _ G h trivial
  | .aug i op e, st, c, io, G, h => ok_simple HR _ G h trivial
  | .expr e, st, c, io, G, h => ok_simple HR _ G h trivial
  | .ret e, st, c, io, G, h => ok_simple HR _ G h trivial
  | .raise, st, c, io, G, h => ok_simple HR _ G h trivial
  | .brk, st, c, io, G, h => ok_simple HR _ G h trivial
  | .cont, st, c, io, G, h => ok_simple HR _ G h trivial
  | .pass, st, c, io, G, h => ok_simple HR _ G h trivial
theorem ok_Ss : ∀ (s : Ss) {l : List Stmt} {c : Cx} {io : Sl}, GoodS P k c → chkSs P c.N c.env.scope s l = true → PSs c l (rdSs c.K c.w (callD P k) io s)
  | .nil, l, c, io, G, h => by
    unfold chkSs at h
    split at h
    · exact pss_nil.imp fun D σ H q => nil_imp q
    · cases h
  | .cons s r, l, c, io, G, h => by
    unfold chkSs at h
    split at h
    · rw [Bool.and_eq_true] at h
      exact (pss_cons (ok_S s G h.1) (ok_Ss r G h.2)).imp fun D σ H q => cons_imp q
    · cases h
end
end
end Ev
end

section
set_option linter.all false
set_option autoImplicit false
set_option maxRecDepth 100000
set_option maxHeartbeats 4000000
/-! EvS: defs keep their promise; a law's end. -/
namespace Ev
open PySem PySem.Spec PyProof.Rows L2
/-- a def of the text with its own tree -/
structure Src where
  id : Nat
  x : Str
  N : List Str
  ps : List Str
  D : Def
  params : Arguments
  body : List Stmt
  scope : Scope
def fnScB (N P : List Str) (sc : Scope) : Bool := (match sc.kind with
  | .function => true
  | _ => false) && !sc.isCoroutine && !sc.isGenerator && decide N.Nodup && decide (N.take P.length = P) && (P.all fun x => decide (sc.names.lookup x = some .local) || decide (sc.names.lookup x = some .cell)) && sc.names.all fun y => decide (y.2 ≠ .free)
theorem fnScB_ok {N P : List Str} {sc : Scope} (h : fnScB N P sc = true) : FnScope N P sc := by
  unfold fnScB at h
  simp only [Bool.and_eq_true, Bool.not_eq_true', decide_eq_true_eq, List.all_eq_true, Bool.or_eq_true] at h
  obtain ⟨⟨⟨⟨⟨⟨h1, h2⟩, h3⟩, h4⟩, h5⟩, h6⟩, h7⟩ := h
  refine ⟨?_, h2, h3, h4, h5, h6, h7⟩
  split at h1
  · assumption
  · cases h1
def srcB (P : Tab) (e : Src) : Bool := fnScB e.N e.ps e.scope && chkSs P e.N e.scope e.D.body (nodoc e.body) && owD e.D && decide (e.D.n = e.N.length) && decide (e.D.ps = e.ps.length)
theorem outs_ok : ∀ {env : Env} {is : List Nat} {os : List AV}, outsOf env is = .ok os → os.length = is.length ∧ ∀ p ∈ is.zip os, env[p.1]? = some (some p.2) ∧ mutA p.2 = true
  | env, [], os, h => by cases h; exact ⟨rfl, fun p hp => by simp at hp⟩
  | env, i :: is, os, h => by
    obtain ⟨v, e1, h⟩ := R.bind_eq_ok (show (look env i >>= fun v => outsOf env is >>= fun vs => if mutA v then R.ok (v :: vs) else .bad) = .ok os from h)
    obtain ⟨vs, e2, h⟩ := R.bind_eq_ok h
    split at h
    · rename_i hm
      cases h
      obtain ⟨g1, g2⟩ := outs_ok e2
      refine ⟨by rw [List.length_cons, List.length_cons, g1], fun p hp => ?_⟩
      rcases List.mem_cons.mp (show p ∈ (i, v) :: is.zip vs from hp) with rfl | hp
      · exact ⟨look_ok e1, hm⟩
      · exact g2 p hp
    · cases h
theorem zip_idx {α β : Type} : ∀ {l : List α} {m : List β} {a : α} {b : β}, (a, b) ∈ l.zip m → ∃ i : Nat, l[i]? = some a ∧ m[i]? = some b
  | [], _, _, _, h => by simp at h
  | _ :: _, [], _, _, h => by simp at h
  | x :: l, y :: m, a, b, h => by
    rcases List.mem_cons.mp (show (a, b) ∈ (x, y) :: l.zip m from h) with h | h
    · cases h; exact ⟨0, rfl, rfl⟩
    · obtain ⟨i, h1, h2⟩ := zip_idx h
      exact ⟨i + 1, by simpa using h1, by simpa using h2⟩
theorem idx_zip {α β : Type} : ∀ {l : List α} {m : List β} {a : α} {b : β} {i : Nat}, l[i]? = some a → m[i]? = some b → (a, b) ∈ l.zip m
  | [], _, _, _, _, h, _ => by simp at h
  | _ :: _, [], _, _, _, _, h => by simp at h
  | x :: l, y :: m, a, b, 0, h1, h2 => by simp at h1 h2; subst h1; subst h2; exact List.mem_cons_self
  | x :: l, y :: m, a, b, i + 1, h1, h2 => List.mem_cons_of_mem _ (idx_zip (by simpa using h1) (by simpa using h2))
section
variable {K : PySem.W.Frag} {w : World}
/-- the state at a def's entry -/
theorem SR.entry {F H : Hp} {io : List Nat} {N : List Str} {n : Nat} {vs : List V} {ds : List AV} {as : List Addr} (hF : Same F H) (A : ArgOk K w F H io vs ds as) (hn : n = N.length) (hl : ds.length ≤ n) :
    SR K w (io.zip as) F F (fun a => if a ∈ as then none else H a) io (start N vs) H (ds.map some ++ List.replicate (n - ds.length) none) := by
  have σget : ∀ {i : Nat} {v : V}, vs[i]? = some v → (start N vs)[i]? = some (some v) := fun {i v} h => by
    have hi : i < vs.length := (List.getElem?_eq_some_iff.mp h).1
    unfold L2.start
    rw [List.getElem?_append_left (by simpa using hi), List.getElem?_map, h]
    rfl
  have eget : ∀ {i : Nat} {d : AV}, (ds.map some ++ List.replicate (n - ds.length) none)[i]? = some (some d) → ds[i]? = some d := fun {i d} h => by
    by_cases hi : i < ds.length
    · rw [List.getElem?_append_left (by simpa using hi), List.getElem?_map] at h
      cases q : ds[i]? with
      | none => rw [q] at h; cases h
      | some x => rw [q] at h; cases h; rfl
    · rw [List.getElem?_append_right (by simpa using hi), List.getElem?_replicate] at h
      split at h <;> cases h
  have ioat : ∀ {i : Nat}, i ∈ io → ∃ a, (i, a) ∈ io.zip as := fun {i} hi => by
    obtain ⟨j, hj, e⟩ := List.getElem_of_mem hi
    have hj2 : j < as.length := by rw [A.al]; exact hj
    exact ⟨as[j], idx_zip (i := j) (by rw [List.getElem?_eq_getElem hj, e]) (List.getElem?_eq_getElem hj2)⟩
  refine ⟨hF, fun b o e => ?_, Same.refl _, fun a o e => .inl e, fun i d e => ?_, fun i j a d e hi hj e1 e2 m1 m2 s1 s2 => ?_, ?_, fun p hp _ => ?_⟩
  · have e : (if b ∈ as then none else H b) = some o := e
    split at e
    · cases e
    · exact e
  · have hd := eget e
    have hil : i < vs.length := by rw [A.len]; exact (List.getElem?_eq_some_iff.mp hd).1
    refine ⟨vs[i], σget (List.getElem?_eq_getElem hil), fun hi => ?_, fun hi => A.rep i _ _ hi (List.getElem?_eq_getElem hil) hd⟩
    obtain ⟨a, ha⟩ := ioat hi
    obtain ⟨d2, g1, g2, g3, g4⟩ := A.own _ ha
    rw [List.getElem?_eq_getElem hil] at g1
    have g1 : vs[i] = .ref a := Option.some.inj g1
    have g2 : ds[i]? = some d2 := g2
    rw [hd] at g2
    cases g2
    rw [g1]
    exact g4.at (Same.refl _) fun b u eb _ f1 _ f3 => ⟨f1, by cases eb; exact if_pos (List.of_mem_zip ha).2, f3⟩
  · obtain ⟨x, hx⟩ := ioat hi
    obtain ⟨y, hy⟩ := ioat hj
    obtain ⟨d2, g1, _⟩ := A.own _ hx
    obtain ⟨d3, k1, _⟩ := A.own _ hy
    have g1 := σget g1
    have k1 := σget k1
    have g1 : (start N vs)[i]? = some (some (.ref x)) := g1
    have k1 : (start N vs)[j]? = some (some (.ref y)) := k1
    rw [s1] at g1
    rw [s2] at k1
    cases g1
    cases k1
    obtain ⟨p, p1, p2⟩ := zip_idx hx
    obtain ⟨q, q1, q2⟩ := zip_idx hy
    have hpl := (List.getElem?_eq_some_iff.mp p2).1
    have hql := (List.getElem?_eq_some_iff.mp q2).1
    have : p = q := by
      have e1 := (List.getElem?_eq_some_iff.mp p2).2
      have e2 := (List.getElem?_eq_some_iff.mp q2).2
      exact (List.getElem_inj A.nd).mp (e1.trans e2.symm)
    subst this
    rw [p1] at q1
    exact Option.some.inj q1
  · unfold L2.start
    rw [List.length_append, List.length_append, List.length_map, List.length_map, List.length_replicate, List.length_replicate, A.len, hn]
  · obtain ⟨d2, g1, _⟩ := A.own _ hp
    exact σget g1
/-- a def's body keeps the promise -/
theorem def_ok {P : Tab} {k : Nat} {e : Src} {prog : Program} {mg : Str → Option Value} {base : Heap} {fa : Addr} {fd : FuncData} (HR : ∀ c, Good P k c → Rls c) (hP : P e.id = some e.D) (hS : srcB P e = true) (F : FunD K e.x e.x e.params e.body e.scope [] [] fa fd)
    (fre : ∀ x ∈ bnames, mg x = none) (glo : ∀ y a, P.g y = some a → ∃ v u, mg y = some u ∧ RelV v u ∧ ∀ F, Rep K w F v a)
    (ih : ∀ f D, P f = some D → ∃ (fa : Addr) (fd : FuncData) (ps : List Str), FnOk prog w K mg base CX0 k fa fd ps (spD K w (callD P k f) D.io) ∧ mg (P.nm f) = some (.ref fa) ∧ PySem.W.keepIn K (.ref fa) = true ∧ Binds K fd ps []) :
    FnOk prog w K mg base CX0 (k + 1) fa fd e.ps (spD K w (callD P (k + 1) e.id) e.D.io) := by
  unfold srcB at hS
  simp only [Bool.and_eq_true, decide_eq_true_eq] at hS
  obtain ⟨⟨⟨⟨h1, h2⟩, h3⟩, h4⟩, h5⟩ := hS
  have S := fnScB_ok h1
  have hcall : ∀ ds, callD P (k + 1) e.id ds = runD (callD P k) e.D ds := fun ds => by
    show (match P e.id with
      | some D => runD (callD P k) D ds
      | none => .bad) = _
    rw [hP]
  have run_ok : ∀ {ds v outs}, runD (callD P k) e.D ds = .ok (v, outs) → ds.length = e.D.ps ∧ ∃ r, evSs (callD P k) e.D.body (ds.map some ++ List.replicate (e.D.n - e.D.ps) none) = .ok r ∧ ((∃ env, r = .rt v env ∧ outsOf env e.D.io = .ok outs) ∨ (∃ env, r = .nx env ∧ v = .none ∧ outsOf env e.D.io = .ok outs)) := fun {ds v outs} h => by
    unfold runD at h
    split at h
    · rename_i hl
      obtain ⟨r, er, h⟩ := R.bind_eq_ok h
      refine ⟨hl, r, er, ?_⟩
      cases r with
      | rt u env =>
        obtain ⟨os, eo, h⟩ := R.bind_eq_ok (show (outsOf env e.D.io >>= fun os => R.ok (u, os)) = .ok (v, outs) from h)
        cases h
        exact .inl ⟨env, rfl, eo⟩
      | nx env =>
        obtain ⟨os, eo, h⟩ := R.bind_eq_ok (show (outsOf env e.D.io >>= fun os => R.ok (PyData.none, os)) = .ok (v, outs) from h)
        cases h
        exact .inr ⟨env, rfl, rfl, eo⟩
      | bk env => cases h
      | ct env => cases h
    · cases h
  have psN : e.ps.length ≤ e.N.length := by have := congrArg List.length S.pre; rw [List.length_take] at this; omega
  refine F.ok S (fun vs H Q E h => ?_) fun cdv A outer s H vs Q E hr h => ⟨rdSs K w (callD P k) e.D.io e.D.body, PSs.nox (pss_nodoc (ok_Ss HR e.D.body ⟨⟨S.nd, rfl, hr, fre, ih, glo⟩, rfl, S.kind, rfl⟩ h2)), ?_⟩
  · obtain ⟨F1, ds, as, v, outs, _, Ar, ef, _⟩ := h
    rw [hcall] at ef
    rw [Ar.len, (run_ok ef).1, h5]
  · obtain ⟨F1, ds, as, v, outs, hF, Ar, ef, q⟩ := h
    rw [hcall] at ef
    obtain ⟨hl, r, er, hr2⟩ := run_ok ef
    rw [← hl] at er
    unfold owD at h3
    cases ho : owSs e.D.io e.D.io e.D.body with
    | none => rw [ho] at h3; cases h3
    | some fl =>
      rw [ho] at h3
      have h3 : keeps e.D.io fl.nx = true := h3
      have ent := SR.entry (N := e.N) (n := e.D.n) hF Ar h4 (by omega)
      refine ⟨e.D.io.zip as, F1, F1, _, e.D.io, _, r, fl, fun p hp => (List.of_mem_zip hp).1, ent, er, ho, ?_⟩
      -- the end: what the caller wants
      have fin : ∀ (env : Env) (O' : Sl) (x : V) (d : AV) (σ' : L2.St) (F' H' : Hp), outsOf env e.D.io = .ok outs → (∀ i ∈ e.D.io, i ∈ O') → SR K w (e.D.io.zip as) F1 F' (fun a => if a ∈ as then none else H a) O' σ' H' env → Same F1 F' → Rep K w F' x d → d = v → Q x H' := fun env O' x d σ' F' H' eo hi S' f' rx hd => by
        subst hd
        obtain ⟨ol, og⟩ := outs_ok eo
        have own : ∀ (a : Addr) (j : Nat), as[j]? = some a → ∃ i d, e.D.io[j]? = some i ∧ outs[j]? = some d ∧ OwnV K w F' (fun _ => none) H' (.ref a) d ∧ F' a = none := fun a j hj => by
          have hjl : j < as.length := (List.getElem?_eq_some_iff.mp hj).1
          have hj2 : j < e.D.io.length := by rw [← Ar.al]; exact hjl
          have hj3 : j < outs.length := by rw [ol]; exact hj2
          have hio := idx_zip (List.getElem?_eq_getElem hj2) hj
          have hou := idx_zip (List.getElem?_eq_getElem hj2) (List.getElem?_eq_getElem hj3)
          obtain ⟨o1, o2⟩ := og _ hou
          have hin : e.D.io[j] ∈ O' := hi _ (List.getElem_mem hj2)
          obtain ⟨u, g1, g2, _⟩ := S'.slot _ _ o1
          have g3 := S'.io _ hio hin
          rw [g1] at g3
          cases g3
          have ow := g2 hin
          obtain ⟨n1, _⟩ := ow.none_of rfl o2
          exact ⟨_, _, List.getElem?_eq_getElem hj2, List.getElem?_eq_getElem hj3, ow.bare, n1⟩
        refine q x F' H' f' S'.fh (fun a o ha => ?_) (fun a o ha hn => S'.bh a o ((if_neg hn).trans ha)) (fun p hp => ?_) rx
        · rcases S'.fb a o ha with z | z
          · exact .inl z
          · have z : (if a ∈ as then none else H a) = none := z
            split at z
            · rename_i hm
              obtain ⟨j, hj, ej⟩ := List.getElem_of_mem hm
              obtain ⟨_, _, _, _, _, n1⟩ := own a j (by rw [List.getElem?_eq_getElem hj, ej])
              rw [n1] at ha; cases ha
            · exact .inr z
        · obtain ⟨j, j1, j2⟩ := zip_idx (a := p.1) (b := p.2) hp
          obtain ⟨_, d2, _, k2, k3, _⟩ := own p.1 j j1
          rw [j2] at k2
          cases k2
          exact k3
      rcases hr2 with ⟨env, rfl, eo⟩ | ⟨env, rfl, rfl, eo⟩
      · exact fun O' x σ' F' H' hi S' f' rx => fin env O' x v σ' F' H' eo hi S' f' rx rfl
      · exact fun O' hO σ' F' H' S' f' => fin env O' .non .none σ' F' H' eo (keeps_some h3 hO) S' f' .non rfl
/-- all defs, by the depth of their calls -/
theorem all_ok {P : Tab} {prog : Program} {mg : Str → Option Value} {base : Heap} (HR : ∀ k c, Good P k c → Rls c) (fre : ∀ x ∈ bnames, mg x = none) (glo : ∀ y a, P.g y = some a → ∃ v u, mg y = some u ∧ RelV v u ∧ ∀ F, Rep K w F v a)
    (hT : ∀ f D, P f = some D → ∃ (e : Src) (fa : Addr) (fd : FuncData), e.id = f ∧ e.D = D ∧ srcB P e = true ∧ FunD K e.x e.x e.params e.body e.scope [] [] fa fd ∧ mg (P.nm f) = some (.ref fa) ∧ Binds K fd e.ps []) :
    ∀ (k : Nat) (f : Nat) (D : Def), P f = some D → ∃ (fa : Addr) (fd : FuncData) (ps : List Str), FnOk prog w K mg base CX0 k fa fd ps (spD K w (callD P k f) D.io) ∧ mg (P.nm f) = some (.ref fa) ∧ PySem.W.keepIn K (.ref fa) = true ∧ Binds K fd ps []
  | 0, f, D, hP => by
    obtain ⟨e, fa, fd, rfl, rfl, hS, F, hm, hb⟩ := hT f D hP
    refine ⟨fa, fd, e.ps, ⟨fun vs H Q E h => ?_, fun A outer s H args us vs Q E _ _ _ _ h => ?_⟩, hm, F.kp, hb⟩
    · obtain ⟨_, _, _, _, _, _, _, ef, _⟩ := h
      cases ef
    · obtain ⟨_, _, _, _, _, _, _, ef, _⟩ := h
      cases ef
  | k + 1, f, D, hP => by
    obtain ⟨e, fa, fd, rfl, rfl, hS, F, hm, hb⟩ := hT f D hP
    exact ⟨fa, fd, e.ps, def_ok (HR k) hP hS F fre glo (all_ok HR fre glo hT k), hm, F.kp, hb⟩
end
/-! ### a law's end -/
theorem lstX_of {K : PySem.W.Frag} {h : Heap} {H : Hp} {a : Addr} {vs : List Value} {ns : List Int} (KX : K.In h) (ho : h.get? a = some { cls := .type "list", data := .seq vs.toArray }) (hi : IntsAre vs ns) (hl : ns.length ≤ sizeLine) (hS : SqL K H a (ns.map V.int)) : LstX K H a (ns.map V.int) := by
  rcases hS with hS | ⟨o, its, n, hk, _, _, hd, hz, rv⟩
  · exact .inl hS
  · have e := KX a o hk
    rw [ho] at e
    cases e
    exact .inr ⟨vs, _, hk, by rw [hi.length]; exact hl, vals_ints hi⟩
theorem rep_ints {K : PySem.W.Frag} {w : World} {F : Hp} : ∀ ns : List Int, RepL K w F (ns.map V.int) (ns.map PyData.int)
  | [] => .nil
  | n :: ns => .cons (.int n) (rep_ints ns)
/-- the law's own promise at its script -/
theorem law_sp {K : PySem.W.Frag} {w : World} {f : List AV → R (AV × List AV)} {H : Hp} {a : Addr} {ns : List Int} {E : XK} (h : f [.list (ns.map .int)] = .ok (.bool true, [])) (hS : LstX K H a (ns.map V.int)) : spD K w f [] [.ref a] H (fun v _ => v = .bl true) E := by
  refine ⟨H, [.list (ns.map .int)], [], _, [], Same.refl _, ⟨rfl, fun j v d _ e1 e2 => ?_, fun p hp => by simp at hp, rfl, List.nodup_nil⟩, h, fun r F' H' _ _ _ _ _ hr => by cases hr; rfl⟩
  cases j with
  | zero => simp at e1 e2; subst e1; subst e2; exact .lst hS (rep_ints ns)
  | succ j => simp at e1
theorem walk_ofX {l : PySem.W.OpenLaw} {n k : Nat} {q : Program} {loose : List Str} {XP : (Str → Option Value) → Heap → Prop} {YP : World → Heap → Prop} {d : DefRec} {x : Str} {f : List AV → R (AV × List AV)}
    (hn : l.most = some n) (hn2 : n ≤ sizeLine) (hdf : d.params.defaults = []) (hr : Room k callerA) (hf : ∀ ns : List Int, ns.length ≤ n → f [.list (ns.map .int)] = .ok (.bool true, []))
    (G : ∀ (w : World) (mg : Str → Option Value) (fa : Addr) (h : Heap), YP w h → h.Ns mainGlobals mg → mg d.name = some (.ref fa) →
      ∃ (K : PySem.W.Frag) (fd : FuncData), K.In h ∧ (∀ (s : Shared) (u : Value), BindsTo s fd ⟨[u], []⟩ [(x, u)]) ∧ ∀ base : Heap, K.In base → base.Ns mainGlobals mg → FnOk l.prog w K mg base CX0 k fa fd [x] (spD K w f [])) :
    PySem.W.WalkO q loose XP YP l.row.toRowW d [] (fun f vs => PySem.call f vs) := by
  refine Att.attach_call hn hdf fun w t₀ t₁ mg mb fa o pm cd doc a vs ns Gr Y ho hd hcd hmg hob hin hle hge => ?_
  obtain ⟨K, fd, KX, hb, hF⟩ := G w mg fa _ Y Gr.T.g hmg
  have hz := Nat.le_trans hle hn2
  exact law_call KX Gr.T.g Gr.T.b Gr.T.builtins Gr.T.nolimit hge hob hin hz hr hF hb (fun H _ hS => law_sp (hf ns hle) (lstX_of KX hob hin hz hS)) fun H e s' z => z
end Ev
end

section
set_option linter.all false
set_option autoImplicit false
set_option maxRecDepth 100000
set_option maxHeartbeats 2000000
/-! EvV: built-ins by values. -/
namespace Ev
open PySem PySem.Spec PyProof.Rows L2
section
variable {X : Cx}
theorem op_fdivE {b : Bool} : OpR X (binaryOp .FloorDiv) (rOp X.K X.w (binop .fdiv) b) := by
  intro pins s σ H x y v u Q I rx ry ⟨F, dx, dy, d, hF, ox, oy, e, q⟩
  cases dx with
  | int i => cases dy with
    | int j =>
      have ex := ox.intE; have ey := oy.intE; subst ex ey
      have e' : (if (decide (j ≠ 0) && decide (j.natAbs < 1073741824)) = true then R.ok (PyData.int (i.fdiv j)) else if (decide (0 < j) && wide i && wide j) = true then .ok (.int (i.fdiv j)) else .bad) = .ok d := e
      split at e'
      · rename_i hc
        cases e'
        simp only [Bool.and_eq_true, decide_eq_true_eq] at hc
        exact op_fdivN pins s σ H _ _ v u Q I rx ry ⟨i, j, rfl, rfl, hc, q.imm rfl hF (.int _)⟩
      · split at e'
        · rename_i hc
          cases e'
          simp only [Bool.and_eq_true, decide_eq_true_eq] at hc
          refine op_fdivW pins s σ H _ _ v u Q I rx ry ⟨i, j, rfl, rfl, ⟨hc.1.1, by have := wide_of hc.2; omega⟩, ?_⟩
          have ed : i.fdiv j = i / j := Int.fdiv_eq_ediv_of_nonneg i (by omega)
          rw [ed] at q
          exact q.imm rfl hF (.int _)
        · cases e'
    | _ => simp [binop] at e
  | _ => cases dy <;> simp [binop] at e
theorem op_modE {b : Bool} : OpR X (binaryOp .Mod) (rOp X.K X.w (binop .mod) b) := by
  intro pins s σ H x y v u Q I rx ry ⟨F, dx, dy, d, hF, ox, oy, e, q⟩
  cases dx with
  | int i => cases dy with
    | int j =>
      have ex := ox.intE; have ey := oy.intE; subst ex ey
      have e' : (if decide (j ≠ 0) = true then R.ok (PyData.int (i.fmod j)) else .bad) = .ok d := e
      split at e'
      · rename_i hc
        cases e'
        exact op_modN pins s σ H _ _ v u Q I rx ry ⟨i, j, rfl, rfl, of_decide_eq_true hc, q.imm rfl hF (.int _)⟩
      · cases e'
    | _ => simp [binop] at e
  | _ => cases dy <;> simp [binop] at e
theorem op_powE {b : Bool} : OpR X (binaryOp .Pow) (rOp X.K X.w (binop .pow) b) := by
  intro pins s σ H x y v u Q I rx ry ⟨F, dx, dy, d, hF, ox, oy, e, q⟩
  cases dx with
  | int i => cases dy with
    | int j =>
      have ex := ox.intE; have ey := oy.intE; subst ex ey
      have e' : (if (decide (0 ≤ j) && decide (j ≤ 1000) && smallI i) = true then R.ok (PyData.int (i ^ j.toNat)) else .bad) = .ok d := e
      split at e'
      · rename_i hc
        cases e'
        simp only [Bool.and_eq_true, decide_eq_true_eq] at hc
        have hs := small_of hc.2
        exact op_pow pins s σ H _ _ v u Q I rx ry ⟨i, j, rfl, rfl, ⟨hc.1.1, by omega, by omega⟩, q.imm rfl hF (.int _)⟩
      · cases e'
    | _ => simp [binop] at e
  | _ => cases dy <;> simp [binop] at e
theorem in_seq {neg : Bool} (hu : X.A.units + 65 < cLine) {pins : List (Addr × Obj)} {s : Shared} {σ : L2.St} {H F : Hp} {x y : V} {v u : Value} {Q : VK} {dx dy d : AV} {b : Bool} (I : Inv X pins σ H s) (rx : RelV x v) (ry : RelV y u) (hF : Same F H) (ox : Opd X.K X.w F H x dx) (oy : Opd X.K X.w F H y dy)
    {k : Bool} (e : inop dx dy = .ok k) (q : Res X.K X.w b F H (.bool (if neg then !k else k)) Q) : wpAny (model X.prog X.w) X.A (compareOp (if neg then .NotIn else .In) v u) (EP X pins σ Q) X.xe s := by
  have fin : ∀ r : Bool, r = (if neg then !k else k) → EP X pins σ Q (.bool r) s := fun r hr => by subst hr; exact ⟨.bl _, H, I, rfl, q.imm rfl hF (.bl _)⟩
  cases dy with
  | list xs =>
    have e : (if (dx.plain && PyData.plainAll xs && decide (Nat.min (PyData.depthAll xs) dx.depth ≤ 48)) = true then R.ok (xs.any fun y => PyData.eqv y dx) else .bad) = .ok k := e
    split at e
    · rename_i hc
      cases e
      simp only [Bool.and_eq_true, decide_eq_true_eq] at hc
      obtain ⟨as, r1⟩ := ox.reads I hF hc.1.1 rx
      obtain ⟨bs, r2⟩ := oy.reads I hF (by simpa [PyData.plain] using hc.1.2) ry
      have hd : min (PyData.depthAll xs) dx.depth ≤ 48 := hc.2
      cases neg with
      | false => exact SeqAt.in_list_data r2 r1 hc.1.2 hc.1.1 (by omega) (fin _ rfl)
      | true => exact SeqAt.notIn_list_data r2 r1 hc.1.2 hc.1.1 (by omega) (fin _ rfl)
    · cases e
  | tuple xs =>
    have e : (if (dx.plain && PyData.plainAll xs && decide (Nat.min (PyData.depthAll xs) dx.depth ≤ 48)) = true then R.ok (xs.any fun y => PyData.eqv y dx) else .bad) = .ok k := e
    split at e
    · rename_i hc
      cases e
      simp only [Bool.and_eq_true, decide_eq_true_eq] at hc
      obtain ⟨as, r1⟩ := ox.reads I hF hc.1.1 rx
      obtain ⟨bs, r2⟩ := oy.reads I hF (by simpa [PyData.plain] using hc.1.2) ry
      have hd : min (PyData.depthAll xs) dx.depth ≤ 48 := hc.2
      cases neg with
      | false => exact SeqAt.in_tuple_data r2 r1 hc.1.2 hc.1.1 (by omega) (fin _ rfl)
      | true => exact SeqAt.notIn_tuple_data r2 r1 hc.1.2 hc.1.1 (by omega) (fin _ rfl)
    · cases e
  | str z => cases dx with
    | str a =>
      have ex := ox.strE; have ey := oy.strE; subst ex ey
      cases e
      cases neg with
      | false => exact op_in_str pins s σ H _ _ v u Q I rx ry ⟨a, z, rfl, rfl, q.imm rfl hF (.bl _)⟩
      | true => exact op_notin_str pins s σ H _ _ v u Q I rx ry ⟨a, z, rfl, rfl, q.imm rfl hF (.bl _)⟩
    | _ => cases e
  | _ => cases e
theorem op_inE {b : Bool} (hu : X.A.units + 65 < cLine) : OpR X (compareOp .In) (rOp X.K X.w (cmpop .in_) b) := by
  intro pins s σ H x y v u Q I rx ry ⟨F, dx, dy, d, hF, ox, oy, e, q⟩
  obtain ⟨k, e1, e2⟩ := R.bind_eq_ok (show (inop dx dy >>= fun k => R.ok (PyData.bool k)) = .ok d from e)
  cases e2
  exact in_seq (neg := false) (d := .none) hu I rx ry hF ox oy e1 q
theorem op_ninE {b : Bool} (hu : X.A.units + 65 < cLine) : OpR X (compareOp .NotIn) (rOp X.K X.w (cmpop .nin) b) := by
  intro pins s σ H x y v u Q I rx ry ⟨F, dx, dy, d, hF, ox, oy, e, q⟩
  obtain ⟨k, e1, e2⟩ := R.bind_eq_ok (show (inop dx dy >>= fun k => R.ok (PyData.bool (!k))) = .ok d from e)
  cases e2
  exact in_seq (neg := true) (d := .none) hu I rx ry hF ox oy e1 q
theorem ix_E : IxR X (rOp X.K X.w idxop false) := by
  intro value slice pins s σ H x y v u Q I rx ry ⟨F, dx, dy, d, hF, ox, oy, e, q⟩ hs
  cases dx with
  | list xs => cases dy with
    | int i =>
      have ey := oy.intE; subst ey
      obtain ⟨a, us, rfl, hq, hr⟩ := ox.listE
      have e : (match ixOf xs.length i with
        | some k => match xs[k]? with
          | some v => R.ok v
          | none => .bad
        | none => .bad) = .ok d := e
      cases hk : ixOf xs.length i with
      | none => rw [hk] at e; cases e
      | some k =>
        rw [hk] at e
        have e : (match xs[k]? with
          | some v => R.ok v
          | none => .bad) = .ok d := e
        cases hx : xs[k]? with
        | none => rw [hx] at e; cases e
        | some z =>
          rw [hx] at e
          cases e
          obtain ⟨zv, g1, g2⟩ := hr.get hx
          refine ix_list value slice pins s σ H _ _ v u Q I rx ry ⟨a, us, i, zv, rfl, rfl, hq.sql, ?_, q.old hF g2⟩ hs
          unfold atI
          rw [hr.length, ← ixOf_eq, hk]
          exact g1
    | _ => simp [idxop] at e
  | tuple xs => cases dy with
    | int i =>
      have ey := oy.intE; subst ey
      obtain ⟨a, us, rfl, hq, hr⟩ := ox.tupE
      have e : (match ixOf xs.length i with
        | some k => match xs[k]? with
          | some v => R.ok v
          | none => .bad
        | none => .bad) = .ok d := e
      cases hk : ixOf xs.length i with
      | none => rw [hk] at e; cases e
      | some k =>
        rw [hk] at e
        have e : (match xs[k]? with
          | some v => R.ok v
          | none => .bad) = .ok d := e
        cases hx : xs[k]? with
        | none => rw [hx] at e; cases e
        | some z =>
          rw [hx] at e
          cases e
          obtain ⟨zv, g1, g2⟩ := hr.get hx
          refine ix_tup value slice pins s σ H _ _ v u Q I rx ry ⟨a, us, i, zv, rfl, rfl, Same.tup hF hq, ?_, q.old hF g2⟩ hs
          unfold atI
          rw [hr.length, ← ixOf_eq, hk]
          exact g1
    | _ => simp [idxop] at e
  | _ => cases dy <;> simp [idxop] at e
theorem slIx_eq (n d : Nat) (o : Option Int) : slIx n d o = HT.sIx n d o := by
  cases o with
  | none => rfl
  | some i => rfl
theorem RepL.cut {K : PySem.W.Frag} {w : World} {F : Hp} {us : List V} {xs : List AV} {lo hi : Option Int} (r : RepL K w F us xs) : RepL K w F (cutV us lo hi) (cutL xs lo hi) := by
  unfold cutV cutL
  rw [slIx_eq, slIx_eq, r.length]
  exact (r.drop _).take _
theorem sl_E {b : Bool} : SlR X (rSlc X.K X.w b) := by
  intro pins s σ H x v vl vu lo hi sl Q I rx hs pl pu ⟨F, dx, d, hF, ox, e, q⟩
  cases dx with
  | list xs =>
    obtain ⟨a, us, rfl, hq, hr⟩ := ox.listE
    cases e
    exact sl_list pins s σ H _ v vl vu lo hi sl Q I rx hs pl pu ⟨a, us, rfl, hq.sql, fun p hp => q.newL hF hr.cut hp⟩
  | tuple xs =>
    obtain ⟨a, us, rfl, hq, hr⟩ := ox.tupE
    cases e
    refine sl_tupA pins s σ H _ v vl vu lo hi sl Q I rx hs pl pu ⟨a, us, rfl, Same.tup hF hq, fun hw => ?_, fun _ p hp => q.newT hF hr.cut hp⟩
    have e1 : cutL xs lo hi = xs := by
      have hw' := hw
      rw [hr.length, ← slIx_eq, ← slIx_eq] at hw'
      unfold cutL
      rw [hw'.1, hw'.2]
      simp
    rw [e1] at q
    exact q.imm rfl hF (.tup hq hr)
  | _ => cases e
/-! ### built-ins with one argument -/
/-- from a rule by values to the call's reading -/
theorem callB1 {f : AV → R AV} {b : Bool} {nm : Str} {id : String} {l : Expr} {t : TE} {p pos : Pos} (h : CallR X (.builtin id) (fun vs H Q => ∃ x, vs = [x] ∧ rUn X.K X.w f b x H Q)) (hg : Gl X nm) (hm : X.mg nm = none) (hv : bootBuiltins nm = some (.builtin id)) (hl : PE X l t) (hs : stE l = false)
    (hn : nm ≠ "__name__") (hd : (nm == ("__debug__" : Str)) = false) : PE X (.Call (.Name nm p) [l] [] pos) (tUn (rUn X.K X.w f b) t) :=
  (pe_callB h hg hm hv (pa_cons hl pa_nil (star_plain hs)) hn hd (star_plain hs) rfl).imp fun σ H Q q => by
    have q : t σ H fun x H1 => rUn X.K X.w f b x H1 Q := q
    show t σ H fun x H1 => ∃ y, [x] = [y] ∧ rUn X.K X.w f b y H1 Q
    have e : (fun x H1 => rUn X.K X.w f b x H1 Q) = fun x H1 => ∃ y, [x] = [y] ∧ rUn X.K X.w f b y H1 Q := by
      funext x H1
      exact propext ⟨fun h => ⟨x, rfl, h⟩, fun ⟨y, e, h⟩ => by cases e; exact h⟩
    rw [← e]
    exact q
theorem callT1 {f : AV → R AV} {b : Bool} {nm : Str} {T : String} {l : Expr} {t : TE} {p pos : Pos} (h : CallR X (.type T) (fun vs H Q => ∃ x, vs = [x] ∧ rUn X.K X.w f b x H Q)) (hg : Gl X nm) (hm : X.mg nm = none) (hv : bootBuiltins nm = some (.type T)) (hl : PE X l t) (hs : stE l = false)
    (hn : nm ≠ "__name__") (hd : (nm == ("__debug__" : Str)) = false) : PE X (.Call (.Name nm p) [l] [] pos) (tUn (rUn X.K X.w f b) t) :=
  (pe_callTy h hg hm hv (pa_cons hl pa_nil (star_plain hs)) hn hd (star_plain hs) rfl).imp fun σ H Q q => by
    have q : t σ H fun x H1 => rUn X.K X.w f b x H1 Q := q
    show t σ H fun x H1 => ∃ y, [x] = [y] ∧ rUn X.K X.w f b y H1 Q
    have e : (fun x H1 => rUn X.K X.w f b x H1 Q) = fun x H1 => ∃ y, [x] = [y] ∧ rUn X.K X.w f b y H1 Q := by
      funext x H1
      exact propext ⟨fun h => ⟨x, rfl, h⟩, fun ⟨y, e, h⟩ => by cases e; exact h⟩
    rw [← e]
    exact q
theorem ints_rep {K : PySem.W.Frag} {w : World} {F : Hp} : ∀ {xs : List AV} {is : List Int} {us : List V}, ints? xs = some is → RepL K w F us xs → us = is.map V.int
  | [], is, us, h, r => by cases h; cases r; rfl
  | x :: xs, is, us, h, r => by
    cases x with
    | int i =>
      have h : (ints? xs).map (i :: ·) = some is := h
      cases hx : ints? xs with
      | none => rw [hx] at h; cases h
      | some js =>
        rw [hx] at h
        cases h
        cases r with
        | cons r1 r2 =>
          cases r1
          rw [ints_rep hx r2]
          rfl
    | _ => cases h
theorem bools_rep {K : PySem.W.Frag} {w : World} {F : Hp} : ∀ {xs : List AV} {is : List Bool} {us : List V}, bools? xs = some is → RepL K w F us xs → us = is.map V.bl
  | [], is, us, h, r => by cases h; cases r; rfl
  | x :: xs, is, us, h, r => by
    cases x with
    | bool i =>
      have h : (bools? xs).map (i :: ·) = some is := h
      cases hx : bools? xs with
      | none => rw [hx] at h; cases h
      | some js =>
        rw [hx] at h
        cases h
        cases r with
        | cons r1 r2 =>
          cases r1
          rw [bools_rep hx r2]
          rfl
    | _ => cases h
abbrev r1E (X : Cx) (f : Blt) (b : Bool) : List V → Hp → VK → Prop := fun vs H Q => ∃ x, vs = [x] ∧ rUn X.K X.w (fun x => bltop f [x]) b x H Q
theorem cr_lenE {b : Bool} : CallR X (.builtin "len") (r1E X .len b) := by
  intro pins s σ H xs us Q I r ⟨x, hx, F, dx, d, hF, ox, e, q⟩
  subst hx
  refine call_len pins s σ H _ us Q I r ?_
  cases dx with
  | list ds =>
    obtain ⟨a, vs, rfl, hq, hr⟩ := ox.listE
    cases e
    exact ⟨_, vs.length, rfl, .inl ⟨vs, hq.sql, rfl⟩, by rw [hr.length]; exact q.imm rfl hF (.int _)⟩
  | tuple ds =>
    obtain ⟨a, vs, rfl, hq, hr⟩ := ox.tupE
    cases e
    exact ⟨_, vs.length, rfl, .inr ⟨vs, Same.tup hF hq, rfl⟩, by rw [hr.length]; exact q.imm rfl hF (.int _)⟩
  | str z =>
    have ex := ox.strE; subst ex
    have e : (if z.length ≤ line then R.ok (PyData.int z.length) else .bad) = .ok d := e
    split at e
    · rename_i hz
      cases e
      exact ⟨_, z.length, rfl, ⟨by rw [← line_eq]; exact hz, rfl⟩, q.imm rfl hF (.int _)⟩
    · cases e
  | _ => cases e
theorem cr_sumE {b : Bool} (hc : X.calm = true) : CallR X (.builtin "sum") (r1E X .sum b) := by
  intro pins s σ H xs us Q I r ⟨x, hx, F, dx, d, hF, ox, e, q⟩
  subst hx
  cases dx with
  | list ds =>
    obtain ⟨a, vs, rfl, hq, hr⟩ := ox.listE
    have e : (match ints? ds with
      | some is => R.ok (PyData.int is.sum)
      | none => .bad) = .ok d := e
    cases hi : ints? ds with
    | none => rw [hi] at e; cases e
    | some is =>
      rw [hi] at e
      cases e
      have hv := ints_rep hi hr
      subst hv
      exact cr_sum hc pins s σ H _ us Q I r ⟨a, is, rfl, hq.sql, q.imm rfl hF (.int _)⟩
  | _ => cases e
theorem cr_allE {b : Bool} (hc : X.calm = true) : CallR X (.builtin "all") (r1E X .all b) := by
  intro pins s σ H xs us Q I r ⟨x, hx, F, dx, d, hF, ox, e, q⟩
  subst hx
  cases dx with
  | list ds =>
    obtain ⟨a, vs, rfl, hq, hr⟩ := ox.listE
    have e : (match bools? ds with
      | some is => R.ok (PyData.bool (is.all id))
      | none => .bad) = .ok d := e
    cases hi : bools? ds with
    | none => rw [hi] at e; cases e
    | some is =>
      rw [hi] at e
      cases e
      have hv := bools_rep hi hr
      subst hv
      exact cr_all hc pins s σ H _ us Q I r ⟨a, is, rfl, hq.sql, q.imm rfl hF (.bl _)⟩
  | _ => cases e
theorem cr_anyE {b : Bool} (hc : X.calm = true) : CallR X (.builtin "any") (r1E X .any b) := by
  intro pins s σ H xs us Q I r ⟨x, hx, F, dx, d, hF, ox, e, q⟩
  subst hx
  cases dx with
  | list ds =>
    obtain ⟨a, vs, rfl, hq, hr⟩ := ox.listE
    have e : (match bools? ds with
      | some is => R.ok (PyData.bool (is.any id))
      | none => .bad) = .ok d := e
    cases hi : bools? ds with
    | none => rw [hi] at e; cases e
    | some is =>
      rw [hi] at e
      cases e
      have hv := bools_rep hi hr
      subst hv
      exact cr_any hc pins s σ H _ us Q I r ⟨a, is, rfl, hq.sql, q.imm rfl hF (.bl _)⟩
  | _ => cases e
theorem cr_listE (hc : X.calm = true) {b : Bool} : CallR X (.type "list") (r1E X .list b) := by
  intro pins s σ H xs us Q I r ⟨x, hx, F, dx, d, hF, ox, e, q⟩
  subst hx
  cases dx with
  | list ds =>
    obtain ⟨a, vs, rfl, hq, hr⟩ := ox.listE
    cases e
    exact call_list_of pins s σ H _ us Q I r ⟨a, vs, rfl, .inl hq.sql, fun p hp => q.newL hF hr hp⟩
  | tuple ds =>
    obtain ⟨a, vs, rfl, hq, hr⟩ := ox.tupE
    cases e
    exact call_list_of pins s σ H _ us Q I r ⟨a, vs, rfl, .inr (Same.tup hF hq), fun p hp => q.newL hF hr hp⟩
  | dict ds =>
    obtain ⟨a, ep, L, tk, rfl, hq, hr⟩ := ox
    cases e
    exact call_listD hc pins s σ H _ us Q I r ⟨a, L, rfl, .inl hq, fun p hp => q.newL hF hr.keys hp⟩
  | _ => cases e
theorem cr_tupleE {b : Bool} : CallR X (.type "tuple") (r1E X .tuple b) := by
  intro pins s σ H xs us Q I r ⟨x, hx, F, dx, d, hF, ox, e, q⟩
  subst hx
  cases dx with
  | list ds =>
    obtain ⟨a, vs, rfl, hq, hr⟩ := ox.listE
    cases e
    exact call_tuple_of pins s σ H _ us Q I r ⟨a, vs, rfl, .inl ⟨hq.sql, fun p hp => q.newT hF hr hp⟩⟩
  | tuple ds =>
    obtain ⟨a, vs, rfl, hq, hr⟩ := ox.tupE
    cases e
    exact call_tuple_of pins s σ H _ us Q I r ⟨a, vs, rfl, .inr ⟨Same.tup hF hq, q.imm rfl hF (.tup hq hr)⟩⟩
  | _ => cases e
theorem cr_intE {b : Bool} : CallR X (.type "int") (r1E X .int b) := by
  intro pins s σ H xs us Q I r ⟨x, hx, F, dx, d, hF, ox, e, q⟩
  subst hx
  cases dx with
  | int i =>
    have ex := ox.intE; subst ex
    cases e
    exact call_int1 pins s σ H _ us Q I r (.inl ⟨i, rfl, q.imm rfl hF (.int _)⟩)
  | bool k =>
    have ex := ox.boolE; subst ex
    cases e
    exact call_int1 pins s σ H _ us Q I r (.inr ⟨k, rfl, q.imm rfl hF (.int _)⟩)
  | _ => cases e
theorem cr_absE {b : Bool} : CallR X (.builtin "abs") (r1E X .abs b) := by
  intro pins s σ H xs us Q I r ⟨x, hx, F, dx, d, hF, ox, e, q⟩
  subst hx
  cases dx with
  | int i =>
    have ex := ox.intE; subst ex
    cases e
    exact call_abs pins s σ H _ us Q I r ⟨i, rfl, q.imm rfl hF (.int _)⟩
  | _ => cases e
theorem cr_strE {b : Bool} : CallR X (.type "str") (r1E X .str b) := by
  intro pins s σ H xs us Q I r ⟨x, hx, F, dx, d, hF, ox, e, q⟩
  subst hx
  cases dx with
  | int i =>
    have ex := ox.intE; subst ex
    have e : (if decide (i.natAbs.log2 < 1920) = true then R.ok (PyData.str (Str.ofString (toString i))) else .bad) = .ok d := e
    split at e
    · rename_i hz
      cases e
      exact call_str_int pins s σ H _ us Q I r ⟨i, rfl, of_decide_eq_true hz, q.imm rfl hF (.str _)⟩
    · cases e
  | _ => cases e
end
end Ev
end

section
set_option linter.all false
set_option autoImplicit false
set_option maxRecDepth 100000
set_option maxHeartbeats 4000000
/-! EvRv: x[::-1] of a tuple. -/
namespace Ev
open PySem PySem.Spec PyProof.Rows L2
section
variable {prog : Program} {w : World} {A : Around} {E : Value → Shared → Prop} {s : Shared}
theorem adjust_rev (n : Nat) : Builtin.Slice.sliceAdjust none none (-1) (n : Int) = ((n : Int) - 1, -1) := rfl
theorem places_rev (n : Nat) : Builtin.Slice.slicePlaces ((n : Int) - 1) (-1) (-1) = n := by
  unfold Builtin.Slice.slicePlaces
  rw [if_neg (by omega)]
  split
  · have e : ((n : Int) - 1 - -1 - 1) / -(-1 : Int) = n - 1 := by
      rw [show -(-1 : Int) = 1 from rfl, Int.ediv_one]
      omega
    rw [e]
    omega
  · omega
theorem fmap_some {α β : Type} {f : α → Option β} {g : α → β} : ∀ {l : List α}, (∀ m ∈ l, f m = some (g m)) → l.filterMap f = l.map g
  | [], _ => rfl
  | x :: l, h => by
    rw [List.filterMap_cons, h x List.mem_cons_self, List.map_cons, fmap_some fun m hm => h m (List.mem_cons_of_mem _ hm)]
theorem pick_rev (xs : Array Value) : ((List.range xs.size).filterMap fun (m : Nat) => xs[(((xs.size : Int) - 1) + (m : Int) * (-1)).toNat]?).toArray = xs.toList.reverse.toArray := by
  congr 1
  have h : ∀ m ∈ List.range xs.size, xs[(((xs.size : Int) - 1) + (m : Int) * (-1)).toNat]? = some ((xs.toList.reverse)[m]?.getD .none) := by
    intro m hm
    have hm := List.mem_range.mp hm
    have e : (((xs.size : Int) - 1) + (m : Int) * (-1)).toNat = xs.size - 1 - m := by omega
    rw [e, List.getElem?_reverse (by simpa using hm)]
    simp
    rw [Array.getElem?_eq_getElem (by omega)]
    simp
  rw [fmap_some h]
  refine List.ext_getElem (by simp) fun i h1 h2 => ?_
  simp at h1
  simp
  rw [List.getElem?_eq_getElem (by simp; omega)]
  simp
theorem applied_rev {sl : Addr} {vl vu vs : Value} {n : Nat} {Q : Int × Int × Nat → Shared → Prop} (hs : s.heap.IsSliceOf sl vl vu vs) (pl : IsPart vl none) (pu : IsPart vu none) (ps : IsPart vs (some (-1)))
    (h : Q ((n : Int) - 1, -1, n) s) : wpAny (model prog w) A (Builtin.Slice.sliceApplied (.ref sl) (pure (n : Int))) Q E s := by
  obtain ⟨os, hos, hcs, hds⟩ := id hs
  unfold Builtin.Slice.sliceApplied Builtin.Slice.sliceFields
  refine wpAny_bind (wpAny_bind (wpAny_field hos hds (x := vl) rfl (wpAny_bind (wpAny_field hos hds (x := vu) rfl (wpAny_bind (wpAny_field hos hds (x := vs) rfl (wpAny_pure ?_)))))))
  refine wpAny_bind (HT.slicePart_ ps ?_)
  show wpAny _ _ (if ((-1 : Int) == 0) = true then _ else _) _ _ s
  rw [if_neg (by decide)]
  refine wpAny_bind (HT.slicePart_ pl (wpAny_bind (HT.slicePart_ pu (wpAny_bind (wpAny_pure ?_)))))
  show wpAny _ _ (match Builtin.Slice.sliceAdjust none none (-1) (n : Int) with | (lo, hi) => pure (lo, (-1 : Int), Builtin.Slice.slicePlaces lo hi (-1))) _ _ s
  rw [adjust_rev n]
  show wpAny _ _ (pure ((n : Int) - 1, (-1 : Int), Builtin.Slice.slicePlaces ((n : Int) - 1) (-1) (-1))) _ _ s
  rw [places_rev]
  exact wpAny_pure h
theorem getItem_tuple_rev {t sl : Addr} {items : Array Value} {vl vu vs : Value} {Q : Value → Shared → Prop} (ht : IsTup s.heap t items) (hs : s.heap.IsSliceOf sl vl vu vs) (pl : IsPart vl none) (pu : IsPart vu none) (ps : IsPart vs (some (-1)))
    (h : Q (.ref s.heap.objs.size) { s with heap := s.heap.push { cls := .type "tuple", data := .seq items.toList.reverse.toArray } })
    (hsz : items.size ≤ sizeLine) : wpAny (model prog w) A (getItem (.ref t) (.ref sl)) Q E s := by
  have htake : sizeOk (.seq items.toList.reverse.toArray) := by
    show items.toList.reverse.toArray.size ≤ sizeLine
    rw [List.size_toArray, List.length_reverse, Array.length_toList]
    exact hsz
  obtain ⟨os, hos, hcs, hds⟩ := id hs
  have hTs : s.TypeIs (.ref sl) "slice" := ⟨os, hos, hcs⟩
  unfold getItem
  try with_reducible refine wpAny_holding ?_
  first | refine wpAny_bind (wpAny_pure ?_) | skip
  refine wpAny_bind (wpAny_sequenceKey ht.typeIs (by decide) ?_)
  refine wpAny_bind (wpAny_callSpecial?_slot (name := Str.ofString "__getitem__") ht.typeIs PyProof.Rows.slot_tuple_getitem
    (wpAny_call_entry PyProof.Rows.slot_tuple_getitem ht.typeIs entry_tuple_getitem ?_ (args_tuple_getitem _ _)))
  show wpAny _ _ (Builtin.Tuple.tupleItemsOf (.ref t) >>= _) _ _ s
  refine wpAny_bind (tupleItemsOf_ ht ?_)
  refine wpAny_bind (wpAny_typeOf hTs ?_)
  rw [if_pos (by decide)]
  refine wpAny_bind (applied_rev hs pl pu ps ?_)
  have hno : ¬ ((((items.size : Int) - 1) == 0 && (-1 : Int) == 1 && items.size == items.size) = true) := by
    intro q
    rw [Bool.and_eq_true, Bool.and_eq_true] at q
    exact absurd (eq_of_beq q.1.2) (by decide)
  show wpAny _ _ (if (((items.size : Int) - 1) == 0 && (-1 : Int) == 1 && items.size == items.size) = true then _ else _) _ _ s
  rw [if_neg hno, pick_rev]
  first
    | exact wpAny_bind (m := Builtin.Tuple.tupleExact _) (wpAny_newObj_type (wpAny_pure ⟨_, rfl, wpAny_pure h⟩) htake)
    | exact wpAny_bind (m := Builtin.Tuple.tupleExact _) (wpAny_newObj_type (wpAny_bind (wpAny_pure (wpAny_pure ⟨_, rfl, wpAny_pure h⟩))) htake)
    | exact wpAny_bind (wpAny_bind (m := Builtin.Tuple.tupleExact _) (wpAny_newObj_type (wpAny_pure (wpAny_pure ⟨_, rfl, wpAny_pure h⟩)) htake))
    | exact wpAny_bind (wpAny_bind (m := Builtin.Tuple.tupleExact _) (wpAny_newObj_type (wpAny_pure ⟨_, rfl, wpAny_pure h⟩) htake))
end
def tRevU (K : PySem.W.Frag) (te : TE) : TE := fun σ H Q => te σ H fun x H1 =>
  (∃ a xs, x = .ref a ∧ SqL K H1 a xs ∧ ∀ p, H1 p = none → Q (.ref p) (upd H1 p (.lst xs.reverse))) ∨ (∃ a xs, x = .ref a ∧ SqT K H1 a xs ∧ ∀ p, H1 p = none → Q (.ref p) (upd H1 p (.tup xs.reverse)))
section
variable {X : Cx}
theorem pe_revU {e : Expr} {te : TE} {k : Nat} {p1 p2 p3 pos : Pos} (he : PE X e te) : PE X (.Subscript e (.Slice none none (some (.UnaryOp .USub (.Constant (.int 1) k p1) p2)) p3) pos) (tRevU X.K te) := by
  refine ⟨fun pins s σ H Q I h => ?_⟩
  refine Subscript_ (thn (he.run pins s σ H _ I h) fun v s1 ⟨x, H1, I1, r1, q1⟩ => ?_)
  have hst : PO X (some (.UnaryOp .USub (.Constant (.int 1) k p1) p2)) (tPart (tUn (rU fun i => .int (-i)) (tC (.int 1)))) := po_some (pe_un un_neg pe_int)
  refine wpAny_Slice (thn (po_none.run pins s1 σ H1 (fun o H2 => o = none ∧ H2 = H1) I1 ⟨rfl, rfl⟩) fun vl s2 ⟨l, H2, I2, pl, el, e2⟩ => ?_)
  subst el e2
  refine thn (po_none.run pins s2 σ H2 (fun o H3 => o = none ∧ H3 = H2) I2 ⟨rfl, rfl⟩) fun vu s3 ⟨u, H3, I3, pu, eu, e3⟩ => ?_
  subst eu e3
  refine thn (hst.run pins s3 σ H3 (fun o H4 => o = some (-1) ∧ H4 = H3) I3 ⟨1, rfl, -1, rfl, rfl, rfl⟩) fun vs s4 ⟨o, H4, I4, ps, eo, e4⟩ => ?_
  subst eo e4
  have I5 : Inv X pins σ H4 { s4 with heap := s4.heap.push { cls := .type "slice", data := .fields #[vl, vu, vs] } } := I4.kept (t' := s4.toks) fun b ob q => Heap.get?_push_of_some _ q
  rcases q1 with ⟨a, xs, ex, hx, q⟩ | ⟨a, xs, ex, hx, q⟩
  · subst ex
    cases r1
    obtain ⟨its, r, ht, hz⟩ := I5.list hx
    have hlen := r.length
    show wpAny (model X.prog X.w) X.A (subscriptTail e (.Slice none none (some (.UnaryOp .USub (.Constant (.int 1) k p1) p2)) p3) (.ref a) (.ref s4.heap.objs.size)) (EP X pins σ Q) X.xe { s4 with heap := s4.heap.push { cls := .type "slice", data := .fields #[vl, vu, vs] } }
    refine tail_any (ops := [.ref a, .ref s4.heap.objs.size]) ht.isList.typeIs (PySem.slot_list_getitem.lookup) ?_ (by with_unfolding_all rfl)
    refine wpAny_getItem_list_slice ht.isList (Heap.IsSliceOf.new _ vl vu vs) pl pu ps (by decide) ?_ (by rw [List.size_toArray]; omega)
    rw [PySem.W.krv_pick]
    refine ⟨.ref _, _, I5.laid (t' := s4.toks) (o := .lst xs.reverse) (fun b ob q => Heap.get?_push_of_some _ q) (Nat.le_refl _) ?_, rfl, q _ (I5.hok.fresh (Nat.le_refl _))⟩
    exact ⟨by rw [List.length_reverse]; exact hz, _, 0, r.reverse, Heap.get?_push_size _ rfl⟩
  · subst ex
    cases r1
    obtain ⟨its, r, ht, hz⟩ := I5.tuple hx
    have hlen := r.length
    show wpAny (model X.prog X.w) X.A (subscriptTail e (.Slice none none (some (.UnaryOp .USub (.Constant (.int 1) k p1) p2)) p3) (.ref a) (.ref s4.heap.objs.size)) (EP X pins σ Q) X.xe { s4 with heap := s4.heap.push { cls := .type "slice", data := .fields #[vl, vu, vs] } }
    refine tail_any (ops := [.ref a, .ref s4.heap.objs.size]) ht.typeIs (PyProof.Rows.slot_tuple_getitem.lookup) ?_ (by with_unfolding_all rfl)
    refine getItem_tuple_rev ht (Heap.IsSliceOf.new _ vl vu vs) pl pu ps ?_ (by rw [List.size_toArray]; omega)
    refine ⟨.ref _, _, I5.laid (t' := s4.toks) (o := .tup xs.reverse) (fun b ob q => Heap.get?_push_of_some _ q) (Nat.le_refl _) ?_, rfl, q _ (I5.hok.fresh (Nat.le_refl _))⟩
    refine ⟨by rw [List.length_reverse]; exact hz, _, r.reverse, ?_⟩
    exact IsTup.new _ _
end
end Ev
end

section
set_option linter.all false
set_option autoImplicit false
set_option maxRecDepth 100000
set_option maxHeartbeats 2000000
/-! EvW: isinstance, ranges, more. -/
namespace Ev
open PySem PySem.Spec PyProof.Rows L2
/-- the type's name of a value -/
def tyN : AV → String
  | .none => "NoneType"
  | .bool _ => "bool"
  | .int _ => "int"
  | .str _ => "str"
  | .list _ => "list"
  | .tuple _ => "tuple"
  | .dict _ => "dict"
section
variable {X : Cx}
theorem tyx_of {K : PySem.W.Frag} {w : World} {F H : Hp} {x : V} {d : AV} (hF : Same F H) (o : Opd K w F H x d) (hd : ∀ kvs, d ≠ .dict kvs) : TyX K H x (.type (tyN d)) := by
  cases d with
  | none => rw [o.noneE]; exact .base .non
  | bool b => rw [o.boolE]; exact .base (.bl b)
  | int b => rw [o.intE]; exact .base (.int b)
  | str b => rw [o.strE]; exact .base (.str b)
  | list ds =>
    obtain ⟨a, us, rfl, hq, _⟩ := o.listE
    rcases hq with (h | ⟨ob, h⟩) | ⟨its, n, h, _, _⟩
    · exact .base (.lst h)
    · exact .base (.frz h)
    · exact .kList h rfl
  | tuple ds =>
    obtain ⟨a, us, rfl, hq, _⟩ := o.tupE
    rcases Same.tup hF hq with (h | ⟨ob, h⟩) | ⟨ob, its, n, h, hc, _⟩
    · exact .base (.tup h)
    · exact .fTuple h
    · exact .kTuple h hc
  | dict ds => exact absurd rfl (hd ds)
/-- which built-in classes a type answers to -/
def isOf (t c : String) : Bool := (t == c) || (t == "bool" && c == "int")
theorem kit_ok {K : PySem.W.Frag} {d : AV} {c : String} (hd : ∀ kvs, d ≠ .dict kvs) (hc : c ∈ ["int", "bool", "tuple", "str", "list"]) : PySem.W.kitOne K (.type (tyN d)) (.type c) = some (isOf (tyN d) c) := by
  simp only [List.mem_cons, List.not_mem_nil, or_false] at hc
  cases d with
  | dict kvs => exact absurd rfl (hd kvs)
  | none => rcases hc with rfl | rfl | rfl | rfl | rfl <;> rfl
  | bool _ => rcases hc with rfl | rfl | rfl | rfl | rfl <;> rfl
  | int _ => rcases hc with rfl | rfl | rfl | rfl | rfl <;> rfl
  | str _ => rcases hc with rfl | rfl | rfl | rfl | rfl <;> rfl
  | list _ => rcases hc with rfl | rfl | rfl | rfl | rfl <;> rfl
  | tuple _ => rcases hc with rfl | rfl | rfl | rfl | rfl <;> rfl
/-- a reading's closure -/
def up (t : TE) : TE := fun σ H Q => ∃ Q0 : VK, t σ H Q0 ∧ ∀ v H, Q0 v H → Q v H
theorem pe_up {e : Expr} {t : TE} (h : PE X e t) : PE X e (up t) := ⟨fun pins s σ H Q I ⟨Q0, q, hq⟩ => thn (h.run pins s σ H Q0 I q) fun u s1 ⟨v, H1, I1, r1, q1⟩ => ⟨v, H1, I1, r1, hq _ _ q1⟩⟩
def isN : Blt → Option String
  | .isInt => some "int"
  | .isBool => some "bool"
  | .isTup => some "tuple"
  | .isStr => some "str"
  | .isList => some "list"
  | _ => none
theorem isN_ok {f : Blt} {c : String} {dx d : AV} (hf : isN f = some c) (h : bltop f [dx] = .ok d) : (∀ kvs, dx ≠ .dict kvs) ∧ d = .bool (isOf (tyN dx) c) ∧ c ∈ ["int", "bool", "tuple", "str", "list"] := by
  cases f <;> first
    | (cases hf; done)
    | (cases hf; cases dx <;> first | (cases h; done) | (cases h; exact ⟨(fun _ z => nomatch z), rfl, by simp⟩))
theorem isi1_ok {f : Blt} {c : String} {b : Bool} {l : Expr} {t : TE} {p q pos : Pos} {nm : Str} (hf : isN f = some c) (hl : PE X l t) (hs : stE l = false) (hg : Gl X "isinstance") (hm : X.mg "isinstance" = none) (hgT : Gl X nm) (hmT : X.mg nm = none) (hb : bootBuiltins nm = some (.type c)) (hn : nm ≠ "__name__") (hd : (nm == ("__debug__" : Str)) = false) :
    PE X (.Call (.Name "isinstance" p) [l, .Name nm q] [] pos) (tUn (rUn X.K X.w (fun x => bltop f [x]) b) t) :=
  (pe_callB call_isi hg hm PyProof.Rows.boot_isinstance (pa_cons (pe_up hl) (pa_cons (pe_bltn (v := .ty c) hgT hmT hb rfl hn hd) pa_nil) (star_plain hs)) (by decide) (by decide) (star_plain hs) rfl).imp fun σ H Q h => ⟨_, h, fun v H1 ⟨F, dx, d, hF, ox, e, q⟩ => by
    obtain ⟨h1, h2, h3⟩ := isN_ok hf e
    subst h2
    exact ⟨v, .ty c, _, .type c, _, rfl, .ty c, tyx_of hF ox h1, kit_ok h1 h3, q.imm rfl hF (.bl _)⟩⟩
theorem isTL_ok {b : Bool} {l : Expr} {t : TE} {p q1 q2 q3 pos : Pos} {k : Nat} (hl : PE X l t) (hs : stE l = false) (hg : Gl X "isinstance") (hm : X.mg "isinstance" = none) (hg1 : Gl X "tuple") (hm1 : X.mg "tuple" = none) (hg2 : Gl X "list") (hm2 : X.mg "list" = none) :
    PE X (.Call (.Name "isinstance" p) [l, .Tuple [.Name "tuple" q1, .Name "list" q2] k q3] [] pos) (tUn (rUn X.K X.w (fun x => bltop .isTL [x]) b) t) :=
  (pe_callB call_isiT hg hm PyProof.Rows.boot_isinstance (pa_cons (pe_up hl) (pa_cons (pe_tup (pa_cons (pe_bltn (v := .ty "tuple") hg1 hm1 PyProof.Rows.boot_tuple rfl (by decide) (by decide)) (pa_cons (pe_bltn (v := .ty "list") hg2 hm2 PyProof.Rows.boot_list rfl (by decide) (by decide)) pa_nil))) pa_nil) (star_plain hs)) (by decide) (by decide) (star_plain hs) rfl).imp fun σ H Q h => ⟨_, h, fun v H1 ⟨F, dx, d, hF, ox, e, q⟩ => by
    refine ⟨by show 2 ≤ sizeLine; decide, fun tp hp => ?_⟩
    have hd : ∀ kvs, dx ≠ .dict kvs := fun kvs z => by subst z; cases e
    have hX := ext_new (o := .tup [V.ty "tuple", V.ty "list"]) hF hp
    have key : PySem.W.kitAny X.K (.type (tyN dx)) [.type "tuple", .type "list"] = some (isOf (tyN dx) "tuple" || isOf (tyN dx) "list") := by
      show (match PySem.W.kitOne X.K (.type (tyN dx)) (.type "tuple") with
        | some true => some true
        | some false => (match PySem.W.kitOne X.K (.type (tyN dx)) (.type "list") with
          | some true => some true
          | some false => some false
          | none => none)
        | none => none) = _
      rw [kit_ok hd (by simp), kit_ok hd (by simp)]
      cases isOf (tyN dx) "tuple" <;> cases isOf (tyN dx) "list" <;> rfl
    have dv : d = .bool (isOf (tyN dx) "tuple" || isOf (tyN dx) "list") := by
      cases dx <;> first | (cases e; rfl) | exact absurd rfl (hd _)
    subst dv
    exact ⟨v, tp, [V.ty "tuple", V.ty "list"], _, [.type "tuple", .type "list"], _, rfl, upd_same, .cons (.ty _) (.cons (.ty _) .nil), tyx_of (hF.trans (same_upd' hp)) (Opd.ext (Same.refl _) (same_upd' hp) ox) hd, key, q _ F _ hX (fun _ => NewV.of_rep rfl (.bl _)) fun _ => .bl _⟩⟩
/-! ### ranges -/
theorem rgV_rep {K : PySem.W.Frag} {w : World} {F : Hp} {a b : Int} : RepL K w F (rgV a b) (rangeD a b) := by
  unfold rgV rangeD
  generalize List.range (b - a).toNat = l
  induction l with
  | nil => exact .nil
  | cons i l ih => exact .cons (.int _) ih
theorem rgOk_of {a b : Int} (h1 : okRng a = true) (h2 : okRng b = true) (hz : (rangeD a b).length ≤ sizeLine) : RgOk a b := by
  unfold okRng at h1 h2
  simp only [Bool.and_eq_true, decide_eq_true_eq] at h1 h2
  rw [rangeD_length, sizeLine_eq] at hz
  exact ⟨by omega, by omega, by omega, by omega, by omega⟩
theorem lrng1_ok {b : Bool} {l : Expr} {t : TE} {p p2 pos pos2 : Pos} (hc : X.calm = true) (hl : PE X l t) (hs : stE l = false) (hg : Gl X "list") (hm : X.mg "list" = none) (hg2 : Gl X "range") (hm2 : X.mg "range" = none) :
    PE X (.Call (.Name "list" p) [.Call (.Name "range" p2) [l] [] pos2] [] pos) (tUn (rUn X.K X.w (fun x => bltop .lrng1 [x]) b) t) :=
  (pe_listRg hc hg hm (prg_1 hg2 hm2 (pe_up hl) (star_plain hs))).imp fun σ H Q h => ⟨_, h, fun v H1 ⟨F, dx, d, hF, ox, e, q⟩ => by
    cases dx with
    | int n =>
      have ex := ox.intE; subst ex
      have e : (if okRng n = true then lstR (rangeD 0 n) else .bad) = .ok d := e
      split at e
      · rename_i hr
        obtain ⟨rfl, hz⟩ := lstR_ok e
        exact ⟨n, rfl, rgOk_of (by decide) hr hz, fun p hp => q.newL hF rgV_rep hp⟩
      · cases e
    | _ => cases e⟩
theorem trng1_ok {b : Bool} {l : Expr} {t : TE} {p p2 pos pos2 : Pos} (hc : X.calm = true) (hl : PE X l t) (hs : stE l = false) (hg : Gl X "tuple") (hm : X.mg "tuple" = none) (hg2 : Gl X "range") (hm2 : X.mg "range" = none) :
    PE X (.Call (.Name "tuple" p) [.Call (.Name "range" p2) [l] [] pos2] [] pos) (tUn (rUn X.K X.w (fun x => bltop .trng1 [x]) b) t) :=
  (pe_tupRg hc hg hm (prg_1 hg2 hm2 (pe_up hl) (star_plain hs))).imp fun σ H Q h => ⟨_, h, fun v H1 ⟨F, dx, d, hF, ox, e, q⟩ => by
    cases dx with
    | int n =>
      have ex := ox.intE; subst ex
      have e : (if okRng n = true then tupR (rangeD 0 n) else .bad) = .ok d := e
      split at e
      · rename_i hr
        obtain ⟨rfl, hz⟩ := tupR_ok e
        exact ⟨n, rfl, rgOk_of (by decide) hr hz, fun p hp => q.newT hF rgV_rep hp⟩
      · cases e
    | _ => cases e⟩
theorem lrng2_ok {b : Bool} {l r : Expr} {t u : TE} {p p2 pos pos2 : Pos} (hc : X.calm = true) (hl : PE X l t) (hr : PE X r u) (hs : stE l = false) (hs2 : stE r = false) (hg : Gl X "list") (hm : X.mg "list" = none) (hg2 : Gl X "range") (hm2 : X.mg "range" = none) :
    PE X (.Call (.Name "list" p) [.Call (.Name "range" p2) [l, r] [] pos2] [] pos) (tOp (rOp X.K X.w (fun x y => bltop .lrng2 [x, y]) b) t u) :=
  (pe_listRg hc hg hm (prg_2 hg2 hm2 (pe_up hl) (pe_up hr) (star_plain hs) (star_plain hs2) (starEach_plain (by simp [hs2])))).imp fun σ H Q h => ⟨_, h, fun v H1 h1 => ⟨_, h1, fun v2 H2 ⟨F, dx, dy, d, hF, ox, oy, e, q⟩ => by
    cases dx with
    | int m => cases dy with
      | int n =>
        have ex := ox.intE; have ey := oy.intE; subst ex ey
        have e : (if (okRng m && okRng n) = true then lstR (rangeD m n) else .bad) = .ok d := e
        split at e
        · rename_i hr
          rw [Bool.and_eq_true] at hr
          obtain ⟨rfl, hz⟩ := lstR_ok e
          exact ⟨m, n, rfl, rfl, rgOk_of hr.1 hr.2 hz, fun p hp => q.newL hF rgV_rep hp⟩
        · cases e
      | _ => cases e
    | _ => cases dy <;> cases e⟩⟩
theorem trng2_ok {b : Bool} {l r : Expr} {t u : TE} {p p2 pos pos2 : Pos} (hc : X.calm = true) (hl : PE X l t) (hr : PE X r u) (hs : stE l = false) (hs2 : stE r = false) (hg : Gl X "tuple") (hm : X.mg "tuple" = none) (hg2 : Gl X "range") (hm2 : X.mg "range" = none) :
    PE X (.Call (.Name "tuple" p) [.Call (.Name "range" p2) [l, r] [] pos2] [] pos) (tOp (rOp X.K X.w (fun x y => bltop .trng2 [x, y]) b) t u) :=
  (pe_tupRg hc hg hm (prg_2 hg2 hm2 (pe_up hl) (pe_up hr) (star_plain hs) (star_plain hs2) (starEach_plain (by simp [hs2])))).imp fun σ H Q h => ⟨_, h, fun v H1 h1 => ⟨_, h1, fun v2 H2 ⟨F, dx, dy, d, hF, ox, oy, e, q⟩ => by
    cases dx with
    | int m => cases dy with
      | int n =>
        have ex := ox.intE; have ey := oy.intE; subst ex ey
        have e : (if (okRng m && okRng n) = true then tupR (rangeD m n) else .bad) = .ok d := e
        split at e
        · rename_i hr
          rw [Bool.and_eq_true] at hr
          obtain ⟨rfl, hz⟩ := tupR_ok e
          exact ⟨m, n, rfl, rfl, rgOk_of hr.1 hr.2 hz, fun p hp => q.newT hF rgV_rep hp⟩
        · cases e
      | _ => cases e
    | _ => cases dy <;> cases e⟩⟩
theorem RepL.reverse {K : PySem.W.Frag} {w : World} {F : Hp} : ∀ {us : List V} {ds : List AV}, RepL K w F us ds → RepL K w F us.reverse ds.reverse
  | _, _, .nil => .nil
  | _, _, .cons h r => by
    rw [List.reverse_cons, List.reverse_cons]
    exact r.reverse.snoc h
theorem rev_ok {b : Bool} {l : Expr} {t : TE} {k : Nat} {p1 p2 p3 pos : Pos} (hl : PE X l t) : PE X (.Subscript l (.Slice none none (some (.UnaryOp .USub (.Constant (.int 1) k p1) p2)) p3) pos) (tUn (rUn X.K X.w (fun x => bltop .rev [x]) b) t) :=
  (pe_revU (pe_up hl)).imp fun σ H Q h => ⟨_, h, fun v H1 ⟨F, dx, d, hF, ox, e, q⟩ => by
    cases dx with
    | list ds =>
      obtain ⟨a, us, rfl, hq, hr⟩ := ox.listE
      cases e
      exact .inl ⟨a, us, rfl, hq.sql, fun p hp => q.newL hF hr.reverse hp⟩
    | tuple ds =>
      obtain ⟨a, us, rfl, hq, hr⟩ := ox.tupE
      cases e
      exact .inr ⟨a, us, rfl, Same.tup hF hq, fun p hp => q.newT hF hr.reverse hp⟩
    | _ => cases e⟩
theorem mm2_ok {b mx : Bool} {l r : Expr} {t u : TE} {p pos : Pos} (hc : X.calm = true) (hl : PE X l t) (hr : PE X r u) (hs : stE l = false) (hs2 : stE r = false) :
    (mx = false → Gl X "min" → X.mg "min" = none → PE X (.Call (.Name "min" p) [l, r] [] pos) (tOp (rOp X.K X.w (fun x y => bltop .min2 [x, y]) b) t u)) ∧ (mx = true → Gl X "max" → X.mg "max" = none → PE X (.Call (.Name "max" p) [l, r] [] pos) (tOp (rOp X.K X.w (fun x y => bltop .max2 [x, y]) b) t u)) := by
  refine ⟨fun _ hg hm => (pe_callB (call_min2 hc) hg hm PyProof.Rows.boot_min (pa_cons (pe_up hl) (pa_cons (pe_up hr) pa_nil (star_plain hs2)) (star_plain hs)) (by decide) (by decide) (star_plain hs) (starEach_plain (by simp [hs2]))).imp fun σ H Q h => ⟨_, h, fun v H1 h1 => ⟨_, h1, fun v2 H2 ⟨F, dx, dy, d, hF, ox, oy, e, q⟩ => ?_⟩⟩,
    fun _ hg hm => (pe_callB (call_max2 hc) hg hm PyProof.Rows.boot_max (pa_cons (pe_up hl) (pa_cons (pe_up hr) pa_nil (star_plain hs2)) (star_plain hs)) (by decide) (by decide) (star_plain hs) (starEach_plain (by simp [hs2]))).imp fun σ H Q h => ⟨_, h, fun v H1 h1 => ⟨_, h1, fun v2 H2 ⟨F, dx, dy, d, hF, ox, oy, e, q⟩ => ?_⟩⟩⟩
  · cases dx with
    | int m => cases dy with
      | int n =>
        have ex := ox.intE; have ey := oy.intE; subst ex ey
        cases e
        exact ⟨m, n, rfl, q.imm rfl hF (.int _)⟩
      | _ => cases e
    | _ => cases dy <;> cases e
  · cases dx with
    | int m => cases dy with
      | int n =>
        have ex := ox.intE; have ey := oy.intE; subst ex ey
        cases e
        exact ⟨m, n, rfl, q.imm rfl hF (.int _)⟩
      | _ => cases e
    | _ => cases dy <;> cases e
end
end Ev
end

section
set_option linter.all false
set_option autoImplicit false
set_option maxRecDepth 100000
set_option maxHeartbeats 2000000
/-! EvY: index, count, min, max. -/
namespace Ev
open PySem PySem.Spec PyProof.Rows L2
section
variable {X : Cx}
abbrev rM (X : Cx) (m : Mth) : V → List V → Hp → VK → Prop := fun x xs H Q => ∃ y, xs = [y] ∧ rOp X.K X.w (fun x y => mthop m x [y]) false x y H Q
theorem findIx_some : ∀ {xs : List AV} {x : AV} {k : Nat}, findIx xs x = some k → ∃ z, xs[k]? = some z ∧ PyData.eqv z x = true ∧ ∀ (m : Nat) (z' : AV), m < k → xs[m]? = some z' → PyData.eqv z' x = false
  | [], x, k, h => by cases h
  | y :: ys, x, k, h => by
    have h : (if PyData.eqv y x = true then some 0 else (findIx ys x).map (· + 1)) = some k := h
    split at h
    · rename_i hy
      cases h
      exact ⟨y, rfl, hy, fun m z' hm _ => absurd hm (Nat.not_lt_zero _)⟩
    · rename_i hy
      cases hf : findIx ys x with
      | none => rw [hf] at h; cases h
      | some j =>
        rw [hf] at h
        cases h
        obtain ⟨z, g1, g2, g3⟩ := findIx_some hf
        refine ⟨z, by simpa using g1, g2, fun m z' hm hz => ?_⟩
        cases m with
        | zero => simp at hz; subst hz; simpa using hy
        | succ m => exact g3 m z' (Nat.lt_of_succ_lt_succ hm) (by simpa using hz)
/-- a list's object, its items as data -/
theorem list_obj {pins : List (Addr × Obj)} {σ : L2.St} {H F : Hp} {s : Shared} {x : V} {v : Value} {xs : List AV} (I : Inv X pins σ H s) (hF : Same F H) (hp : PyData.plainAll xs = true) (o : Opd X.K X.w F H x (.list xs)) (rx : RelV x v) :
    ∃ (a : Addr) (its : List Value) (n : Nat) (as : List Addr) (us : List V), x = .ref a ∧ v = .ref a ∧ s.heap.get? a = some { cls := .type "list", data := .seq its.toArray n } ∧ ReadsAll s.heap its xs as ∧ its.length ≤ sizeLine ∧ Vals us its ∧ RepL X.K X.w F us xs := by
  obtain ⟨a, us, rfl, hq, hr⟩ := o.listE
  cases rx
  obtain ⟨z, its, n, rv, hl, e⟩ := inv_lst I hq
  obtain ⟨as, q⟩ := RepL.reads I hF hp hr rv
  exact ⟨a, its, n, as, us, rfl, rfl, e, q, by omega, rv, hr⟩
theorem tup_obj {pins : List (Addr × Obj)} {σ : L2.St} {H F : Hp} {s : Shared} {x : V} {v : Value} {xs : List AV} (I : Inv X pins σ H s) (hF : Same F H) (hp : PyData.plainAll xs = true) (o : Opd X.K X.w F H x (.tuple xs)) (rx : RelV x v) :
    ∃ (a : Addr) (its : List Value) (as : List Addr) (us : List V), x = .ref a ∧ v = .ref a ∧ s.heap.IsTuple a its.toArray ∧ ReadsAll s.heap its xs as ∧ Vals us its ∧ RepL X.K X.w F us xs := by
  obtain ⟨a, us, rfl, hq, hr⟩ := o.tupE
  cases rx
  obtain ⟨its, rv, ht, hz⟩ := I.tuple (Same.tup hF hq)
  obtain ⟨as, q⟩ := RepL.reads I hF hp hr rv
  exact ⟨a, its, as, us, rfl, rfl, ht, q, rv, hr⟩
theorem mt_indexE (hu : X.A.units + 65 < cLine) : MtR X "list.index" (rM X .index) := by
  intro pins s σ H x xs v us Q I rx rxs ⟨y, hy, F, dx, dy, d, hF, ox, oy, e, q⟩
  subst hy
  obtain ⟨u, rfl, ru⟩ := rxs.one
  cases dx with
  | list ds =>
    have e : (if (dy.plain && PyData.plainAll ds && decide (Nat.min (PyData.depthAll ds) dy.depth ≤ 48)) = true then (match findIx ds dy with
      | some k => R.ok (PyData.int k)
      | none => .bad) else .bad) = .ok d := e
    split at e
    · rename_i hc
      simp only [Bool.and_eq_true, decide_eq_true_eq] at hc
      cases hf : findIx ds dy with
      | none => rw [hf] at e; cases e
      | some k =>
        rw [hf] at e
        cases e
        obtain ⟨z, g1, g2, g3⟩ := findIx_some hf
        obtain ⟨a, its, n, as, vs, rfl, rfl, ho, rs, hz, _, _⟩ := list_obj I hF hc.1.2 ox rx
        obtain ⟨bs, r2⟩ := oy.reads I hF hc.1.1 ru
        have hmap : its.map (SeqAt.readOf s.heap) = ds := SeqAt.readsAll_map_plain ds its as hc.1.2 rs
        have hlen : its.length = ds.length := by rw [← hmap, List.length_map]
        have hk : k < ds.length := (List.getElem?_eq_some_iff.mp g1).1
        have hj : k < its.toArray.size := by rw [List.size_toArray]; omega
        have at_ : ∀ (m : Nat) (hm : m < its.toArray.size) (z' : AV), ds[m]? = some z' → SeqAt.readOf s.heap its.toArray[m] = z' := fun m hm z' hz' => by
          have hml : m < its.length := by simpa using hm
          rw [← hmap, List.getElem?_map, List.getElem?_eq_getElem hml] at hz'
          have e1 := Option.some.inj (show some (SeqAt.readOf s.heap its[m]) = some z' from hz')
          simpa using e1
        have hd : min (PyData.depthAll ds) dy.depth ≤ 48 := hc.2
        have hsl := sizeLine_eq
        refine call_meets PySem.F.slot_list_index ⟨_, ho, rfl⟩ PySem.F.entry_list_index (PySem.F.args_list_index_2 _ _)
          (SeqAt.list_indexAt a its.toArray n none #[] u (fun u => PyData.eqv (SeqAt.readOf s.heap u) dy) k hj (by omega) (by rw [at_ k hj z g1]; exact g2) fun m hm hlt => ?_) ⟨ho, SeqAt.items_plain (vs := its.toArray) rs r2 hc.1.2 hc.1.1 (by omega), ?_⟩
        · have hm2 : m < ds.length := by rw [← hlen]; simpa using hm
          rw [at_ m hm _ (List.getElem?_eq_getElem hm2)]
          exact g3 m _ hlt (List.getElem?_eq_getElem hm2)
        · exact ⟨.int _, H, I.tok _, ⟨_, rfl⟩, q.imm rfl hF (.int _)⟩
    · cases e
  | _ => cases e
theorem mt_countE (hu : X.A.units + 65 < cLine) : MtR X "list.count" (rM X .count) := by
  intro pins s σ H x xs v us Q I rx rxs ⟨y, hy, F, dx, dy, d, hF, ox, oy, e, q⟩
  subst hy
  obtain ⟨u, rfl, ru⟩ := rxs.one
  cases dx with
  | list ds =>
    have e : (if (dy.plain && PyData.plainAll ds && decide (Nat.min (PyData.depthAll ds) dy.depth ≤ 48)) = true then R.ok (PyData.int (ds.countP fun y => PyData.eqv y dy)) else .bad) = .ok d := e
    split at e
    · rename_i hc
      simp only [Bool.and_eq_true, decide_eq_true_eq] at hc
      cases e
      obtain ⟨a, its, n, as, vs, rfl, rfl, ho, rs, hz, _, _⟩ := list_obj I hF hc.1.2 ox rx
      obtain ⟨bs, r2⟩ := oy.reads I hF hc.1.1 ru
      have hd : min (PyData.depthAll ds) dy.depth ≤ 48 := hc.2
      exact SeqAt.count_list_data (vs := its.toArray) ⟨_, ho, rfl, n, rfl⟩ rs r2 hc.1.2 hc.1.1 (by omega) ⟨.int _, H, I.tok _, ⟨_, rfl⟩, q.imm rfl hF (.int _)⟩
    · cases e
  | _ => cases e
theorem meth_pe {m : Mth} {id : String} {nm : Str} {l r : Expr} {t u : TE} {apos pos : Pos} (slot : Slot "list" nm id) (hty : typeOf (.builtin id) = pure (.type "method_descriptor")) (h : MtR X id (rM X m)) (hl : PE X l t) (hr : PE X r u) (hs : stE r = false) (hb : attributeBase l nm X.env (eval l X.env) = eval l X.env) (hline : (apos.endLine == pos.line) = true) :
    PE X (.Call (.Attribute l nm apos) [r] [] pos) (fun σ H Q => t σ H fun x H1 => tyV X.K "list" x H1 ∧ u σ H1 fun y H2 => rOp X.K X.w (fun x y => mthop m x [y]) false x y H2 Q) :=
  (pe_bm PySem.F.plainAttrs_list slot hty h (pe_up hl) (pa_cons (pe_up hr) pa_nil (star_plain hs)) hb (stE_few hs) hline (star_plain hs) rfl).imp fun σ H Q q => ⟨_, q, fun x H1 ⟨ty, q⟩ => ⟨ty, _, q, fun y H2 q => ⟨y, rfl, q⟩⟩⟩
theorem mth_list {m : Mth} {nm : Str} (h : mname m = some nm) : ∀ da db d, mthop m da [db] = .ok d → ∃ xs, da = .list xs := by
  intro da db d e
  cases m with
  | index => cases da with
    | list xs => exact ⟨xs, rfl⟩
    | _ => cases e
  | count => cases da with
    | list xs => exact ⟨xs, rfl⟩
    | _ => cases e
  | _ => cases h
/-! ### min, max -/
theorem alikeA_ok {xs : List AV} (h : alikeA xs = true) : PyData.plainAll xs = true ∧ ∀ x ∈ xs, ∀ y ∈ xs, PySem.W.alike x y = true := by
  unfold alikeA at h
  rw [Bool.and_eq_true] at h
  refine ⟨h.1, fun x hx y hy => ?_⟩
  have h1 := List.all_eq_true.mp h.2 x hx
  exact List.all_eq_true.mp h1 y hy
theorem depth_all : ∀ {xs : List AV} {n : Nat}, xs.all (fun x => decide (x.depth ≤ n)) = true → PyData.depthAll xs ≤ n + 1
  | [], n, _ => by simp [PyData.depthAll]
  | x :: xs, n, h => by
    simp only [List.all_cons, Bool.and_eq_true, decide_eq_true_eq] at h
    have := depth_all (xs := xs) h.2
    rw [PyData.depthAll]
    omega
theorem minD_eq {x : AV} : ∀ {xs : List AV}, (∀ a ∈ x :: xs, ∀ b ∈ x :: xs, PySem.W.alike a b = true) → minD' x xs = PySem.W.minD x xs ∧ minD' x xs ∈ x :: xs
  | [], _ => ⟨rfl, List.mem_cons_self⟩
  | y :: ys, h => by
    have e1 : ltD y x = PySem.W.dataLt y x := ltD_eq (h y (by simp) x (by simp))
    have step : minD' x (y :: ys) = minD' (if ltD y x then y else x) ys := rfl
    have step2 : PySem.W.minD x (y :: ys) = PySem.W.minD (if PySem.W.dataLt y x then y else x) ys := rfl
    rw [step, step2, ← e1]
    have sub : ∀ z, (z = y ∨ z = x) → minD' z ys = PySem.W.minD z ys ∧ minD' z ys ∈ z :: ys := fun z hz => minD_eq fun a ha b hb => h a (by
      rcases List.mem_cons.mp ha with rfl | ha
      · rcases hz with rfl | rfl <;> simp
      · simp [ha]) b (by
      rcases List.mem_cons.mp hb with rfl | hb
      · rcases hz with rfl | rfl <;> simp
      · simp [hb])
    cases hlt : ltD y x with
    | true =>
      obtain ⟨g1, g2⟩ := sub y (.inl rfl)
      exact ⟨g1, by rcases List.mem_cons.mp g2 with g | g <;> simp [g]⟩
    | false =>
      obtain ⟨g1, g2⟩ := sub x (.inr rfl)
      exact ⟨g1, by rcases List.mem_cons.mp g2 with g | g <;> simp [g]⟩
theorem maxD_eq {x : AV} : ∀ {xs : List AV}, (∀ a ∈ x :: xs, ∀ b ∈ x :: xs, PySem.W.alike a b = true) → maxD' x xs = PySem.W.maxD x xs ∧ maxD' x xs ∈ x :: xs
  | [], _ => ⟨rfl, List.mem_cons_self⟩
  | y :: ys, h => by
    have e1 : ltD x y = PySem.W.dataLt x y := ltD_eq (h x (by simp) y (by simp))
    have step : maxD' x (y :: ys) = maxD' (if ltD x y then y else x) ys := rfl
    have step2 : PySem.W.maxD x (y :: ys) = PySem.W.maxD (if PySem.W.dataLt x y then y else x) ys := rfl
    rw [step, step2, ← e1]
    have sub : ∀ z, (z = y ∨ z = x) → maxD' z ys = PySem.W.maxD z ys ∧ maxD' z ys ∈ z :: ys := fun z hz => maxD_eq fun a ha b hb => h a (by
      rcases List.mem_cons.mp ha with rfl | ha
      · rcases hz with rfl | rfl <;> simp
      · simp [ha]) b (by
      rcases List.mem_cons.mp hb with rfl | hb
      · rcases hz with rfl | rfl <;> simp
      · simp [hb])
    cases hlt : ltD x y with
    | true =>
      obtain ⟨g1, g2⟩ := sub y (.inl rfl)
      exact ⟨g1, by rcases List.mem_cons.mp g2 with g | g <;> simp [g]⟩
    | false =>
      obtain ⟨g1, g2⟩ := sub x (.inr rfl)
      exact ⟨g1, by rcases List.mem_cons.mp g2 with g | g <;> simp [g]⟩
theorem alikeAll_of {x : AV} {xs : List AV} (h : ∀ a ∈ x :: xs, ∀ b ∈ x :: xs, PySem.W.alike a b = true) (hn : isNone x = false) : PySem.W.AlikeAll (x :: xs) := by
  refine ⟨h, fun y hy z => ?_⟩
  subst z
  have := h x List.mem_cons_self _ hy
  cases x <;> first | (simp [PySem.W.alike] at this; done) | (simp [isNone] at hn; done)
/-- the item that was picked: its value -/
theorem picked {pins : List (Addr × Obj)} {σ : L2.St} {H F : Hp} {s : Shared} {us : List V} {its : List Value} {xs : List AV} {d : AV} {h' : Heap} {tk : Nat} {v : Value} {i : Nat} {bs : List Addr} {Q : VK} (I : Inv X pins σ H s) (hF : Same F H) (hp : PyData.plainAll xs = true) (rv : Vals us its) (hr : RepL X.K X.w F us xs) (hd : d.plain = true)
    (hv : its.toArray[i]? = some v) (rd' : Reads h' v d bs) (hk : ∀ b o, s.heap.get? b = some o → h'.get? b = some o) (q : Res X.K X.w false F H d Q) : EP X pins σ Q v { s with heap := h', toks := tk } := by
  have hv2 : its[i]? = some v := by simpa using hv
  have hil : i < us.length := by rw [rv.length]; exact (List.getElem?_eq_some_iff.mp hv2).1
  obtain ⟨u, hu, ru⟩ := rv.get (List.getElem?_eq_getElem hil)
  rw [hv2] at hu
  cases hu
  obtain ⟨dd, g1, g2⟩ := hr.get' (List.getElem?_eq_getElem hil)
  have hpd : dd.plain = true := PySem.W.plain_mem hp (List.mem_of_getElem? g1)
  obtain ⟨as, r2⟩ := Rep.reads I hF hpd g2 ru
  have := SeqAt.plain_unique dd d v _ _ hpd (PyProof.Rows.Reads.keeps hk r2) rd'
  subst this
  exact ⟨_, H, I.kept hk, ru, q.old hF g2⟩
theorem cr_minE (hc : X.calm = true) (hu : X.A.units + 64 < cLine) : CallR X (.builtin "min") (r1E X .min false) := by
  intro pins s σ H xs us Q I r ⟨x, hx, F, dx, d, hF, ox, e, q⟩
  subst hx
  obtain ⟨u, rfl, ru⟩ := r.one
  cases dx with
  | list ds => cases ds with
    | nil => cases e
    | cons y ys =>
      have e : (if (alikeA (y :: ys) && (y :: ys).all dOk1 && !isNone y) = true then R.ok (minD' y ys) else .bad) = .ok d := e
      split at e
      · rename_i hcnd
        simp only [Bool.and_eq_true, Bool.not_eq_true'] at hcnd
        cases e
        obtain ⟨hp, hal⟩ := alikeA_ok hcnd.1.1
        obtain ⟨a, its, n, as, vs, rfl, rfl, ho, rs, hz, rv, hr⟩ := list_obj I hF hp ox ru
        have hdep : PyData.depthAll (y :: ys) ≤ 49 := depth_all hcnd.1.2
        obtain ⟨m1, m2⟩ := minD_eq hal
        rw [m1] at q
        refine PySem.W.min_list_data (vs := its.toArray) (I.ok.hd hc) ⟨_, ho, rfl, n, rfl⟩ rs (alikeAll_of hal hcnd.2) (by omega) fun i v h' tk bs hv rd' hk => picked I hF hp rv hr (PySem.W.plain_mem hp (by rw [← m1]; exact m2)) hv rd' hk q
      · cases e
  | tuple ds => cases ds with
    | nil => cases e
    | cons y ys =>
      have e : (if (alikeA (y :: ys) && (y :: ys).all dOk1 && !isNone y) = true then R.ok (minD' y ys) else .bad) = .ok d := e
      split at e
      · rename_i hcnd
        simp only [Bool.and_eq_true, Bool.not_eq_true'] at hcnd
        cases e
        obtain ⟨hp, hal⟩ := alikeA_ok hcnd.1.1
        obtain ⟨a, its, as, vs, rfl, rfl, ho, rs, rv, hr⟩ := tup_obj I hF hp ox ru
        have hdep : PyData.depthAll (y :: ys) ≤ 49 := depth_all hcnd.1.2
        obtain ⟨m1, m2⟩ := minD_eq hal
        rw [m1] at q
        refine PySem.W.min_tuple_data (vs := its.toArray) (I.ok.hd hc) ho rs (alikeAll_of hal hcnd.2) (by omega) fun i v h' tk bs hv rd' hk => picked I hF hp rv hr (PySem.W.plain_mem hp (by rw [← m1]; exact m2)) hv rd' hk q
      · cases e
  | _ => cases e
theorem cr_maxE (hc : X.calm = true) (hu : X.A.units + 64 < cLine) : CallR X (.builtin "max") (r1E X .max false) := by
  intro pins s σ H xs us Q I r ⟨x, hx, F, dx, d, hF, ox, e, q⟩
  subst hx
  obtain ⟨u, rfl, ru⟩ := r.one
  cases dx with
  | list ds => cases ds with
    | nil => cases e
    | cons y ys =>
      have e : (if (alikeA (y :: ys) && (y :: ys).all dOk1 && !isNone y) = true then R.ok (maxD' y ys) else .bad) = .ok d := e
      split at e
      · rename_i hcnd
        simp only [Bool.and_eq_true, Bool.not_eq_true'] at hcnd
        cases e
        obtain ⟨hp, hal⟩ := alikeA_ok hcnd.1.1
        obtain ⟨a, its, n, as, vs, rfl, rfl, ho, rs, hz, rv, hr⟩ := list_obj I hF hp ox ru
        have hdep : PyData.depthAll (y :: ys) ≤ 49 := depth_all hcnd.1.2
        obtain ⟨m1, m2⟩ := maxD_eq hal
        rw [m1] at q
        refine PySem.W.max_list_data (vs := its.toArray) (I.ok.hd hc) ⟨_, ho, rfl, n, rfl⟩ rs (alikeAll_of hal hcnd.2) (by omega) fun i v h' tk bs hv rd' hk => picked I hF hp rv hr (PySem.W.plain_mem hp (by rw [← m1]; exact m2)) hv rd' hk q
      · cases e
  | tuple ds => cases ds with
    | nil => cases e
    | cons y ys =>
      have e : (if (alikeA (y :: ys) && (y :: ys).all dOk1 && !isNone y) = true then R.ok (maxD' y ys) else .bad) = .ok d := e
      split at e
      · rename_i hcnd
        simp only [Bool.and_eq_true, Bool.not_eq_true'] at hcnd
        cases e
        obtain ⟨hp, hal⟩ := alikeA_ok hcnd.1.1
        obtain ⟨a, its, as, vs, rfl, rfl, ho, rs, rv, hr⟩ := tup_obj I hF hp ox ru
        have hdep : PyData.depthAll (y :: ys) ≤ 49 := depth_all hcnd.1.2
        obtain ⟨m1, m2⟩ := maxD_eq hal
        rw [m1] at q
        refine PySem.W.max_tuple_data (vs := its.toArray) (I.ok.hd hc) ho rs (alikeAll_of hal hcnd.2) (by omega) fun i v h' tk bs hv rd' hk => picked I hF hp rv hr (PySem.W.plain_mem hp (by rw [← m1]; exact m2)) hv rd' hk q
      · cases e
  | _ => cases e
end
end Ev
end

section
set_option linter.all false
set_option autoImplicit false
set_option maxRecDepth 100000
set_option maxHeartbeats 2000000
/-! EvZ0: sorting tuples of which some have no item. -/
namespace Ev
open PySem PySem.Spec PySem.Calls PyProof.Rows PySem.SeqAt PySem.W
section
variable {prog : Program} {w : World} {A : Around} {E : Value → Shared → Prop} {s : Shared}
theorem tup_lt_call {Q : Value → Shared → Prop} {l b : Addr} {us vs : Array Value} {e r : Nat → Bool} (hl : s.heap.IsTuple l us) (hb : s.heap.IsTuple b vs)
    (he : ∀ j (h1 : j < us.size) (h2 : j < vs.size), EqAt A.in1 s us[j] vs[j] (e j)) (hr : ∀ j (h1 : j < us.size) (h2 : j < vs.size), e j = false → RcLt A.in1 s us[j] vs[j] (r j))
    (h : Q (.bool (firstLt e r (decide (us.size < vs.size)) (List.range (min us.size vs.size)))) s) : wpAny (model prog w) A (call (.builtin "tuple.__lt__") [.ref l, .ref b]) Q E s := by
  obtain ⟨⟨c1, d1, t1, x1⟩, ho, hc, n, hd⟩ := id hl
  obtain ⟨⟨c2, d2, t2, x2⟩, ho2, hc2, n2, hd2⟩ := id hb
  simp only at hc hd hc2 hd2
  subst hc hd hc2 hd2
  exact call_meets F.slot_tuple_lt ⟨_, ho, rfl⟩ F.entry_tuple_lt (F.args_tuple_lt_2 _ _) (tuple_ltAt l b us vs n n2 d1 d2 x1 x2 e r) ⟨ho, ho2, he, hr, h⟩
theorem oneLt_tup {xs ys : List PyData} {a b : Value} {as bs : List Addr} {Q : Bool → Shared → Prop} (ra : Reads s.heap a (.tuple xs) as) (rb : Reads s.heap b (.tuple ys) bs) (h : PySem.W.alikeAll xs ys = true)
    (hu : A.units + min (PyData.depth (.tuple xs)) (PyData.depth (.tuple ys)) < cLine) (hq : Q (PySem.W.dataLt (.tuple xs) (.tuple ys)) s) : wpAny (model prog w) A (oneLt' true a b) Q E s := by
  cases ra with
  | @tuple l o us n _ as₁ h1 h2 h3 h4 =>
    cases rb with
    | @tuple l' o' vs n' _ bs₁ k1 k2 k3 k4 =>
      have n1 : us.size = xs.length := by simpa using ReadsAll.length _ _ _ h4
      have n2 : vs.size = ys.length := by simpa using ReadsAll.length _ _ _ k4
      rw [PySem.W.dataLt_tuple, ← PySem.W.firstLt_toks xs ys h, ← n1, ← n2] at hq
      rw [oneLt'_eq]
      simp only [if_true]
      refine wpAny_bind (wpAny_cRoomFor (room_here hu) ?_)
      refine wpAny_bind (wpAny_callSpecialIfBound?_slot (T := "tuple") ⟨_, h1, h2⟩ F.slot_tuple_lt (tup_lt_call (e := pairEq xs ys) (r := fun j => PySem.W.dataLt (xs.getD j .none) (ys.getD j .none)) ⟨_, h1, h2, _, h3⟩ ⟨_, k1, k2, _, k3⟩ (fun j j1 j2 => ?_) (fun j j1 j2 hj => ?_) ?_))
      · have := PySem.W.eqAt_alikeAll xs ys A.in1 s us.toList vs.toList _ _ h4 k4 h (room_in hu) j (by simpa using j1) (by simpa using j2)
        simpa using this
      · have := PySem.W.rcLt_alikeAll xs ys A.in1 s us.toList vs.toList _ _ h4 k4 h (room_in hu) j (by simpa using j1) (by simpa using j2) hj
        simpa using this
      · exact wpAny_truthy_bool hq
/-- tuples and their first items, if any -/
inductive KMix (h : Heap) : List Value → List (Option Value) → Prop
  | nil : KMix h [] []
  | cons {a : Addr} {o : Obj} {xs : Array Value} {n : Nat} {vs : List Value} {fs : List (Option Value)} : h.get? a = some o → o.cls = .type "tuple" → o.data = .seq xs n → KMix h vs fs → KMix h (.ref a :: vs) (xs[0]? :: fs)
theorem KMix.firsts {M : Model} : ∀ {vs : List Value} {fs : List (Option Value)} {Q : List (Option Value) → Shared → Prop}, KMix s.heap vs fs → Q fs s → wpAny M A (vs.mapM firstOfTuple') Q E s
  | _, _, _, .nil, h => by rw [List.mapM_nil]; exact wpAny_pure h
  | _, _, Q, .cons (vs := vs) (fs := fs) (xs := xs) ho hc hd t, h => by
    rw [List.mapM_cons]
    refine wpAny_bind ?_
    rw [kas_first_eq]
    refine wpAny_bind (Looks.here ((Looks.ld ho).andThen .now) ?_)
    rw [hc, if_neg (by first | decide | simp)]
    refine wpAny_bind (listItems_at ho hd (wpAny_pure ?_))
    exact wpAny_bind (t.firsts (Q := fun bs s' => wpAny M A (pure (xs[0]? :: bs)) Q E s') (wpAny_pure h))
theorem KMix.ty {M : Model} : ∀ {vs : List Value} {fs : List (Option Value)}, KMix s.heap vs fs → ∀ v ∈ vs, Looks M s.heap (typeOf v) (.type "tuple")
  | _, _, .nil, v, hv => by cases hv
  | _, _, .cons ho hc hd t, v, hv => by
    rcases List.mem_cons.mp hv with rfl | hv
    · rw [← hc]
      exact (Looks.ld ho).andThen .now
    · exact t.ty v hv
theorem KMix.kind {M : Model} {vs : List Value} {f : Option Value} {fs : List (Option Value)} {Q : SortKind → Shared → Prop} (t : KMix s.heap vs (f :: fs)) (hn : ((f :: fs).all fun x => x.isSome) = false) (h : Q (if f.isSome then general' else oneType') s) :
    wpAny M A (keyKind' vs.toArray) Q E s := by
  rw [keyKind'_eq, List.mapM_toArray, map_eq_pure_bind]
  refine wpAny_bind (wpAny_bind (t.firsts (wpAny_pure ?_)))
  have h0 : ((f :: fs).toArray.all fun x => x.isSome) = false := by rw [List.all_toArray]; exact hn
  rw [h0, if_neg (by simp)]
  have h1 : (((f :: fs).toArray)[0]?.bind id) = f := by simp
  rw [h1]
  cases f with
  | some v => exact wpAny_pure h
  | none =>
    rw [if_neg (by simp)]
    rw [oneTypeOnly'_eq, List.mapM_toArray, map_eq_pure_bind]
    refine wpAny_bind (wpAny_bind (wpAny_bind (kas_mapM (r := Value.type "tuple") _ (fun v hv Q' hq => (t.ty v hv).here hq) (wpAny_pure ?_))))
    cases vs with
    | nil => cases t
    | cons v vs =>
      have hall : ((List.map (fun _ => Value.type "tuple") (v :: vs)).toArray.all fun x => x == Value.type "tuple") = true := by
        rw [List.all_toArray, List.all_map, List.all_eq_true]
        intro _ _
        exact beq_self_eq_true _
      have h2 : (List.map (fun _ => Value.type "tuple") (v :: vs)).toArray[0]? = some (Value.type "tuple") := by simp
      rw [h2]
      simp only [hall, if_true]
      exact wpAny_pure (wpAny_pure h)
theorem mix_of {h : Heap} : ∀ {vs : List Value} {ds : List PyData}, PySem.W.EachIs (fun v d => ∃ as, Reads h v d as) vs ds → (∀ d ∈ ds, ∃ xs, d = .tuple xs) → ∃ fs, KMix h vs fs ∧ fs.length = vs.length ∧ (PyData.tuple [] ∈ ds → (fs.all fun x => x.isSome) = false)
  | _, _, .nil, _ => ⟨[], .nil, rfl, fun z => by cases z⟩
  | _, _, .cons (b := d) ⟨as, r⟩ t, ht => by
    obtain ⟨fs, h1, h2, h3⟩ := mix_of t fun d hd => ht d (List.mem_cons_of_mem _ hd)
    obtain ⟨xs, rfl⟩ := ht d List.mem_cons_self
    cases r with
    | @tuple a o us n _ _ ho hc hd hr =>
      refine ⟨us[0]? :: fs, .cons ho hc hd h1, by rw [List.length_cons, List.length_cons, h2], fun z => ?_⟩
      rcases List.mem_cons.mp z with z | z
      · cases z
        have e : us.toList = [] := by
          cases q : us.toList with
          | nil => rfl
          | cons u l => rw [q] at hr; cases hr
        have e2 : us[0]? = none := by rw [← Array.getElem?_toList, e]; rfl
        rw [e2]
        rfl
      · rw [List.all_cons, h3 z, Bool.and_false]
theorem sorts_mix {vs : List Value} {ds : List PyData} (e : PySem.W.EachIs (fun v d => ∃ as, Reads s.heap v d as) vs ds) (hal : PySem.W.AllAlike ds) (ht : ∀ d ∈ ds, ∃ xs, d = .tuple xs) (he : PyData.tuple [] ∈ ds) (hu : ∀ d, d ∈ ds → A.units + d.depth < cLine) :
    PySem.W.SortsAt prog w A s (PySem.W.dataKind s.heap ds) vs := by
  have room : ∀ {d d' : PyData}, d ∈ ds → A.units + min d.depth d'.depth < cLine := fun {d d'} hd => Nat.lt_of_le_of_lt (Nat.add_le_add_left (Nat.min_le_left _ _) _) (hu d hd)
  obtain ⟨fs, k1, k2, k3⟩ := mix_of e ht
  refine ⟨fun v hv => ?_, ?_⟩
  · obtain ⟨d, hd, as, r⟩ := e.left v hv
    exact ⟨_, PySem.W.dataKind_some hal hd r⟩
  · cases fs with
    | nil => exact absurd (k3 he) (by simp)
    | cons f fs =>
      refine ⟨if f.isSome then general' else oneType', ?_, fun h2 E Q hq => k1.kind (k3 he) hq⟩
      intro E x y a b Q ha hb hq
      obtain ⟨d, as, hd, ra, rfl⟩ := PySem.W.dataKind_inv ha
      obtain ⟨d', as', hd', rb, rfl⟩ := PySem.W.dataKind_inv hb
      have hdd := hal d hd d' hd'
      obtain ⟨xs, rfl⟩ := ht d hd
      obtain ⟨ys, rfl⟩ := ht d' hd'
      cases f with
      | some v => exact PySem.W.oneLt_alike (f := false) (fun z => by cases z) ra rb hdd (by simp) (room hd) hq
      | none => exact oneLt_tup ra rb (by simpa [PySem.W.alike] using hdd) (room hd) hq
/-! ### sorted of a tuple -/
theorem coll_tup {l : Addr} {us : List Value} {Q : List Value → Shared → Prop} (tl : s.heap.IsTuple l us.toArray) (hz : us.length ≤ sizeLine)
    (q : Q us { s with heap := (s.heap.push (seqObj "list" #[] 0)).update s.heap.objs.size (Obj.mapSeq (· ++ us.toArray)) }) : wpAny (model prog w) A (collect (.ref l)) Q E s := by
  obtain ⟨ob, g1, g2, n, g3⟩ := id tl
  have g4 : (s.heap.push (seqObj "list" #[] 0)).get? l = some ob := Heap.get?_push_of_some _ g1
  unfold collect
  refine wpAny_bind (wpAny_runValue (codeAny_builtin (by exact entry_proto_collect') ?_))
  show wpAny _ _ (do again (.builtin "list.__iadd__" ⟨[← newList [], Value.ref l], []⟩)) _ _ s
  refine wpAny_bind (wpAny_newList (wpAny_pure (And.intro (Code.quiet_builtin _ (by decide +kernel)) (codeAny_builtin entry_list_iadd' ?_))))
  show wpAny _ _ (Builtin.List.listExtendWith (.ref s.heap.objs.size) (Value.ref l) (.ref s.heap.objs.size)) _ _ { s with heap := s.heap.push (seqObj "list" #[] 0) }
  unfold Builtin.List.listExtendWith
  refine wpAny_bind (wpAny_typeOf (T := "tuple") ⟨ob, g4, g2⟩ ?_)
  rw [if_pos (by rw [show (Value.type "tuple" == Value.type "tuple") = true from rfl]; simp)]
  refine wpAny_bind (listItems_at g4 g3 ?_)
  refine wpAny_bind (listItems_at (n := 0) (xs := #[]) (Heap.get?_push_size _ rfl) (by rfl) ?_)
  rw [if_neg (show ¬ (!(#[] : Array Value).isEmpty && Builtin.List.listTooLong ((#[] : Array Value).size + us.toArray.size)) = true by simp)]
  refine wpAny_bind (listUpdate_at (n := 0) (xs := #[]) (Heap.get?_push_size _ rfl) (by rfl) ?_ (Nat.zero_le _) (by show (#[] ++ us.toArray).size ≤ sizeLine + 1; rw [Array.size_append, List.size_toArray]; show 0 + us.length ≤ _; omega))
  refine wpAny_pure ?_
  refine (show wpAny (model prog w) A (do
      let ob ← load s.heap.objs.size
      match ob.data with
      | .seq ys _ => pure ys.toList
      | _ => unsupported "internal:collect") Q E { s with heap := (s.heap.push (seqObj "list" #[] 0)).update s.heap.objs.size (Obj.mapSeq (· ++ us.toArray)) } from ?_)
  refine wpAny_bind (wpAny_load (get?_update_seq (Heap.get?_push_size _ rfl) _) ?_)
  have e : ((#[] : Array Value) ++ us.toArray).toList = us := by simp
  show wpAny _ _ (pure ((#[] : Array Value) ++ us.toArray).toList) Q E _
  rw [e]
  exact wpAny_pure q
theorem sorted_tup {κ : PyProof.Rows.KeyKind} {l : Addr} {us : List Value} {Q : Value → Shared → Prop} (tl : s.heap.IsTuple l us.toArray) (S : PySem.W.SortsAt prog w A.in1.in1 { s with heap := PySem.W.sortingHeap (PySem.W.copyHeap s.heap us) (s.heap.objs.size + 1) us } κ us) (hz : us.length ≤ sizeLine)
    (q : Q (.ref (s.heap.objs.size + 1)) { s with heap := sortedAll s.heap us (PySem.W.sortVals κ false us us).toArray }) : wpAny (model prog w) A (call (.builtin "sorted") [.ref l]) Q E s := by
  refine call_function_entry_kw kind_sorted plain_sorted entry_sorted (by exact args_sorted1 _) ?_
  unfold Builtin.«sorted»
  refine wpAny_bind (m := checkCount "sorted" 1 1 _) (wpAny_pure (a := ()) ?_)
  refine wpAny_bind (coll_tup tl hz ?_)
  refine wpAny_bind (wpAny_newList ?_ hz)
  have e : ((s.heap.push (seqObj "list" #[] 0)).update s.heap.objs.size (Obj.mapSeq (· ++ us.toArray))).objs.size = s.heap.objs.size + 1 := (Heap.size_update ..).trans (size_push' ..)
  show wpAny _ _ _ _ _ { s with heap := PySem.W.copyHeap s.heap us }
  rw [e]
  refine wpAny_bind (wpAny_holding (wpAny_call_entry_kw slot_list_sort ⟨_, PySem.W.copyHeap_at s.heap us, rfl⟩ entry_list_sort ?body (by exact args_list_sort _)))
  case body =>
    show wpAny (model prog w) A.in1.in1 (Builtin.«list.sort» ⟨[.ref (s.heap.objs.size + 1)], []⟩) _ _ _
    exact PySem.W.list_sort_vals (s := { s with heap := PySem.W.copyHeap s.heap us }) (PySem.W.copyHeap_at s.heap us) S hz ⟨_, rfl, wpAny_pure ⟨_, rfl, q⟩⟩
theorem sorts_all {vs : List Value} {ds : List PyData} (e : PySem.W.EachIs (fun v d => ∃ as, Reads s.heap v d as) vs ds) (hal : PySem.W.AllAlike ds) (hk : PySem.W.Sortable ds ∨ ((∀ d ∈ ds, ∃ xs, d = .tuple xs) ∧ PyData.tuple [] ∈ ds)) (hu : ∀ d, d ∈ ds → A.units + d.depth < cLine) :
    PySem.W.SortsAt prog w A s (PySem.W.dataKind s.heap ds) vs := by
  rcases hk with h | ⟨h1, h2⟩
  · exact PySem.W.SortsAt.data e hal h hu
  · exact sorts_mix e hal h1 h2 hu
/-- sorted of a list or a tuple of alike data -/
theorem sorted_any {β : Type} {vs : List Value} {bs : List β} {enc : β → PyData} {R : Value → β → Prop} {l : Addr} {Q : Value → Shared → Prop} (hl : s.heap.IsList l vs.toArray ∨ s.heap.IsTuple l vs.toArray) (e : PySem.W.EachIs R vs bs) (er : PySem.W.EachIs (fun v b => ∃ as, Reads s.heap v (enc b) as) vs bs) (hal : PySem.W.AllAlike (bs.map enc))
    (hk : PySem.W.Sortable (bs.map enc) ∨ ((∀ d ∈ bs.map enc, ∃ xs, d = .tuple xs) ∧ PyData.tuple [] ∈ bs.map enc)) (hL : bs.length ≤ sizeLine)
    (hu : ∀ b, b ∈ bs → A.units + 2 + (enc b).depth < cLine) (h : ∀ out, out.length = bs.length → PySem.W.EachIs R out (bs.mergeSort (PySem.W.dataLe false enc)) → Q (.ref (s.heap.objs.size + 1)) { s with heap := sortedAll s.heap vs (List.toArray out) }) :
    wpAny (model prog w) A (call (.builtin "sorted") [.ref l]) Q E s := by
  have er' := er.mono (R' := fun v b => ∃ as, Reads (PySem.W.sortingHeap (PySem.W.copyHeap s.heap vs) (s.heap.objs.size + 1) vs) v (enc b) as) fun _ _ ⟨as, r⟩ => ⟨as, PyProof.Rows.Reads.keeps (fun _ _ => PySem.W.sorting_copy_old) r⟩
  have S := sorts_all (prog := prog) (w := w) (A := A.in1.in1) (s := { s with heap := PySem.W.sortingHeap (PySem.W.copyHeap s.heap vs) (s.heap.objs.size + 1) vs }) (PySem.W.each_map (R := fun v d => ∃ as, Reads (PySem.W.sortingHeap (PySem.W.copyHeap s.heap vs) (s.heap.objs.size + 1) vs) v d as) enc er') hal hk (PySem.W.bound_map hu)
  have fin := h _ (by rw [PySem.W.sortVals_length false rfl]; exact e.length) (PySem.W.sortVals_data false e er' hal)
  rcases hl with hl | hl
  · exact PySem.W.sorted_vals hl S (by rw [e.length]; exact hL) fin
  · exact sorted_tup hl S (by rw [e.length]; exact hL) fin
end
end Ev
end

section
set_option linter.all false
set_option autoImplicit false
set_option maxRecDepth 100000
set_option maxHeartbeats 2000000
/-! EvZ: sorted. -/
namespace Ev
open PySem PySem.Spec PyProof.Rows L2
def leD (a b : AV) : Bool := !PySem.W.dataLt b a
theorem leD_eq : leD = PySem.W.dataLe false fun b => b := by
  rw [PySem.W.dataLe_eq]
  rfl
theorem leD_total : PySem.W.TotalLe leD := by
  rw [leD_eq]
  exact PySem.W.sortLe_total _ _ _
def insK (x : AV) : List AV → List AV
  | [] => [x]
  | y :: ys => if PySem.W.dataLt y x then y :: insK x ys else x :: y :: ys
def isK : List AV → List AV
  | [] => []
  | x :: xs => insK x (isK xs)
theorem insK_mem {x z : AV} : ∀ {ys : List AV}, z ∈ insK x ys ↔ z = x ∨ z ∈ ys
  | [] => by simp [insK]
  | y :: ys => by
    unfold insK
    split
    · rw [List.mem_cons, insK_mem, List.mem_cons]
      constructor
      · rintro (h | h | h)
        · exact .inr (.inl h)
        · exact .inl h
        · exact .inr (.inr h)
      · rintro (h | h | h)
        · exact .inr (.inl h)
        · exact .inl h
        · exact .inr (.inr h)
    · simp
theorem isK_mem {z : AV} : ∀ {xs : List AV}, z ∈ isK xs ↔ z ∈ xs
  | [] => by simp [isK]
  | x :: xs => by rw [isK, insK_mem, isK_mem, List.mem_cons]
theorem insB_eq {x : AV} : ∀ {ys : List AV}, (∀ y ∈ ys, PySem.W.alike y x = true) → isort.insB x ys = insK x ys
  | [], _ => rfl
  | y :: ys, h => by
    unfold isort.insB insK
    rw [ltD_eq (h y List.mem_cons_self), insB_eq fun z hz => h z (List.mem_cons_of_mem _ hz)]
theorem isort_eq : ∀ {xs : List AV}, (∀ a ∈ xs, ∀ b ∈ xs, PySem.W.alike a b = true) → isort xs = isK xs
  | [], _ => rfl
  | x :: xs, h => by
    have e := isort_eq (xs := xs) fun a ha b hb => h a (List.mem_cons_of_mem _ ha) b (List.mem_cons_of_mem _ hb)
    unfold isort isK
    rw [e]
    exact insB_eq fun y hy => h y (List.mem_cons_of_mem _ (isK_mem.mp hy)) x List.mem_cons_self
theorem insK_sorted {x : AV} : ∀ {ys : List AV}, ys.Pairwise (fun a b => leD a b = true) → (insK x ys).Pairwise (fun a b => leD a b = true)
  | [], _ => List.pairwise_singleton _ _
  | y :: ys, h => by
    obtain ⟨h1, h2⟩ := List.pairwise_cons.mp h
    unfold insK
    split
    · rename_i hl
      refine List.pairwise_cons.mpr ⟨fun z hz => ?_, insK_sorted h2⟩
      rcases insK_mem.mp hz with rfl | hz
      · have := leD_total.total z y
        rcases this with t | t
        · unfold leD at t; rw [hl] at t; cases t
        · exact t
      · exact h1 z hz
    · rename_i hl
      have hxy : leD x y = true := by
        unfold leD
        simpa using hl
      refine List.pairwise_cons.mpr ⟨fun z hz => ?_, h⟩
      rcases List.mem_cons.mp hz with rfl | hz
      · exact hxy
      · exact leD_total.trans _ _ _ hxy (h1 z hz)
theorem isK_sorted : ∀ {xs : List AV}, (isK xs).Pairwise (fun a b => leD a b = true)
  | [] => List.Pairwise.nil
  | x :: xs => insK_sorted isK_sorted
theorem insK_filter {x c : AV} : ∀ {ys : List AV}, (insK x ys).filter (PySem.W.sameRank leD c) = (x :: ys).filter (PySem.W.sameRank leD c)
  | [] => rfl
  | y :: ys => by
    unfold insK
    split
    · rename_i hl
      have ih := insK_filter (x := x) (c := c) (ys := ys)
      rw [List.filter_cons, ih, List.filter_cons, List.filter_cons (x := x), List.filter_cons]
      cases hx : PySem.W.sameRank leD c x with
      | false => simp
      | true =>
        cases hy : PySem.W.sameRank leD c y with
        | false => simp
        | true =>
          exfalso
          unfold PySem.W.sameRank at hx hy
          rw [Bool.and_eq_true] at hx hy
          have := leD_total.trans _ _ _ hx.2 hy.1
          unfold leD at this
          rw [hl] at this
          cases this
    · rfl
theorem isK_filter {c : AV} : ∀ {xs : List AV}, (isK xs).filter (PySem.W.sameRank leD c) = xs.filter (PySem.W.sameRank leD c)
  | [] => rfl
  | x :: xs => by
    rw [isK, insK_filter, List.filter_cons, isK_filter, List.filter_cons]
theorem isK_merge (xs : List AV) : isK xs = xs.mergeSort leD := PySem.W.sort_unique leD_total isK_sorted fun c => isK_filter
section
variable {X : Cx}
theorem zip_each {K : PySem.W.Frag} {w : World} {F : Hp} : ∀ {us : List V} {its : List Value} {ds : List AV}, Vals us its → RepL K w F us ds → PySem.W.EachIs (fun (v : Value) (b : V × AV) => RelV b.1 v ∧ Rep K w F b.1 b.2) its (us.zip ds)
  | _, _, _, .nil, .nil => .nil
  | _, _, _, .cons r t, .cons h q => .cons ⟨r, h⟩ (zip_each t q)
theorem each_vals {K : PySem.W.Frag} {w : World} {F : Hp} : ∀ {out : List Value} {bs : List (V × AV)}, PySem.W.EachIs (fun (v : Value) (b : V × AV) => RelV b.1 v ∧ Rep K w F b.1 b.2) out bs → Vals (bs.map (·.1)) out ∧ RepL K w F (bs.map (·.1)) (bs.map (·.2))
  | _, _, .nil => ⟨.nil, .nil⟩
  | _, _, .cons h t => let ⟨g1, g2⟩ := each_vals t; ⟨.cons h.1 g1, .cons h.2 g2⟩
theorem zip_snd : ∀ {us : List V} {ds : List AV}, us.length = ds.length → (us.zip ds).map (·.2) = ds
  | [], [], _ => rfl
  | _ :: us, _ :: ds, h => by
    rw [List.zip_cons_cons, List.map_cons, zip_snd (by simpa using h)]
  | [], _ :: _, h => by cases h
  | _ :: _, [], h => by cases h
theorem each_reads {pins : List (Addr × Obj)} {σ : L2.St} {H F : Hp} {s : Shared} (I : Inv X pins σ H s) (hF : Same F H) : ∀ {us : List V} {its : List Value} {ds : List AV}, PyData.plainAll ds = true → Vals us its → RepL X.K X.w F us ds → PySem.W.EachIs (fun v (b : V × AV) => ∃ as, Reads s.heap v b.2 as) its (us.zip ds)
  | _, _, _, _, .nil, .nil => .nil
  | _, _, _, hp, .cons r t, .cons h q => by
    have hp' := by simpa [PyData.plainAll] using hp
    exact .cons (Rep.reads I hF hp'.1 h r) (each_reads I hF hp'.2 t q)
/-- a list or a tuple -/
def seqO : AV → Option (List AV)
  | .list ds => some ds
  | .tuple ds => some ds
  | _ => none
theorem seq_obj {pins : List (Addr × Obj)} {σ : L2.St} {H F : Hp} {s : Shared} {x : V} {v : Value} {dx : AV} {xs : List AV} (I : Inv X pins σ H s) (hF : Same F H) (hs : seqO dx = some xs) (o : Opd X.K X.w F H x dx) (rx : RelV x v) :
    ∃ (a : Addr) (its : List Value) (us : List V), x = .ref a ∧ v = .ref a ∧ (s.heap.IsList a its.toArray ∨ s.heap.IsTuple a its.toArray) ∧ its.length ≤ sizeLine ∧ Vals us its ∧ RepL X.K X.w F us xs := by
  cases dx with
  | list ds =>
    cases hs
    obtain ⟨a, us, rfl, hq, hr⟩ := o.listE
    cases rx
    obtain ⟨z, its, n, rv, hl, e⟩ := inv_lst I hq
    exact ⟨a, its, us, rfl, rfl, .inl ⟨_, e, rfl, n, rfl⟩, by omega, rv, hr⟩
  | tuple ds =>
    cases hs
    obtain ⟨a, us, rfl, hq, hr⟩ := o.tupE
    cases rx
    obtain ⟨its, rv, ht, hz⟩ := I.tuple (Same.tup hF hq)
    exact ⟨a, its, us, rfl, rfl, .inr ht, by rw [← rv.length]; exact hz, rv, hr⟩
  | _ => cases hs
theorem cr_sortedE {b : Bool} (hu : X.A.units + 64 < cLine) : CallR X (.builtin "sorted") (r1E X .sorted b) := by
  intro pins s σ H xs us Q I r ⟨x, hx, F, dx, d, hF, ox, e, q⟩
  subst hx
  obtain ⟨u, rfl, ru⟩ := r.one
  have hs : ∃ ds, seqO dx = some ds ∧ sortD ds = .ok d := by
    cases dx with
    | list ds => exact ⟨ds, rfl, e⟩
    | tuple ds => exact ⟨ds, rfl, e⟩
    | _ => cases e
  obtain ⟨ds, hs, e⟩ := hs
  have e : (if (alikeA ds && ds.all dOk1 && (ds.all isTup0 || ds.all notTup)) = true then R.ok (PyData.list (isort ds)) else .bad) = .ok d := e
  split at e
  · rename_i hc
    simp only [Bool.and_eq_true, Bool.or_eq_true] at hc
    cases e
    obtain ⟨hp, hal⟩ := alikeA_ok hc.1.1
    obtain ⟨a, its, vs, rfl, rfl, ho, hz, rv, hr⟩ := seq_obj I hF hs ox ru
    have hl : vs.length = ds.length := hr.length
    have hm := zip_snd hl
    have hE := zip_each rv hr
    have hu2 : ∀ p, p ∈ vs.zip ds → X.A.units + 2 + p.2.depth < cLine := fun p hp2 => by
      have : p.2 ∈ ds := by
        rw [← hm]
        exact List.mem_map_of_mem hp2
      have h1 := List.all_eq_true.mp hc.1.2 _ this
      have h2 : p.2.depth ≤ 48 := of_decide_eq_true h1
      omega
    have hz2 : (vs.zip ds).length ≤ sizeLine := by
      rw [List.length_zip, ← hl, Nat.min_self, rv.length]
      exact hz
    have hk : PySem.W.Sortable ds ∨ ((∀ d ∈ ds, ∃ xs, d = .tuple xs) ∧ PyData.tuple [] ∈ ds) := by
      by_cases hne : ds.all tupNE = true
      · refine .inl (.inl fun y hy => ?_)
        have := List.all_eq_true.mp hne y hy
        unfold tupNE at this
        split at this
        · exact ⟨_, _, rfl⟩
        · cases this
      · rcases hc.2 with h | h
        · have ht : ∀ d ∈ ds, ∃ xs, d = .tuple xs := fun d hd => by
            have := List.all_eq_true.mp h d hd
            unfold isTup0 at this
            split at this
            · exact ⟨_, rfl⟩
            · cases this
          refine .inr ⟨ht, ?_⟩
          rw [Bool.not_eq_true, List.all_eq_false] at hne
          obtain ⟨d, hd, h1⟩ := hne
          obtain ⟨xs, rfl⟩ := ht d hd
          cases xs with
          | nil => exact hd
          | cons x xs => exact absurd rfl h1
        · refine .inl (.inr fun y hy => ?_)
          have := List.all_eq_true.mp h y hy
          unfold notTup at this
          refine ⟨fun z => ?_, fun zs z => ?_⟩
          · subst z; cases this
          · subst z; cases this
    refine sorted_any (vs := its) (bs := vs.zip ds) (enc := fun b : V × AV => b.2) ho hE (each_reads I hF hp rv hr) (by rw [hm]; exact hal) (by rw [hm]; exact hk) hz2 hu2 fun out hlen ho2 => ?_
    obtain ⟨g1, g2⟩ := each_vals ho2
    have e1 : ((vs.zip ds).mergeSort (PySem.W.dataLe false fun b : V × AV => b.2)).map (·.2) = isort ds := by
      rw [PySem.W.sort_maps (s := leD) (fun b : V × AV => b.2) (fun a _ b _ => by rw [PySem.W.dataLe_eq]; rfl), hm, isort_eq hal, isK_merge]
    rw [e1] at g2
    obtain ⟨ep, he⟩ := PyProof.Rows.sortedAll_at s.heap its out.toArray
    have hlen2 : (((vs.zip ds).mergeSort (PySem.W.dataLe false fun b : V × AV => b.2)).map (·.1)).length ≤ sizeLine := by
      rw [g1.length, hlen]
      exact hz2
    have hfr := I.hok.fresh (Nat.le_succ s.heap.objs.size)
    exact ⟨.ref _, upd H (s.heap.objs.size + 1) (.lst _), I.laid (t' := s.toks) (fun _ _ => PyProof.Rows.sortedAll_old) (Nat.le_succ _) ⟨hlen2, out, ep, g1, he⟩, rfl, q.newL hF g2 hfr⟩
  · cases e
end
end Ev
end

section
set_option linter.all false
set_option autoImplicit false
set_option maxRecDepth 100000
set_option maxHeartbeats 2000000
/-! EvT: enumerate. -/
namespace Ev
open PySem PySem.Spec PyProof.Rows L2
set_option maxHeartbeats 4000000 in
/-- enumerate(v), v told by what it begins -/
theorem enumNewB {v : Value} {o : Obj} {Hq : Heap → Prop} (B : Begins v o Hq) : Meets (Builtin.«enumerate.__new__» ⟨[.type "enumerate", v], []⟩)
    (fun _ R s => Hq s.heap ∧ R (.ok (.ret (.ref (s.heap.push o).objs.size))) { s with heap := (s.heap.push o).push { cls := .type "enumerate", data := .fields #[.none, .bool false, .ref s.heap.objs.size, rawInt 0, .none, .none] } }) := by
  refine .of_wp fun prog w A R s h => ?_
  obtain ⟨hp, g, dd, tk, os⟩ := s
  obtain ⟨h1, h⟩ := h
  have sub0 := sub_enumerate
  have q1 : ∀ {A' : Around} {E : Value → Shared → Prop} {Q : Value → Shared → Prop}, Q (.ref hp.objs.size) ⟨hp.push o, g, dd, tk, os⟩ → wpAny (model prog w) A' (pyIter v) Q E ⟨hp, g, dd, tk, os⟩ := fun q => B.iter prog w _ _ ⟨hp, g, dd, tk, os⟩ _ h1 q
  wp_walk using q1
  refine wpAny_stack_any fun st => wpAny_pure ?_
  split
  · rename_i cc _ _ _ _ _
    cases (cc == Value.type "enumerate") <;> (wp_walk using q1; exact ⟨_, rfl, h⟩)
  · (wp_walk using q1); exact ⟨_, rfl, h⟩
section
variable {prog : Program} {w : World} {A : Around} {E : Value → Shared → Prop} {s : Shared}
theorem enumBeg {v : Value} {o : Obj} {Hq : Heap → Prop} {Q : Value → Shared → Prop} (B : Begins v o Hq) (h1 : Hq s.heap)
    (h : ∀ h', IsEnum h' (s.heap.objs.size + 1) s.heap.objs.size 0 .none → h'.get? s.heap.objs.size = some o → (∀ b o, s.heap.get? b = some o → h'.get? b = some o) → Q (.ref (s.heap.objs.size + 1)) { s with heap := h' }) :
    wpAny (model prog w) A (call (.type "enumerate") [v]) Q E s := by
  refine callType_new F.called_enumerate (by decide) (F.typeCall_enumerate_1 _) (F.newCall_enumerate_1 _) (fun obj => F.args_object_init_2 obj _) F.entry_enumerate_new (enumNewB B) ⟨h1, ?_⟩
  have hz : (s.heap.push o).objs.size = s.heap.objs.size + 1 := Heap.size_push ..
  show _ ∧ _
  rw [hz]
  have he : IsEnum ((s.heap.push o).push { cls := .type "enumerate", data := .fields #[.none, .bool false, .ref s.heap.objs.size, rawInt 0, .none, .none] }) (s.heap.objs.size + 1) s.heap.objs.size 0 .none := by
    have q := Heap.get?_push_size (s.heap.push o) (o := { cls := .type "enumerate", data := .fields #[.none, .bool false, .ref s.heap.objs.size, rawInt 0, .none, .none] }) rfl
    rw [hz] at q
    exact q
  exact ⟨⟨_, he, rfl⟩, h _ he (Heap.get?_push_of_some _ (Heap.get?_push_size _ B.free)) fun b o x => Heap.get?_push_of_some _ (Heap.get?_push_of_some _ x)⟩
end
/-- the tuple at a, each item in a new pair -/
def Iet (K : PySem.W.Frag) (a : Addr) : L2.It :=
  ⟨fun i H => ∃ (xs : List V) (x : V), SqT K H a xs ∧ xs[i]? = some x, fun i H v H' => ∃ T x, v = .ref T ∧ H T = none ∧ H' = upd H T (.tup [.int (i : Nat), x]) ∧ ∀ xs, SqT K H a xs → xs[i]? = some x, fun i H => ∃ xs : List V, SqT K H a xs ∧ i = xs.length⟩
theorem turn_enumT {P : Program} {w : World} {K : PySem.W.Frag} {elts : List Expr} {kk : Nat} {tpos : Pos} (a e it : Addr) :
    Turn P w K (.Tuple elts kk tpos) (Iet K a) [e, it] e (fun i h => (∃ old, IsEnum h e it ((i : Nat) : Int) old) ∧ h.IsTupleIter it a i ∧ e ≠ it ∧ a ≠ it ∧ a ≠ e) where
  mem := by simp
  obj := fun i h st b hb => by
    obtain ⟨⟨old, he⟩, ⟨o, ho, hc, hd⟩, _⟩ := st
    rcases (by simpa using hb : b = e ∨ b = it) with z | z
    · rw [z]
      exact ⟨_, he, fun v q => nomatch q⟩
    · rw [z]
      exact ⟨o, ho, fun v q => by rw [hd] at q; cases q⟩
  keep := fun i h h' st k => by
    obtain ⟨⟨old, he⟩, hi, hne⟩ := st
    exact ⟨⟨old, k e (by simp) _ he⟩, hi.at fun o q => k it (by simp) o q, hne⟩
  item := by
    intro X hP hw hK hc i pins s σ H E I hf st hg
    subst hP hw hK
    obtain ⟨⟨old, he⟩, hit, hne, hai, hae⟩ := st
    obtain ⟨xs, x, hq, hx⟩ := hg
    obtain ⟨its, rv, p, hz⟩ := I.tuple hq
    obtain ⟨u, hu, ru⟩ := rv.get hx
    have hel : e < s.heap.objs.size := Heap.lt_size he
    have hil : it < s.heap.objs.size := by obtain ⟨_, q, _⟩ := hit; exact Heap.lt_size q
    have pt : s.heap.IsTuple a its.toArray := p
    have D := Draws.tuple (prog := X.prog) (w := X.w) (A := X.A.in1) (by exact I.ok.hd hc) it a hai its.toArray
    refine wpAny_pyNext_enum_itemD D he ⟨hit, pt⟩ (by simpa using (List.getElem?_eq_some_iff.mp hu).1) hne (by simp; exact ⟨hne, Ne.symm hae⟩) fun u2 h' tk hP ho hit' hT hsz hk => ?_
    obtain rfl : u2 = u := by
      have z : its.toArray[i]? = some u2 := hP
      rw [List.getElem?_toArray, hu] at z
      exact (Option.some.inj z).symm
    refine ⟨_, rfl, wpAny_letOwnedTupleGo_enum (s := { s with heap := h', toks := tk + 1 }) ho fun h'' he' sb => ?_⟩
    have hT2 : h''.get? s.heap.objs.size = some { cls := .type "tuple", data := .seq #[.int i tk, u2] } := (sb.2 _ (Nat.ne_of_gt hel)).trans hT
    have new : ObjOk X.prog X.w (upd H s.heap.objs.size (.tup [.int (i : Nat), x])) h'' s.heap.objs.size (.tup [.int (i : Nat), x]) :=
      ⟨by show 2 ≤ sizeLine; decide, [.int i tk, u2], .cons ⟨_, rfl⟩ (.cons ru .nil), ⟨_, hT2, rfl, _, rfl⟩⟩
    have I1 : Inv X pins σ (upd H s.heap.objs.size (.tup [.int (i : Nat), x])) { s with heap := h'', toks := tk + 1 } :=
      I.turnedNew (ch := [e, it]) (fun b ob hb q => (sb.2 b (fun z => hb (by simp [z]))).trans (hk b ob (fun z => hb (by simp [z])) (fun z => hb (by simp [z])) q)) hf (Nat.le_refl _) new
    refine ⟨.ref s.heap.objs.size, _, I1, rfl, ⟨_, x, rfl, I.hok.fresh (Nat.le_refl _), rfl, fun ys hy => ?_⟩, ⟨⟨u2, ?_⟩, hit'.1.at fun o q => (sb.2 it (Ne.symm hne)).trans q, hne, hai, hae⟩, fun b hb => ?_⟩
    · rw [I.tuple_inj hy hq]; exact hx
    · rw [show ((i + 1 : Nat) : Int) = (i : Int) + 1 by omega]
      exact he'
    · have hb' : b < s.heap.objs.size := by
        rcases (by simpa using hb : b = e ∨ b = it) with z | z
        · rw [z]; exact hel
        · rw [z]; exact hil
      exact (upd_ne (Nat.ne_of_lt hb')).trans (hf b hb).1
  done := by
    intro X hP hw hK hc i pins s σ H E I hf st hg
    subst hP hw hK
    obtain ⟨⟨old, he⟩, hit, hne, hai, hae⟩ := st
    obtain ⟨xs, hq, hx⟩ := hg
    obtain ⟨its, rv, p, hz⟩ := I.tuple hq
    obtain ⟨f0, f1, f2, f3, f4, f5⟩ := hf it (by simp)
    have hl := rv.length
    have pt : s.heap.IsTuple a its.toArray := p
    have D := Draws.tuple (prog := X.prog) (w := X.w) (A := X.A.in1) (by exact I.ok.hd hc) it a hai its.toArray
    have hi : i = its.toArray.size := by rw [hx]; simp; omega
    rw [hi] at hit
    exact wpAny_pyNext_enum_endD D he ⟨hit, pt⟩ fun h' eb => ⟨rfl, I.turned (t' := s.toks) (fun b o hb q => eb b o hb q) f0 f1 f3 f4 f5⟩
  self := fun A i s Q E st h => by
    obtain ⟨⟨_, he⟩, _⟩ := st
    exact wpAny_pyIter_enum he h
theorem enum_y {xs : List V} {i : Nat} {H H' : Hp} {v : V} (h : YPair (fun i => some (.int (i : Nat))) (fun i => xs[i]?) i H v H') : ∃ T x, v = .ref T ∧ H T = none ∧ H' = upd H T (.tup [.int (i : Nat), x]) ∧ xs[i]? = some x := by
  obtain ⟨T, n, x, h1, h2, h3, h4, h5⟩ := h
  cases h4
  exact ⟨T, x, h1, h2, h3, h5⟩
/-- enumerate of a list or a tuple -/
def iEnums (K : PySem.W.Frag) (tl : TE) : TI := fun σ H R => tCons tl tNil σ H fun vs H1 => ∃ p, vs = [.ref p] ∧ ((∃ xs, SqL K H1 p xs) ∧ R (Ite K p) H1 ∨ (∃ xs, SqT K H1 p xs) ∧ R (Iet K p) H1)
theorem pi_enums {X : Cx} {e : Expr} {tl : TE} {p pos tpos : Pos} {elts : List Expr} {kk : Nat} (hg : Gl X "enumerate") (hm : X.mg "enumerate" = none) (hl : PE X e tl) (hs : stE e = false) : PI X (.Tuple elts kk tpos) (.Call (.Name "enumerate" p) [e] [] pos) (iEnums X.K tl) := by
  refine ⟨fun pins s σ H R I h => ?_⟩
  refine Call_ (ld_blt I hg hm boot_enumerate (PyProof.Rows.callWith_type1 (thn ((pa_cons hl pa_nil (star_plain hs)).run pos pins s σ H (fun vs H1 => ∃ p, vs = [.ref p] ∧ ((∃ xs, SqL X.K H1 p xs) ∧ R (Ite X.K p) H1 ∨ (∃ xs, SqT X.K H1 p xs) ∧ R (Iet X.K p) H1)) I h) fun us s1 ⟨vs, H1, I1, r1, q1⟩ => ?_) (star_plain hs) rfl))
  · obtain ⟨a, ex, q⟩ := q1
    subst ex
    cases r1 with
    | cons r rr =>
      cases rr
      cases r
      have fp : ∀ h' : Heap, (∀ b o, s1.heap.get? b = some o → h'.get? b = some o) → ∀ b ∈ [s1.heap.objs.size + 1, s1.heap.objs.size], FpOk X pins H1 b := fun h' hk b hb => by
        have hle : s1.heap.objs.size ≤ b := by
          rcases (by simpa using hb : b = s1.heap.objs.size + 1 ∨ b = s1.heap.objs.size) with z | z
          · rw [z]; exact Nat.le_add_right _ _
          · rw [z]; exact Nat.le_refl _
        exact I1.fpOk hle (I1.hok.fresh hle)
      rcases q with ⟨⟨xs, hq⟩, q⟩ | ⟨⟨xs, hq⟩, q⟩
      · obtain ⟨its, rv, p', hz⟩ := I1.list hq
        refine call_enumerate_list p'.isList fun h' he hit hsz hk => wpAny_pyIter_enum he ?_
        have I2 : Inv X pins σ H1 { s1 with heap := h' } := I1.kept (t' := s1.toks) hk
        exact ⟨s1.heap.objs.size + 1, [s1.heap.objs.size + 1, s1.heap.objs.size], _, _, H1, rfl, I2, turn_enum a (s1.heap.objs.size + 1) s1.heap.objs.size, ⟨⟨.none, he⟩, hit, Nat.succ_ne_self _⟩, fp h' hk, q⟩
      · obtain ⟨its, rv, p', hz⟩ := I1.tuple hq
        have pt : s1.heap.IsTuple a its.toArray := p'
        have hlt : a < s1.heap.objs.size := by obtain ⟨_, q, _⟩ := pt; exact Heap.lt_size q
        refine enumBeg (begins_tuple a its.toArray) pt fun h' he hit hk => wpAny_pyIter_enum he ?_
        have I2 : Inv X pins σ H1 { s1 with heap := h' } := I1.kept (t' := s1.toks) hk
        exact ⟨s1.heap.objs.size + 1, [s1.heap.objs.size + 1, s1.heap.objs.size], _, _, H1, rfl, I2, turn_enumT a (s1.heap.objs.size + 1) s1.heap.objs.size, ⟨⟨.none, he⟩, ⟨_, hit, rfl, rfl⟩, Nat.succ_ne_self _, Nat.ne_of_lt hlt, Nat.ne_of_lt (Nat.lt_succ_of_lt hlt)⟩, fp h' hk, q⟩
theorem enumD_get : ∀ (ds : List AV) (k i : Nat), (enumD k ds)[i]? = ds[i]?.map fun d => PyData.tuple [.int ((k + i : Nat) : Int), d]
  | [], _, _ => rfl
  | d :: ds, k, 0 => rfl
  | d :: ds, k, i + 1 => by
    show (enumD (k + 1) ds)[i]? = ds[i]?.map _
    rw [enumD_get ds (k + 1) i, show k + 1 + i = k + (i + 1) by omega]
theorem enumD_len : ∀ (ds : List AV) (k : Nat), (enumD k ds).length = ds.length
  | [], _ => rfl
  | d :: ds, k => congrArg (· + 1) (enumD_len ds (k + 1))
section
variable {c : Cx} {cal : Cal} {tg l : Expr} {a : X}
theorem new_yld {K : PySem.W.Frag} {w : World} {F1 : Hp} {ds : List AV} {xs : List V} (r : RepL K w F1 xs ds) {i : Nat} {H H' : Hp} {v : V} (h : ∃ T x, v = .ref T ∧ H T = none ∧ H' = upd H T (.tup [.int (i : Nat), x]) ∧ xs[i]? = some x) : YEv K w F1 (enumD 0 ds) i H v H' := fun F s1 s2 => by
  obtain ⟨T, x, rfl, h1, rfl, h2⟩ := h
  obtain ⟨d, g1, g2⟩ := r.get' h2
  have hX := ext_new' (o := .tup [V.int (i : Nat), x]) s2 h1
  refine ⟨.tuple [.int ((0 + i : Nat) : Int), d], _, ?_, hX, ?_⟩
  · rw [enumD_get, g1]; rfl
  · exact .tup (.inl (.inl upd_same)) (.cons (by rw [Nat.zero_add]; exact .int _) (.cons (Rep.mono (s1.trans hX.ff) g2) .nil))
theorem it_enum {es : List Expr} {n : Nat} {tp p pos : Pos} (b : Bool) (hg : Gl c "enumerate") (hm : c.mg "enumerate" = none) (hs : stE l = false) (ha : OkE cal c l a) : PI c (.Tuple es n tp) (.Call (.Name "enumerate" p) [l] [] pos) (rdIt c.K c.w cal b (.enum a)) := PI.imp' (pi_enums hg hm (ha.pe (opM b)) hs) fun σ H RR h => by
  obtain ⟨IO, F0, F, B, O, env, ds, env', O', S, e, o, q⟩ := h
  obtain ⟨⟨da, e1⟩, ea, e⟩ := R.bind_eq_ok (show (evE cal a env >>= fun p => match items? p.1 with
    | some xs => R.ok (enumD 0 xs, p.2)
    | none => .bad) = .ok (ds, env') from e)
  refine ⟨IO, F0, F, B, O, env, da, e1, O', S, ea, by revert o; unfold owIt opM; cases b <;> exact fun z => z, fun va F1 H1 p1 r1 => ?_⟩
  have hh : Same F1 H1 := p1.sr.fh
  cases da with
  | list xs =>
    cases e
    cases b with
    | true =>
      obtain ⟨r1, ob⟩ := r1
      obtain ⟨x, us, rfl, hq, hr⟩ := Opd.listE (show Opd c.K c.w F1 H1 va (.list xs) from r1)
      have key : ∃ Bs us, Same Bs H1 ∧ (∀ a o, Bs a = some o → F1 a = some o ∨ B a = none) ∧ LstX c.K Bs x us ∧ LstX c.K H1 x us ∧ RepL c.K c.w F1 us xs := by
        rcases ob rfl with ⟨a, u, ea, hb, hu⟩ | hr2
        · cases ea
          rcases hq with hq | hq
          · by_cases hf : F1 x = none
            · refine ⟨upd F1 x u, us, fun b u2 e => ?_, fun b u2 e => ?_, .inl ?_, .inl hq, hr⟩
              · by_cases hbx : b = x
                · subst hbx; rw [upd_same] at e; cases e; exact hu
                · rw [upd_ne hbx] at e; exact hh _ _ e
              · by_cases hbx : b = x
                · subst hbx; exact .inr hb
                · rw [upd_ne hbx] at e; exact .inl e
              · rcases hq with q | ⟨o, q⟩
                · rw [hu] at q; cases q; exact .inl upd_same
                · rw [hu] at q; cases q; exact .inr ⟨o, upd_same⟩
            · obtain ⟨o, ho⟩ := Option.ne_none_iff_exists'.mp hf
              refine ⟨F1, us, hh, fun b u e => .inl e, .inl ?_, .inl hq, hr⟩
              have h1 := hh _ _ ho
              rcases hq with q | ⟨o2, q⟩
              · rw [h1] at q; cases q; exact .inl ho
              · rw [h1] at q; cases q; exact .inr ⟨o2, ho⟩
          · exact ⟨F1, us, hh, fun b u e => .inl e, .inr hq, .inr hq, hr⟩
        · cases hr2 with
          | lst hq2 hr3 => exact ⟨F1, _, hh, fun b u e => .inl e, hq2, hq2.mono hh, hr3⟩
      obtain ⟨Bs, us, b1, b2, b3, b4, hr⟩ := key
      refine ⟨x, rfl, .inl ⟨⟨us, b4.sql⟩, q _ F1 H1 Bs p1 b1 (fun z => by cases z) b2 ?_⟩⟩
      rw [enumD_len, ← hr.length]
      exact walk_enum.mono (fun H2 s2 => (b3.mono s2).sql) fun i H2 x H3 _ s2 y => new_yld hr (enum_y y)
    | false =>
      cases (show Rep c.K c.w F1 va (.list xs) from r1) with
      | lst hq hr =>
        refine ⟨_, rfl, .inl ⟨⟨_, (hq.mono hh).sql⟩, q _ F1 H1 F1 p1 hh (fun _ => rfl) (fun _ _ e => .inl e) ?_⟩⟩
        rw [enumD_len, ← hr.length]
        exact walk_enum.mono (fun H2 s2 => (hq.mono s2).sql) fun i H2 x H3 _ s2 y => new_yld hr (enum_y y)
  | tuple xs =>
    cases e
    have r2 : Rep c.K c.w F1 va (.tuple xs) := by
      cases b with
      | true => exact r1.1
      | false => exact r1
    cases r2 with
    | tup hq hr =>
      have key : ∀ Bs, Same F1 Bs → Walk (Iet c.K _) (enumD 0 xs).length (Same Bs) (YEv c.K c.w F1 (enumD 0 xs)) := fun Bs sb => by
        rw [enumD_len, ← hr.length]
        refine ⟨fun i H hi g => ?_, fun H g => ⟨_, Same.tup (sb.trans g) hq, rfl⟩, fun i H v H' hi g y => ?_⟩
        · exact ⟨_, _, Same.tup (sb.trans g) hq, List.getElem?_eq_getElem hi⟩
        · obtain ⟨T, x, z1, z2, z3, z4⟩ := y
          exact new_yld hr ⟨T, x, z1, z2, z3, z4 _ (Same.tup (sb.trans g) hq)⟩
      cases b with
      | true => exact ⟨_, rfl, .inr ⟨⟨_, Same.tup hh hq⟩, q _ F1 H1 F1 p1 hh (fun z => by cases z) (fun _ _ e => .inl e) (key F1 (Same.refl _))⟩⟩
      | false => exact ⟨_, rfl, .inr ⟨⟨_, Same.tup hh hq⟩, q _ F1 H1 F1 p1 hh (fun _ => rfl) (fun _ _ e => .inl e) (key F1 (Same.refl _))⟩⟩
  | _ => cases e
end
end Ev
end

section
set_option linter.all false
set_option autoImplicit false
set_option maxRecDepth 100000
set_option maxHeartbeats 4000000
/-! EvU: sets of ints. -/
namespace Ev
open PySem PySem.Spec PyProof.Rows L2
/-- a new set, with nothing in it -/
abbrev nS (w : World) : Obj := { cls := .type "set", dict := none, data := .set #[] 0 (.fresh 0 0 (!w.params.followText "set-order")) }
abbrev pS (w : World) (h : Heap) : Heap := h.push (nS w)
section
variable {P : Program} {w : World} {A : Around} {E : Value → Shared → Prop} {s : Shared}
set_option maxHeartbeats 8000000 in
theorem call_set_listI {l : Addr} {items : Array Value} (ns : List Int) {Q : Value → Shared → Prop} (hh : A.handled = none) (gl : s.heap.IsList l items) (gi : IntsAre items.toList ns) (gb : ns.length + 1 < scanBound)
    (h : ∀ (h' : Heap) (tk c : Nat), SetR w h' s.heap.objs.size (fun j => decide (j ∈ ns)) c → c ≤ ns.length → (∀ b o, s.heap.get? b = some o → h'.get? b = some o) → Q (.ref s.heap.objs.size) { s with heap := h', toks := tk }) :
    wpAny (model P w) A (call (.type "set") [.ref l]) Q E s := by
  have sizeIs : items.size = ns.length := by
    have q := IntsAre.length gi
    rw [Array.length_toList] at q
    exact q
  obtain ⟨c, tl, mroS⟩ := F.called_set.mro
  have madeS := F.called_set.made
  have subM := F.called_set.sub
  refine wpAny_call (codeAny_of_tree ?_)
  show wpAny _ _ (callAny (.type "set") _) _ _ _
  refine wpAny_pure ⟨Code.quiet_builtin _ (by decide +kernel), codeAny_builtin F.entry_type_call ?_⟩
  rw [Around.under_plain (weight_type_call_type "set" [.ref l] []) rfl]
  have noT := F.called_set.notType
  have makes := F.called_set.canCreate
  have callT := F.typeCall_set_1 (.ref l)
  repeat (any_goals (first | assumption | wp_step))

  refine codeAny_mono (code_set_led1 (.ref l) (E := E) (Q₁ := fun obj s₁ => obj = .ref s.heap.objs.size ∧ s₁ = { s with heap := pS w s.heap }) ⟨rfl, rfl⟩) fun r s₁ res => ?_
  cases r with
  | error e => exact res
  | ok fl =>
    cases fl with
    | ret obj =>
      obtain ⟨rfl, rfl⟩ := res
      have gS : (pS w s.heap).get? s.heap.objs.size = some (nS w) := Heap.get?_push_size _ rfl
      have tS : Shared.TypeIs { s with heap := pS w s.heap } (.ref s.heap.objs.size) "set" := ⟨_, gS, rfl⟩
      have initL := F.called_set.init.lookup
      have initB := F.called_set.init.bind (.ref s.heap.objs.size)
      repeat (any_goals (first | assumption | wp_step))

      refine codeAny_mono (codeAny_call_builtin (R := wants (fun r s₂ => r = .none ∧ ∃ h' tk c, s₂ = { s with heap := h', toks := tk } ∧ SetR w h' s.heap.objs.size (fun j => decide (j ∈ ns)) c ∧ c ≤ ns.length ∧
          (∀ b o, s.heap.get? b = some o → h'.get? b = some o)) E) F.called_set.init.plain F.entry_set_init (check_set_init_1 tS ?_)) fun r₂ s₂ res₂ => ?_
      · obtain ⟨ol, gotL, clsL, nl, datL⟩ := gl
        obtain ⟨lc, ld, lt, ls⟩ := ol
        simp only at clsL datL
        subst clsL; subst datL
        have gotL' : (pS w s.heap).get? l = some { cls := .type "list", dict := ld, data := .seq items nl, slots := ls } := Heap.get?_push_of_some _ gotL
        have subS := F.sub_list_set
        have subF := F.sub_list_frozenset
        have neD : (Value.type "list" == Value.type "dict") = false := by decide
        have listL : (pS w s.heap).IsList l items := ⟨_, gotL', rfl, nl, rfl⟩
        unfold Builtin.«set.__init__» noKeywords Builtin.Frozenset.updateFrom
        generalize ePI : pyIter = PI
        wp_walk
        subst ePI

        refine wpAny_pyIter_list listL ?_
        refine wpAny_bind (wpAny_runValue ?_)
        have belowS : l < s.heap.objs.size := Heap.lt_size gotL
        have quiet3 : A.in1.in1.in1.handled = none := by simp [hh]
        have hz1 : (pS w s.heap).objs.size = s.heap.objs.size + 1 := Heap.size_push ..
        have apartI : l ≠ (pS w s.heap).objs.size := by
          rw [Heap.size_push]; exact Nat.ne_of_lt (Nat.lt_succ_of_lt belowS)
        have apartS : s.heap.objs.size ∉ [(pS w s.heap).objs.size, l] := by
          rw [Heap.size_push]; simp only [List.mem_cons, List.mem_singleton, List.not_mem_nil, or_false, not_or]
          exact ⟨Nat.ne_of_lt (Nat.lt_succ_self _), Nat.ne_of_gt belowS⟩
        have valsAre : ∀ (i : Nat) (v : Value), items[i]? = some v → ∃ k t, ns[i]? = some k ∧ v = .int k t := fun i v hv => by
          have hi : i < ns.length := by rw [← sizeIs]; exact (Array.getElem?_eq_some_iff.mp hv).1
          obtain ⟨t, e⟩ := PyProof.Rows.IntsAre.int_at gi i v (by rw [Array.getElem?_toList]; exact hv)
          refine ⟨ns[i], t, List.getElem?_eq_getElem hi, ?_⟩
          rw [e, List.getD_eq_getElem?_getD, List.getElem?_eq_getElem hi] <;> rfl
        refine set_update_ints ((Walks.list quiet3 _ l apartI items).toS) s.heap.objs.size
          apartS ns sizeIs gb valsAre (items.size - 0) 0 _ (by omega) (Nat.zero_le _)
          ⟨⟨_, Heap.get?_push_size _ rfl, rfl, rfl⟩, (listL.push _)⟩ ?hS0 ?hR
        case hS0 =>
          have gotS : ((pS w s.heap).push { cls := .type "list_iterator", data := .fields #[.ref l, .int 0 0] }).get? s.heap.objs.size
              = some (nS w) := Heap.get?_push_of_some _ gS
          exact ⟨0, Nat.le_refl 0, setR_new_at gotS⟩
        case hR =>
          intro s' c' mv hc' gS'
          obtain ⟨h', g2, d', tk', os'⟩ := s'
          have e₁ : g2 = s.gens := mv.gens
          have e₂ : d' = s.drawn := mv.drawn
          have e₃ : os' = s.os := mv.os
          subst e₁; subst e₂; subst e₃
          show wpAny _ _ _ _ _ _
          refine wpAny_pure ?_
          show wpAny _ _ (ret Value.none) _ _ _
          rw [sizeIs] at hc'
          refine wpAny_pure ⟨rfl, h', tk', c', rfl, gS', hc', fun b o e => ?_⟩
          have lt0 : b < s.heap.objs.size := Heap.lt_size e
          have ne1 : b ≠ s.heap.objs.size := Nat.ne_of_lt lt0
          have ne2 : b ≠ (pS w s.heap).objs.size := by
            rw [Heap.size_push]; exact Nat.ne_of_lt (Nat.lt_succ_of_lt lt0)
          exact mv.heap b o (by simp only [List.mem_cons, List.mem_singleton, List.not_mem_nil, or_false, not_or]; exact ⟨ne1, ne2⟩) (Heap.get?_push_of_some _ (Heap.get?_push_of_some _ e))

      · cases r₂ with
        | error e => exact res₂
        | ok fl₂ =>
          cases fl₂ with
          | ret r =>
            obtain ⟨rfl, h', tk, c', rfl, gS', hc', hk'⟩ := res₂
            repeat (any_goals (first | assumption | wp_step))
            exact h _ _ _ gS' hc' hk'
          | _ => exact res₂.elim
    | _ => exact res.elim

end
/-! ### the members of a list of ints, rising -/
theorem insI_mem {x : Int} : ∀ {l : List Int} {y : Int}, y ∈ insI x l ↔ y = x ∨ y ∈ l
  | [], y => by simp [insI]
  | z :: l, y => by
    unfold insI
    split
    · rw [List.mem_cons, insI_mem, List.mem_cons]
      exact ⟨fun h => h.elim (fun q => .inr (.inl q)) fun q => q.elim .inl fun q => .inr (.inr q), fun h => h.elim (fun q => .inr (.inl q)) fun q => q.elim .inl fun q => .inr (.inr q)⟩
    · split
      · rename_i h
        subst h
        rw [List.mem_cons]
        exact ⟨.inr, fun h => h.elim .inl id⟩
      · rw [List.mem_cons]
theorem insI_up {x : Int} : ∀ {l : List Int}, l.Pairwise (· < ·) → (insI x l).Pairwise (· < ·)
  | [], _ => List.pairwise_singleton ..
  | z :: l, h => by
    obtain ⟨h1, h2⟩ := List.pairwise_cons.mp h
    unfold insI
    split
    · rename_i hz
      refine List.pairwise_cons.mpr ⟨fun y hy => ?_, insI_up h2⟩
      rcases insI_mem.mp hy with q | q
      · rw [q]; exact hz
      · exact h1 y q
    · split
      · exact h
      · rename_i h3 h4
        refine List.pairwise_cons.mpr ⟨fun y hy => ?_, h⟩
        rcases List.mem_cons.mp hy with q | q
        · rw [q]; omega
        · have := h1 y q; omega
theorem isetI_mem : ∀ {l : List Int} {y : Int}, y ∈ isetI l ↔ y ∈ l
  | [], y => Iff.rfl
  | x :: l, y => by
    show y ∈ insI x (isetI l) ↔ _
    rw [insI_mem, isetI_mem, List.mem_cons]
theorem isetI_up : ∀ l : List Int, (isetI l).Pairwise (· < ·)
  | [] => List.Pairwise.nil
  | x :: l => insI_up (isetI_up l)
theorem up_nodup {l : List Int} (h : l.Pairwise (· < ·)) : l.Nodup := h.imp fun h q => by omega
theorem up_eq : ∀ {l l2 : List Int}, l.Pairwise (· < ·) → l2.Pairwise (· < ·) → (∀ k, k ∈ l ↔ k ∈ l2) → l = l2
  | [], [], _, _, _ => rfl
  | [], y :: l2, _, _, h => absurd ((h y).mpr List.mem_cons_self) (by simp)
  | x :: l, [], _, _, h => absurd ((h x).mp List.mem_cons_self) (by simp)
  | x :: l, y :: l2, h1, h2, h => by
    obtain ⟨a1, a2⟩ := List.pairwise_cons.mp h1
    obtain ⟨b1, b2⟩ := List.pairwise_cons.mp h2
    have e : x = y := by
      rcases List.mem_cons.mp ((h x).mp List.mem_cons_self) with q | q
      · exact q
      · rcases List.mem_cons.mp ((h y).mpr List.mem_cons_self) with q2 | q2
        · exact q2.symm
        · have c1 := b1 x q
          have c2 := a1 y q2
          omega
    subst e
    refine congrArg (x :: ·) (up_eq a2 b2 fun k => ⟨fun q => ?_, fun q => ?_⟩)
    · rcases List.mem_cons.mp ((h k).mp (List.mem_cons_of_mem _ q)) with z | z
      · exact absurd (a1 k q) (by rw [z]; omega)
      · exact z
    · rcases List.mem_cons.mp ((h k).mpr (List.mem_cons_of_mem _ q)) with z | z
      · exact absurd (b1 k q) (by rw [z]; omega)
      · exact z
theorem sub_len : ∀ (l d : List Int), l.Nodup → (∀ x ∈ l, x ∈ d) → l.length ≤ d.length
  | [], _, _, _ => Nat.zero_le _
  | x :: l, d, hn, hs => by
    have hx := hs x List.mem_cons_self
    have e := List.length_erase_of_mem hx
    have p := List.length_pos_of_mem hx
    have ih := sub_len l (d.erase x) (List.nodup_cons.mp hn).2 fun y hy =>
      (List.mem_erase_of_ne (fun q : y = x => (List.nodup_cons.mp hn).1 (q ▸ hy))).mpr (hs y (List.mem_cons_of_mem _ hy))
    simp only [List.length_cons]
    omega
theorem setR_num {w : World} {h : Heap} {a : Addr} {c : Nat} {ns : List Int} (r : SetR w h a (fun j => decide (j ∈ ns)) c) : c = (isetI ns).length := by
  obtain ⟨o, es, ep, t, _, _, _, _, nd, mem, _, _, hn, _⟩ := r
  have e : ∀ k, k ∈ es.toList.map L2.keyOf ↔ k ∈ isetI ns := fun k => by rw [← mem k, decide_eq_true_eq, isetI_mem]
  have l1 := sub_len _ _ nd fun x hx => (e x).mp hx
  have l2 := sub_len _ _ (up_nodup (isetI_up ns)) fun x hx => (e x).mpr hx
  rw [List.length_map] at l1 l2
  have e3 : es.toList.length = es.size := Array.length_toList
  omega
section
variable {X : Cx}
/-- set(xs), xs a list or a tuple of ints -/
def rSetL (X : Cx) : List V → Hp → VK → Prop := fun xs H Q => ∃ (p : Addr) (ns : List Int), xs = [.ref p] ∧ (SqL X.K H p (ns.map V.int) ∨ SqT X.K H p (ns.map V.int)) ∧ ns.length ≤ 1000 ∧ ∀ q, H q = none → Q (.ref q) (upd H q (SetO X.w q (fun j => decide (j ∈ ns)) (isetI ns).length))
theorem cr_setL (hc : X.calm = true) : CallR X (.type "set") (rSetL X) := by
  intro pins s σ H xs us Q I r h
  obtain ⟨p, ns, rfl, hq, hl, q⟩ := h
  rw [Vals.ref1 r]
  have fin : ∀ (h' : Heap) (tk c : Nat), SetR X.w h' s.heap.objs.size (fun j => decide (j ∈ ns)) c → (∀ b o, s.heap.get? b = some o → h'.get? b = some o) → EP X pins σ Q (.ref s.heap.objs.size) { s with heap := h', toks := tk } := fun h' tk c R k => by
    have e := setR_num R
    subst e
    exact ⟨.ref _, _, I.laid (t' := tk) k (Nat.le_refl _) (setO_new R), rfl, q _ (I.hok.fresh (Nat.le_refl _))⟩
  rcases hq with hq | hq
  · obtain ⟨its, rv, pt, hz⟩ := I.list hq
    exact call_set_listI ns (I.ok.hd hc) pt.isList (ints_of_vals rv) (by unfold scanBound; omega) fun h' tk c R _ k => fin h' tk c R k
  · obtain ⟨its, rv, pt, hz⟩ := I.tuple hq
    exact call_set_tupI ns (I.ok.hd hc) (show s.heap.IsTuple p its.toArray from pt) (ints_of_vals rv) (by unfold scanBound; omega) fun h' tk c R _ k => fin h' tk c R k
/-- len(found) -/
def rLenS (w : World) : List V → Hp → VK → Prop := fun vs H Q => ∃ (a : Addr) (S : Int → Bool) (n : Nat), vs = [V.ref a] ∧ H a = some (SetO w a S n) ∧ n ≤ 1000 ∧ Q (.int (n : Nat)) H
theorem cr_lenS : CallR X (.builtin "len") (rLenS X.w) := by
  intro pins s σ H xs us Q I r h
  obtain ⟨a, S, n, rfl, ha, hn, q⟩ := h
  obtain ⟨o, es, ep, t, ho, hex, hd, _, _, _, _, hf, e, _⟩ := setO_get I ha
  rw [Vals.ref1 r]
  exact call_len_set ho hex hd hf (by omega) ⟨.int (n : Nat), H, I.tok _, ⟨_, by rw [e]⟩, q⟩
theorem isetI_len (ns : List Int) : (isetI ns).length ≤ ns.length := sub_len _ _ (up_nodup (isetI_up ns)) fun x hx => isetI_mem.mp hx
section
variable {l : Expr} {t : TE} {p p2 pos pos2 : Pos} {b : Bool}
theorem sset_in {F H : Hp} {x : V} {dx d : AV} (hF : Same F H) (o : Opd X.K X.w F H x dx) (e : bltop .sset [dx] = .ok d) : ∃ p ns, x = .ref p ∧ (SqL X.K H p (ns.map V.int) ∨ SqT X.K H p (ns.map V.int)) ∧ ns.length ≤ 1000 ∧ (isetI ns).length < 64 ∧ d = .list ((isetI ns).map .int) := by
  have key : ∀ (xs : List AV) (us : List V), RepL X.K X.w F us xs → ssetD xs = .ok d → ∃ ns : List Int, us = ns.map V.int ∧ ns.length ≤ 1000 ∧ (isetI ns).length < 64 ∧ d = .list ((isetI ns).map .int) := fun xs us r e => by
    unfold ssetD at e
    cases hi : ints? xs with
    | none => rw [hi] at e; cases e
    | some is =>
      rw [hi] at e
      have e : (if (decide (is.length ≤ 1000) && decide ((isetI is).length < 64)) = true then R.ok (PyData.list ((isetI is).map .int)) else .bad) = .ok d := e
      split at e
      · rename_i hc
        rw [Bool.and_eq_true, decide_eq_true_eq, decide_eq_true_eq] at hc
        cases e
        exact ⟨is, ints_rep hi r, hc.1, hc.2, rfl⟩
      · cases e
  cases dx with
  | list xs =>
    obtain ⟨a, us, rfl, hq, hr⟩ := o.listE
    obtain ⟨ns, rfl, h1, h2, h3⟩ := key xs us hr e
    exact ⟨a, ns, rfl, .inl hq.sql, h1, h2, h3⟩
  | tuple xs =>
    obtain ⟨a, us, rfl, hq, hr⟩ := o.tupE
    obtain ⟨ns, rfl, h1, h2, h3⟩ := key xs us hr e
    exact ⟨a, ns, rfl, .inr (Same.tup hF hq), h1, h2, h3⟩
  | _ => cases e
theorem sset_ok (hc : X.calm = true) (hl : PE X l t) (hs : stE l = false) (hg : Gl X "sorted") (hm : X.mg "sorted" = none) (hg2 : Gl X "set") (hm2 : X.mg "set" = none) :
    PE X (.Call (.Name "sorted" p) [.Call (.Name "set" p2) [l] [] pos2] [] pos) (tUn (rUn X.K X.w (fun x => bltop .sset [x]) b) t) :=
  (pe_callB (cr_sortedSet hc) hg hm PyProof.Rows.boot_sorted (pa_cons (pe_callTy (cr_setL hc) hg2 hm2 PyProof.Rows.boot_set (pa_cons (pe_up hl) pa_nil (star_plain hs)) (by decide) (by decide) (star_plain hs) rfl) pa_nil) (by decide) (by decide)).imp fun σ H Q h => ⟨_, h, fun v H1 ⟨F, dx, d, hF, ox, e, q⟩ => by
    obtain ⟨a, ns, rfl, hq, h1, h2, rfl⟩ := sset_in hF ox e
    refine ⟨a, ns, rfl, hq, h1, fun s hs2 => ⟨s, _, _, rfl, upd_same, h2, fun ms p2 up mem _ hp2 => ?_⟩⟩
    obtain rfl : ms = isetI ns := up_eq up (isetI_up ns) fun k => by rw [mem, decide_eq_true_eq, isetI_mem]
    have hX := ext_new (o := SetO X.w s (fun j => decide (j ∈ ns)) (isetI ns).length) hF hs2
    exact Res.newL hX.fh (rep_ints _) (fun v F2 H2 x1 x2 x3 => q v F2 H2 (hX.trans x1) (fun z => by obtain ⟨a2, xs, e1, e2, e3, e4⟩ := x2 z; exact ⟨a2, xs, e1, e2, hX.hh.free e3, e4⟩) x3) hp2⟩
end
end
end Ev
end

section
set_option linter.all false
set_option autoImplicit false
set_option maxRecDepth 100000
set_option maxHeartbeats 4000000
/-! EvX: len(set(..)); all rules. -/
namespace Ev
open PySem PySem.Spec PyProof.Rows L2
section
variable {X : Cx} {l : Expr} {t : TE} {p p2 pos pos2 : Pos} {b : Bool}
theorem lset_in {F H : Hp} {x : V} {dx d : AV} (hF : Same F H) (o : Opd X.K X.w F H x dx) (e : bltop .lset [dx] = .ok d) : ∃ p ns, x = .ref p ∧ (SqL X.K H p (ns.map V.int) ∨ SqT X.K H p (ns.map V.int)) ∧ ns.length ≤ 1000 ∧ d = .int (isetI ns).length := by
  cases dx with
  | list xs =>
    obtain ⟨a, us, rfl, hq, hr⟩ := o.listE
    have e : (match ints? xs with
      | some is => if decide (is.length ≤ 1000) = true then R.ok (PyData.int (isetI is).length) else .bad
      | none => .bad) = .ok d := e
    cases hi : ints? xs with
    | none => rw [hi] at e; cases e
    | some is =>
      rw [hi] at e
      have e : (if decide (is.length ≤ 1000) = true then R.ok (PyData.int (isetI is).length) else .bad) = .ok d := e
      split at e
      · rename_i hc
        cases e
        obtain rfl := ints_rep hi hr
        exact ⟨a, is, rfl, .inl hq.sql, by simpa using hc, rfl⟩
      · cases e
  | _ => cases e
theorem lset_ok (hc : X.calm = true) (hl : PE X l t) (hs : stE l = false) (hg : Gl X "len") (hm : X.mg "len" = none) (hg2 : Gl X "set") (hm2 : X.mg "set" = none) :
    PE X (.Call (.Name "len" p) [.Call (.Name "set" p2) [l] [] pos2] [] pos) (tUn (rUn X.K X.w (fun x => bltop .lset [x]) b) t) :=
  (pe_callB cr_lenS hg hm PySem.boot_len (pa_cons (pe_callTy (cr_setL hc) hg2 hm2 PyProof.Rows.boot_set (pa_cons (pe_up hl) pa_nil (star_plain hs)) (by decide) (by decide) (star_plain hs) rfl) pa_nil) (by decide) (by decide)).imp fun σ H Q h => ⟨_, h, fun v H1 ⟨F, dx, d, hF, ox, e, q⟩ => by
    obtain ⟨a, ns, rfl, hq, h1, rfl⟩ := lset_in hF ox e
    refine ⟨a, ns, rfl, hq, h1, fun s hs2 => ⟨s, _, _, rfl, upd_same, Nat.le_trans (isetI_len ns) h1, ?_⟩⟩
    have hX := ext_new (o := SetO X.w s (fun j => decide (j ∈ ns)) (isetI ns).length) hF hs2
    exact q _ F _ hX (fun _ => NewV.of_rep rfl (.int _)) fun _ => .int _⟩
end
end Ev
end

section
set_option linter.all false
set_option autoImplicit false
set_option maxRecDepth 100000
set_option maxHeartbeats 4000000
/-! EvX2: all rules. -/
namespace Ev
open PySem PySem.Spec PyProof.Rows L2
theorem isi_ok {sc : Scope} {T : Str} {e l : Expr} (h : isi sc T e = some l) : ∃ p q pos, e = .Call (.Name "isinstance" p) [l, .Name T q] [] pos ∧ glB sc "isinstance" = true ∧ glB sc T = true ∧ stE l = false := by
  unfold isi at h
  split at h
  · split at h
    · rename_i hc
      simp only [Bool.and_eq_true, decide_eq_true_eq, Bool.not_eq_true'] at hc
      obtain ⟨⟨⟨⟨h1, h2⟩, h3⟩, h4⟩, h5⟩ := hc
      cases h
      subst h1 h3
      exact ⟨_, _, _, rfl, h2, h4, h5⟩
    · cases h
  · cases h
theorem isi2_ok {sc : Scope} {e l : Expr} (h : isi2 sc e = some l) : ∃ p q1 q2 k q3 pos, e = .Call (.Name "isinstance" p) [l, .Tuple [.Name "tuple" q1, .Name "list" q2] k q3] [] pos ∧ glB sc "isinstance" = true ∧ glB sc "tuple" = true ∧ glB sc "list" = true ∧ stE l = false := by
  unfold isi2 at h
  split at h
  · split at h
    · rename_i hc
      simp only [Bool.and_eq_true, decide_eq_true_eq, Bool.not_eq_true'] at hc
      obtain ⟨⟨⟨⟨⟨⟨h1, h2⟩, h3⟩, h4⟩, h5⟩, h6⟩, h8⟩ := hc
      cases h
      subst h1 h3 h5
      exact ⟨_, _, _, _, _, _, rfl, h2, h4, h6, h8⟩
    · cases h
  · cases h
theorem revE_ok {e l : Expr} (h : revE e = some l) : ∃ k p1 p2 p3 pos, e = .Subscript l (.Slice none none (some (.UnaryOp .USub (.Constant (.int 1) k p1) p2)) p3) pos := by
  unfold revE at h
  split at h
  · cases h
    exact ⟨_, _, _, _, _, rfl⟩
  · cases h
theorem bind1_ok {sc : Scope} {nm nm2 : Str} {e l : Expr} (h : (call1 sc nm e).bind (call1 sc nm2) = some l) : ∃ p pos p2 pos2, e = .Call (.Name nm p) [.Call (.Name nm2 p2) [l] [] pos2] [] pos ∧ glB sc nm = true ∧ glB sc nm2 = true ∧ stE l = false := by
  cases h1 : call1 sc nm e with
  | none => rw [h1] at h; cases h
  | some l1 =>
    rw [h1] at h
    obtain ⟨p, pos, rfl, g1, s1⟩ := call1_ok h1
    obtain ⟨p2, pos2, rfl, g2, s2⟩ := call1_ok h
    exact ⟨p, pos, p2, pos2, rfl, g1, g2, s2⟩
theorem bind2_ok {sc : Scope} {nm nm2 : Str} {e l r : Expr} (h : (call1 sc nm e).bind (call2 sc nm2) = some (l, r)) : ∃ p pos p2 pos2, e = .Call (.Name nm p) [.Call (.Name nm2 p2) [l, r] [] pos2] [] pos ∧ glB sc nm = true ∧ glB sc nm2 = true ∧ stE l = false ∧ stE r = false := by
  cases h1 : call1 sc nm e with
  | none => rw [h1] at h; cases h
  | some l1 =>
    rw [h1] at h
    obtain ⟨p, pos, rfl, g1, s1⟩ := call1_ok h1
    obtain ⟨p2, pos2, rfl, g2, s2, s3⟩ := call2_ok h
    exact ⟨p, pos, p2, pos2, rfl, g1, g2, s2, s3⟩
theorem ab_base {l : Expr} (h : abE l = true) (nm : Str) (env : PySem.Env) : attributeBase l nm env (eval l env) = eval l env := by
  cases l <;> first
    | rfl
    | cases h
section
variable {P : Tab} {k : Nat} {c : Cx}
theorem rules_ok (G : Good P k c) : Rls c := by
  have fre : ∀ x ∈ bnames, c.mg x = none := G.fre
  have u64 : c.A.units + 64 < cLine := by have := G.room.un; omega
  have u65 : c.A.units + 65 < cLine := by have := G.room.un; omega
  refine ⟨⟨fun op b => ?_, fun op b => ?_, ix_E, fun b => sl_E⟩, fun f e l h => ?_, fun f e l r h => ?_, fun m e l r h => ?_, fun es n tp l p pos cal b a hg hs ha => ?_, fre _ (by decide), by omega⟩
  · cases op
    · exact op_addE
    · exact op_subE
    · exact op_mulE
    · exact op_fdivE
    · exact op_modE
    · exact op_powE
  · cases op
    · exact op_eqE u64
    · exact op_neE u64
    · exact op_ltE u64
    · exact op_leE u64
    · exact op_gtE u64
    · exact op_geE u64
    · exact op_isE
    · exact op_isnotE
    · exact op_inE u65
    · exact op_ninE u65
  · cases f <;> first
      | (cases h; done)
      | (obtain ⟨p, pos, rfl, g, hs⟩ := call1_ok h
         refine ⟨rfl, fun nb t hf hl => ?_⟩
         first
           | exact callB1 cr_lenE (glB_ok g) (fre _ (by decide)) PySem.boot_len hl hs (by decide) (by decide)
           | exact callB1 (cr_sumE G.calm) (glB_ok g) (fre _ (by decide)) PyProof.Rows.boot_sum hl hs (by decide) (by decide)
           | exact callB1 (cr_allE G.calm) (glB_ok g) (fre _ (by decide)) PyProof.Rows.boot_all hl hs (by decide) (by decide)
           | exact callB1 (cr_anyE G.calm) (glB_ok g) (fre _ (by decide)) PyProof.Rows.boot_any hl hs (by decide) (by decide)
           | exact callB1 (cr_sortedE u64) (glB_ok g) (fre _ (by decide)) PyProof.Rows.boot_sorted hl hs (by decide) (by decide)
           | exact callB1 cr_absE (glB_ok g) (fre _ (by decide)) PyProof.Rows.boot_abs hl hs (by decide) (by decide)
           | exact callT1 (cr_listE G.calm) (glB_ok g) (fre _ (by decide)) PyProof.Rows.boot_list hl hs (by decide) (by decide)
           | exact callT1 cr_tupleE (glB_ok g) (fre _ (by decide)) PyProof.Rows.boot_tuple hl hs (by decide) (by decide)
           | exact callT1 cr_intE (glB_ok g) (fre _ (by decide)) PyProof.Rows.boot_int hl hs (by decide) (by decide)
           | exact callT1 cr_strE (glB_ok g) (fre _ (by decide)) PyProof.Rows.boot_str hl hs (by decide) (by decide)
           | (cases nb with
              | true => exact absurd (hf rfl) (by decide)
              | false => first
                | exact callB1 (cr_minE G.calm u64) (glB_ok g) (fre _ (by decide)) PyProof.Rows.boot_min hl hs (by decide) (by decide)
                | exact callB1 (cr_maxE G.calm u64) (glB_ok g) (fre _ (by decide)) PyProof.Rows.boot_max hl hs (by decide) (by decide)))
      | (obtain ⟨p, q, pos, rfl, g1, g2, hs⟩ := isi_ok h
         refine ⟨rfl, fun nb t hf hl => ?_⟩
         first
           | exact isi1_ok (c := "int") rfl hl hs (glB_ok g1) (fre _ (by decide)) (glB_ok g2) (fre _ (by decide)) PyProof.Rows.boot_int (by decide) (by decide)
           | exact isi1_ok (c := "bool") rfl hl hs (glB_ok g1) (fre _ (by decide)) (glB_ok g2) (fre _ (by decide)) PyProof.Rows.boot_bool (by decide) (by decide)
           | exact isi1_ok (c := "tuple") rfl hl hs (glB_ok g1) (fre _ (by decide)) (glB_ok g2) (fre _ (by decide)) PyProof.Rows.boot_tuple (by decide) (by decide)
           | exact isi1_ok (c := "str") rfl hl hs (glB_ok g1) (fre _ (by decide)) (glB_ok g2) (fre _ (by decide)) PyProof.Rows.boot_str (by decide) (by decide)
           | exact isi1_ok (c := "list") rfl hl hs (glB_ok g1) (fre _ (by decide)) (glB_ok g2) (fre _ (by decide)) PyProof.Rows.boot_list (by decide) (by decide))
      | (obtain ⟨p, q1, q2, k, q3, pos, rfl, g1, g2, g3, hs⟩ := isi2_ok h
         exact ⟨rfl, fun nb t hf hl => isTL_ok hl hs (glB_ok g1) (fre _ (by decide)) (glB_ok g2) (fre _ (by decide)) (glB_ok g3) (fre _ (by decide))⟩)
      | (obtain ⟨k, p1, p2, p3, pos, rfl⟩ := revE_ok h
         exact ⟨rfl, fun nb t hf hl => rev_ok hl⟩)
      | (obtain ⟨p, pos, p2, pos2, rfl, g1, g2, hs⟩ := bind1_ok h
         refine ⟨rfl, fun nb t hf hl => ?_⟩
         first
           | exact lrng1_ok G.calm hl hs (glB_ok g1) (fre _ (by decide)) (glB_ok g2) (fre _ (by decide))
           | exact trng1_ok G.calm hl hs (glB_ok g1) (fre _ (by decide)) (glB_ok g2) (fre _ (by decide))
           | exact sset_ok G.calm hl hs (glB_ok g1) (fre _ (by decide)) (glB_ok g2) (fre _ (by decide))
           | exact lset_ok G.calm hl hs (glB_ok g1) (fre _ (by decide)) (glB_ok g2) (fre _ (by decide)))
  · cases f <;> first
      | (cases h; done)
      | (obtain ⟨p, pos, rfl, g, hs, hs2⟩ := call2_ok h
         refine ⟨rfl, fun nb t u hf hl hr => ?_⟩
         first
           | exact (mm2_ok (mx := false) G.calm hl hr hs hs2).1 rfl (glB_ok g) (fre _ (by decide))
           | exact (mm2_ok (mx := true) G.calm hl hr hs hs2).2 rfl (glB_ok g) (fre _ (by decide)))
      | (obtain ⟨p, pos, p2, pos2, rfl, g1, g2, hs, hs2⟩ := bind2_ok h
         refine ⟨rfl, fun nb t u hf hl hr => ?_⟩
         first
           | exact lrng2_ok G.calm hl hr hs hs2 (glB_ok g1) (fre _ (by decide)) (glB_ok g2) (fre _ (by decide))
           | exact trng2_ok G.calm hl hr hs hs2 (glB_ok g1) (fre _ (by decide)) (glB_ok g2) (fre _ (by decide)))
  · unfold shm1 at h
    split at h
    · split at h
      · rename_i hc
        simp only [Bool.and_eq_true, decide_eq_true_eq, Bool.not_eq_true'] at hc
        obtain ⟨⟨⟨h1, h2⟩, h3⟩, h4⟩ := hc
        cases h
        refine ⟨rfl, mth_list h1, fun t u hl hr => ?_⟩
        cases m <;> first
          | (cases h1; done)
          | (cases h1; exact meth_pe PySem.F.slot_list_index PySem.F.type_list_index (mt_indexE u65) hl hr h4 (ab_base h3 _ _) h2)
          | (cases h1; exact meth_pe PySem.F.slot_list_count PySem.F.type_list_count (mt_countE u65) hl hr h4 (ab_base h3 _ _) h2)
      · cases h
    · cases h
  · exact it_enum b (glB_ok hg) (fre _ (by decide)) hs ha
end
end Ev
end

section
set_option linter.all false
set_option autoImplicit false
set_option maxRecDepth 100000
set_option maxHeartbeats 4000000
/-! EvQ: the head's facts; a law's end over a list of defs. -/
namespace Ev
open PySem PySem.Spec PyProof.Rows L2
def Bnd (e : Src) : Prop := ∀ (kV doc pm : Value) (an : Option Addr) (cdv ct : Value) (us : List Value), us.length = e.ps.length → bindArgs (PySem.W.fnOf e.x e.x e.params e.body e.scope .none kV doc pm an cdv ct) ⟨us, []⟩ = pure (e.ps.zip us)
def AllB : List Src → Prop
  | [] => True
  | e :: r => Bnd e ∧ AllB r
theorem AllB.at : ∀ {l : List Src} {e : Src}, AllB l → e ∈ l → Bnd e
  | [], _, _, h => by cases h
  | x :: l, e, hb, h => by
    rcases List.mem_cons.mp h with rfl | h
    · exact hb.1
    · exact AllB.at hb.2 h
def tabOf (srcs : List Src) (gs : List (Str × AV)) : Tab := ⟨fun f => (srcs.find? fun e => Nat.beq e.id f).map (·.D), fun f => ((srcs.find? fun e => Nat.beq e.id f).map (·.x)).getD "", fun y => (gs.find? fun p => decide (p.1 = y)).map (·.2)⟩
def dOf (e : Src) : He.DefD := ⟨(e.x, none), e.x, e.x, e.params, e.body, e.scope, [], []⟩
def dvOf : AV → He.Dv
  | .int i => .int i
  | .str x => .str x
  | _ => .non
def atomB : AV → Bool
  | .int _ => true
  | .str _ => true
  | _ => false
/-- a constant of the module stands there -/
def gB (K : PySem.W.Frag) : Str × AV → Bool
  | (y, .int i) => (He.Fa.int y i).ok K
  | (y, .str z) => (He.Fa.str y z).ok K
  | (y, .tuple ds) => (He.Fa.glo y).ok K && (He.tupB K y (ds.map dvOf) && ds.all atomB)
  | _ => false
def fasOf (srcs : List Src) : List He.Fa := (srcs.map fun e => He.Fa.glo e.x) ++ bnames.map He.Fa.free
def obsX (srcs : List Src) (gs : List (Str × AV)) (K : PySem.W.Frag) : He.AlD :=
  ((((fasOf srcs).all fun f => f.ok K) && (srcs.all fun e => (dOf e).ok K)) && gs.all (gB K), srcs.map fun e => He.fnW K (dOf e).at_)
def valX (srcs : List Src) : He.AlD := (true, srcs.map fun e => (dOf e).val)
def obsXG (n : Nat) (srcs : List Src) (gs : List (Str × AV)) (g : Addr → Option Obj) : He.AlD := obsX srcs gs (He.frG g (He.asD g n))
def hookX (n : Nat) (srcs : List Src) (gs : List (Str × AV)) : PySem.W.Hook where
  α := He.AlD
  obs s := obsXG n srcs gs s.heap.get?
  val _ := valX srcs
  says _ h := ∃ K : PySem.W.Frag, K.In h ∧ obsX srcs gs K = valX srcs
  of _ _ e := ⟨_, He.frG_in, e⟩
  keeps _ _ _ x k := x.elim fun K y => ⟨K, PySem.W.Frag.In.keeps y.1 k, y.2⟩
theorem obsXG_eq {n : Nat} {srcs : List Src} {gs : List (Str × AV)} {g : Addr → Option Obj} {s : Shared} (h : ∀ a, g a = s.heap.get? a) : obsXG n srcs gs g = (hookX n srcs gs).obs s := by
  have e : g = s.heap.get? := funext h
  subst e
  rfl
theorem rep_atoms {K : PySem.W.Frag} {w : World} {F : Hp} : ∀ {ds : List AV}, ds.all atomB = true → RepL K w F ((ds.map dvOf).map (He.Dv.v K)) ds
  | [], _ => .nil
  | d :: ds, h => by
    simp only [List.all_cons, Bool.and_eq_true] at h
    refine .cons ?_ (rep_atoms h.2)
    cases d with
    | int i => exact .int i
    | str x => exact .str x
    | _ => cases h.1
theorem gB_ok {K : PySem.W.Frag} {w : World} {h : Heap} {mg : Str → Option Value} (X : K.In h) (G : h.Ns mainGlobals mg) {y : Str} {a : AV} (c : gB K (y, a) = true) : ∃ v u, mg y = some u ∧ RelV v u ∧ ∀ F, Rep K w F v a := by
  cases a with
  | int i => obtain ⟨t, e⟩ := He.int_ok X G c; exact ⟨.int i, _, e, ⟨t, rfl⟩, fun _ => .int i⟩
  | str z => obtain ⟨t, e⟩ := He.str_ok X G c; exact ⟨.str z, _, e, ⟨t, rfl⟩, fun _ => .str z⟩
  | tuple ds =>
    have c : ((He.Fa.glo y).ok K && (He.tupB K y (ds.map dvOf) && ds.all atomB)) = true := c
    simp only [Bool.and_eq_true] at c
    exact ⟨.ref (He.ga K y), _, He.glo_ok X G c.1, rfl, fun F => .tup (He.tupB_ok c.2.1 F) (rep_atoms c.2.2)⟩
  | _ => cases c
theorem find_src {srcs : List Src} {gs : List (Str × AV)} {f : Nat} {D : Def} (h : (tabOf srcs gs) f = some D) : ∃ e ∈ srcs, e.id = f ∧ e.D = D ∧ (tabOf srcs gs).nm f = e.x := by
  obtain ⟨e, h1, h2⟩ := Option.map_eq_some_iff.mp (show ((srcs.find? fun e => Nat.beq e.id f).map (·.D)) = some D from h)
  refine ⟨e, List.mem_of_find?_eq_some h1, Nat.eq_of_beq_eq_true (List.find?_some (p := fun e : Src => Nat.beq e.id f) h1), h2, ?_⟩
  show ((srcs.find? fun e => Nat.beq e.id f).map (·.x)).getD ("" : Str) = e.x
  rw [h1]
  rfl
theorem find_con {srcs : List Src} {gs : List (Str × AV)} {y : Str} {a : AV} (h : (tabOf srcs gs).g y = some a) : (y, a) ∈ gs := by
  obtain ⟨e, h1, h2⟩ := Option.map_eq_some_iff.mp (show ((gs.find? fun p => decide (p.1 = y)).map (·.2)) = some a from h)
  have h3 := List.mem_of_find?_eq_some h1
  have h4 : e.1 = y := by simpa using List.find?_some h1
  obtain ⟨e1, e2⟩ := e
  cases h4
  cases h2
  exact h3
theorem src_at {srcs : List Src} {gs : List (Str × AV)} {K : PySem.W.Frag} (c : obsX srcs gs K = valX srcs) {e : Src} (he : e ∈ srcs) : ∃ fd, FunD K e.x e.x e.params e.body e.scope [] [] (He.ga K e.x) fd := by
  obtain ⟨i, hi, rfl⟩ := List.getElem_of_mem he
  have h1 : ((((fasOf srcs).all fun f => f.ok K) && (srcs.all fun e => (dOf e).ok K)) && gs.all (gB K)) = true := congrArg (fun z : He.AlD => z.1) c
  simp only [Bool.and_eq_true] at h1
  have h2 : (srcs.map fun e => He.fnW K (dOf e).at_) = srcs.map fun e => (dOf e).val := congrArg (fun z : He.AlD => z.2) c
  have h3 : (srcs.map fun e => He.fnW K (dOf e).at_)[i]? = (srcs.map fun e => (dOf e).val)[i]? := by rw [h2]
  rw [List.getElem?_map, List.getElem?_map, List.getElem?_eq_getElem hi] at h3
  exact He.DefD.funD (Option.some.inj h3) (List.all_eq_true.mp h1.1.2 _ he)
/-- a law whose own evaluation ends with True keeps it on the machine -/
theorem law_facts {srcs : List Src} {gs : List (Str × AV)} {prog : Program} {w : World} {K : PySem.W.Frag} {h : Heap} {mg : Str → Option Value} {x : Str} {e0 : Src} {fa : Addr} {k : Nat} (X : K.In h) (G : h.Ns mainGlobals mg) (c : obsX srcs gs K = valX srcs)
    (hb : AllB srcs) (hs : srcs.all (srcB (tabOf srcs gs)) = true) (h0 : (tabOf srcs gs) e0.id = some e0.D) (hp : e0.ps = [x]) (hio : e0.D.io = []) (he0 : e0 ∈ srcs) (hfa : mg e0.x = some (.ref fa)) :
    ∃ fd : FuncData, (∀ (s : Shared) (u : Value), BindsTo s fd ⟨[u], []⟩ [(x, u)]) ∧ ∀ base : Heap, K.In base → base.Ns mainGlobals mg → FnOk prog w K mg base CX0 (k + 1) fa fd [x] (spD K w (callD (tabOf srcs gs) (k + 1) e0.id) []) := by
  have h1 : ((((fasOf srcs).all fun f => f.ok K) && (srcs.all fun e => (dOf e).ok K)) && gs.all (gB K)) = true := congrArg (fun z : He.AlD => z.1) c
  simp only [Bool.and_eq_true] at h1
  have glo : ∀ e ∈ srcs, mg e.x = some (.ref (He.ga K e.x)) := fun e he => He.glo_ok X G (List.all_eq_true.mp h1.1.1 (.glo e.x) (List.mem_append_left _ (List.mem_map_of_mem he)))
  have fre : ∀ b ∈ bnames, mg b = none := fun b hb => He.free_ok X G (List.all_eq_true.mp h1.1.1 (.free b) (List.mem_append_right _ (List.mem_map_of_mem hb)))
  have con : ∀ y a, (tabOf srcs gs).g y = some a → ∃ v u, mg y = some u ∧ RelV v u ∧ ∀ F, Rep K w F v a := fun y a hy => gB_ok X G (List.all_eq_true.mp h1.2 _ (find_con hy))
  obtain ⟨fd, F⟩ := src_at c he0
  have e := hfa.symm.trans (glo e0 he0)
  cases e
  have bnd : ∀ e ∈ srcs, ∀ {fa : Addr} {fd : FuncData}, FunD K e.x e.x e.params e.body e.scope [] [] fa fd → Binds K fd e.ps [] := fun e he _ _ F => FunD.bindsN F (hb.at he)
  have b := FunD.bindsA (ps := e0.ps) F (hb.at he0)
  rw [hp] at b
  refine ⟨fd, fun s u => b s [u] rfl, fun base _ _ => ?_⟩
  have hT : ∀ f D, (tabOf srcs gs) f = some D → ∃ (e : Src) (fa : Addr) (fd : FuncData), e.id = f ∧ e.D = D ∧ srcB (tabOf srcs gs) e = true ∧ FunD K e.x e.x e.params e.body e.scope [] [] fa fd ∧ mg ((tabOf srcs gs).nm f) = some (.ref fa) ∧ Binds K fd e.ps [] := fun f D hf => by
    obtain ⟨e, he, rfl, rfl, en⟩ := find_src hf
    obtain ⟨fd, F⟩ := src_at c he
    exact ⟨e, _, fd, rfl, rfl, List.all_eq_true.mp hs e he, F, en ▸ glo e he, bnd e he F⟩
  have A := all_ok (prog := prog) (base := base) (fun k c => rules_ok) fre con hT
  have R := def_ok (prog := prog) (base := base) (fun c => rules_ok) h0 (List.all_eq_true.mp hs e0 he0) F fre con (A k)
  rw [hp, hio] at R
  exact R
end Ev
end

section
set_option linter.all false
set_option autoImplicit false
/-! Wk0: a value evaluator for pure expressions. -/
namespace Ev
open PySem (Str PyData)
def loopV (f : AV → R (List AV)) : List AV → R (List AV)
  | [] => .ok []
  | x :: xs => do
    let a ← f x
    let b ← loopV f xs
    .ok (a ++ b)
/-- by a test -/
def R.tf {α : Type} (b : Bool) (x y : R α) : R α := match b with
  | true => x
  | false => y
/-- of a list or a tuple -/
def itL : AV → R (List AV)
  | .list xs => .ok xs
  | .tuple xs => .ok xs
  | _ => .bad
def rng1 : AV → R (List AV)
  | .int n => if okRng n then .ok (rangeD 0 n) else .bad
  | _ => .bad
def rng2 : AV → AV → R (List AV)
  | .int m, .int n => if okRng m && okRng n then .ok (rangeD m n) else .bad
  | _, _ => .bad
def enuL (v : AV) : R (List AV) := match items? v with
  | some xs => .ok (enumD 0 xs)
  | none => .bad
def starL (v : AV) (vs : List AV) : R (List AV) := match items? v with
  | some xs => if xs.length ≤ line then .ok (xs ++ vs) else .bad
  | none => .bad
def tmpL (v : AV) (vs : List AV) : R (List AV) := if mutA v then .ok (v :: vs) else .bad
def dItems : AV → R (List AV)
  | .dict kvs => .ok (kvs.map (fun p => .tuple [p.1, p.2]))
  | _ => .bad
def dVals : AV → R (List AV)
  | .dict kvs => .ok (kvs.map (·.2))
  | _ => .bad
def negV : AV → R AV
  | .int i => .ok (.int (-i))
  | _ => .bad
def sliV (x : AV) (l h : Option AV) : R AV := match l, h with
  | none, none => slcop x none none
  | some (.int i), none => slcop x (some i) none
  | none, some (.int j) => slcop x none (some j)
  | some (.int i), some (.int j) => slcop x (some i) (some j)
  | _, _ => .bad
def dispD (vs : List AV) : R AV := match pairs? vs with
  | some kvs => do .ok (.dict (← dputs [] kvs))
  | none => .bad
def outN (p : AV × List AV) : R AV := match p.2 with
  | [] => .ok p.1
  | _ => .bad
/-- a comprehension's condition -/
def R.cond (b : Option AV) (x : R (List AV)) : R (List AV) := match b with
  | none => x
  | some b => do R.tf (← asB b) x (.ok [])
def dMerge (acc : List (AV × AV)) : AV → R (List (AV × AV))
  | .dict kvs => if acc.isEmpty && kvs.all (fun p => !isTup p.1) then .ok kvs else .bad
  | _ => .bad
section
variable (cal : Cal)
mutual
def vE : X → Env → R AV
  | .var i, env => look env i
  | .con a, _ => .ok a
  | .bin op a b, env => do binop op (← vE a env) (← vE b env)
  | .neg a, env => do negV (← vE a env)
  | .not a, env => do .ok (.bool (!(← asB (← vE a env))))
  | .and a b, env => do
    R.tf (← asB (← vE a env)) (do .ok (.bool (← asB (← vE b env)))) (.ok (.bool false))
  | .or a b, env => do
    R.tf (← asB (← vE a env)) (.ok (.bool true)) (do .ok (.bool (← asB (← vE b env))))
  | .cmp op a b, env => do cmpop op (← vE a env) (← vE b env)
  | .chain op op' a b c, env => do
    let x ← vE a env
    let y ← vE b env
    R.tf (← asB (← cmpop op x y)) (do .ok (.bool (← asB (← cmpop op' y (← vE c env))))) (.ok (.bool false))
  | .ite c a b, env => do
    R.tf (← asB (← vE c env)) (vE a env) (vE b env)
  | .tup es, env => do tupR (← vXs es env)
  | .lst es, env => do lstR (← vXs es env)
  | .dict es, env => do .ok (.dict (← vDs es [] env))
  | .idx a i, env => do idxop (← vE a env) (← vE i env)
  | .slc a lo hi, env => do
    let x ← vE a env
    let l ← vOx lo env
    let h ← vOx hi env
    sliV x l h
  | .comp _ cs e, env => do lstR (← vCs cs (fun env => do .ok [← vE e env]) env)
  | .dcomp _ cs k v, env => do dispD (← vCs cs (fun env => do .ok [.tuple [← vE k env, ← vE v env]]) env)
  | .call f es, env => do
    outN (← cal f (← vXs es env))
  | .blt f es, env => do bltop f (← vXs es env)
  | .meth m o es, env => do mthop m (← vE o env) (← vXs es env)
  | .pop _ _, _ => .bad
def vXs : Xs → Env → R (List AV)
  | .nil, _ => .ok []
  | .cons e r, env => do
    let v ← vE e env
    let vs ← vXs r env
    .ok (v :: vs)
  | .star e r, env => do
    let v ← vE e env
    let vs ← vXs r env
    starL v vs
  | .tmp e r, env => do
    let v ← vE e env
    let vs ← vXs r env
    tmpL v vs
  | .io _ _, _ => .bad
def vOx : Ox → Env → R (Option AV)
  | .none, _ => .ok none
  | .some e, env => do .ok (some (← vE e env))
def vDs : Ds → List (AV × AV) → Env → R (List (AV × AV))
  | .nil, acc, _ => .ok acc
  | .kv k v r, acc, env => do
    let a ← vE k env
    let b ← vE v env
    vDs r (← dput' acc a b) env
  | .star d r, acc, env => do
    vDs r (← dMerge acc (← vE d env)) env
def vCs : Cs → (Env → R (List AV)) → Env → R (List AV)
  | .nil, last, env => last env
  | .cons ws tg it c r, last, env => do
    let xs ← vIt it env
    loopV (fun x => do
      let env2 ← bindTg tg x (wipeE env ws)
      R.cond (← vOx c env2) (vCs r last env2)) xs
def vIt : It → Env → R (List AV)
  | .expr e, env => do itL (← vE e env)
  | .rng1 a, env => do rng1 (← vE a env)
  | .rng2 a b, env => do rng2 (← vE a env) (← vE b env)
  | .enum e, env => do enuL (← vE e env)
  | .items e, env => do dItems (← vE e env)
  | .vals e, env => do dVals (← vE e env)
end
end
/-! ### pure, names of comprehensions their own -/
def plXs : Xs → Bool
  | .nil => true
  | .cons _ r => plXs r
  | .star _ r => plXs r
  | .tmp _ _ => false
  | .io _ _ => false
mutual
def puE : X → Bool
  | .var _ => true
  | .con _ => true
  | .bin _ a b => puE a && puE b
  | .neg a => puE a
  | .not a => puE a
  | .and a b => puE a && puE b
  | .or a b => puE a && puE b
  | .cmp _ a b => puE a && puE b
  | .chain _ _ a b c => puE a && puE b && puE c
  | .ite c a b => puE c && puE a && puE b
  | .tup es => puXs es
  | .lst es => puXs es
  | .dict es => puDs es
  | .idx a i => puE a && puE i
  | .slc a lo hi => puE a && puOx lo && puOx hi
  | .comp own cs e => puCs own cs && puE e
  | .dcomp own cs k v => puCs own cs && puE k && puE v
  | .call _ es => puXs es && plXs es
  | .blt _ es => puXs es
  | .meth _ o es => puE o && puXs es
  | .pop _ _ => false
def puXs : Xs → Bool
  | .nil => true
  | .cons e r => puE e && puXs r
  | .star e r => puE e && puXs r
  | .tmp e r => puE e && puXs r
  | .io _ _ => false
def puOx : Ox → Bool
  | .none => true
  | .some e => puE e
def puDs : Ds → Bool
  | .nil => true
  | .kv k v r => puE k && puE v && puDs r
  | .star d r => puE d && puDs r
def puCs : Sl → Cs → Bool
  | _, .nil => true
  | S, .cons ws tg it c r => sub ws S && sub (tgsOf tg) ws && puIt it && puOx c && puCs ws r
def puIt : It → Bool
  | .expr e => puE e
  | .rng1 a => puE a
  | .rng2 a b => puE a && puE b
  | .enum e => puE e
  | .items e => puE e
  | .vals e => puE e
end
/-- alike but at some slots -/
def Ag (S : Sl) (e e' : Env) : Prop := e.length = e'.length ∧ ∀ i, i ∉ S → e[i]? = e'[i]?
theorem Ag.refl (S : Sl) (e : Env) : Ag S e e := ⟨rfl, fun _ _ => rfl⟩
theorem Ag.trans {S : Sl} {a b c : Env} (h : Ag S a b) (g : Ag S b c) : Ag S a c := ⟨h.1.trans g.1, fun i hi => (h.2 i hi).trans (g.2 i hi)⟩
theorem Ag.symm {S : Sl} {a b : Env} (h : Ag S a b) : Ag S b a := ⟨h.1.symm, fun i hi => (h.2 i hi).symm⟩
theorem Ag.mono {S T : Sl} {a b : Env} (h : Ag S a b) (q : ∀ i ∈ S, i ∈ T) : Ag T a b := ⟨h.1, fun i hi => h.2 i fun z => hi (q i z)⟩
theorem ag_set {S : Sl} (e : Env) {i : Nat} (v : Option AV) (h : i ∈ S) : Ag S e (e.set i v) := ⟨by rw [List.length_set], fun j hj => by
  rw [List.getElem?_set_ne]
  intro z
  subst z
  exact hj h⟩
theorem wipe_len (e : Env) : ∀ ws : List Nat, (wipeE e ws).length = e.length
  | [] => rfl
  | i :: is => by rw [wipeE, List.length_set, wipe_len e is]
theorem wipe_get (e : Env) (j : Nat) : ∀ ws : List Nat, (wipeE e ws)[j]? = if j ∈ ws then (if j < e.length then some none else none) else e[j]?
  | [] => by rw [wipeE, if_neg (by simp)]
  | i :: is => by
    rw [wipeE, List.getElem?_set, wipe_get e j is, wipe_len]
    by_cases h : i = j
    · subst h
      rw [if_pos rfl, if_pos List.mem_cons_self]
    · rw [if_neg h]
      by_cases h2 : j ∈ is
      · rw [if_pos h2, if_pos (List.mem_cons_of_mem _ h2)]
      · rw [if_neg h2, if_neg (fun z => (List.mem_cons.mp z).elim (fun z => h z.symm) h2)]
theorem wipe_ag (e : Env) (ws : Sl) : Ag ws e (wipeE e ws) := ⟨(wipe_len e ws).symm, fun i hi => by rw [wipe_get, if_neg hi]⟩
theorem wipe_same {e e' : Env} {ws : Sl} (h : Ag ws e e') : wipeE e ws = wipeE e' ws := List.ext_getElem? fun i => by
  rw [wipe_get, wipe_get]
  by_cases hi : i ∈ ws
  · rw [if_pos hi, if_pos hi, h.1]
  · rw [if_neg hi, if_neg hi, h.2 i hi]
theorem back_len (e0 e : Env) : ∀ ws : List Nat, (back e0 e ws).length = e.length
  | [] => rfl
  | i :: is => by rw [back, List.length_set, back_len e0 e is]
theorem back_get (e0 e : Env) (j : Nat) : ∀ ws : List Nat, (back e0 e ws)[j]? = if j ∈ ws then (if j < e.length then some (e0[j]?.getD none) else none) else e[j]?
  | [] => by rw [back, if_neg (by simp)]
  | i :: is => by
    rw [back, List.getElem?_set, back_get e0 e j is, back_len]
    by_cases h : i = j
    · subst h
      rw [if_pos rfl, if_pos List.mem_cons_self]
    · rw [if_neg h]
      by_cases h2 : j ∈ is
      · rw [if_pos h2, if_pos (List.mem_cons_of_mem _ h2)]
      · rw [if_neg h2, if_neg (fun z => (List.mem_cons.mp z).elim (fun z => h z.symm) h2)]
theorem back_same {e e' : Env} {ws : Sl} (h : Ag ws e e') : back e e' ws = e := List.ext_getElem? fun i => by
  rw [back_get]
  by_cases hi : i ∈ ws
  · rw [if_pos hi, ← h.1]
    by_cases hl : i < e.length
    · rw [if_pos hl, List.getElem?_eq_getElem hl]; rfl
    · rw [if_neg hl, List.getElem?_eq_none (by omega)]
  · rw [if_neg hi, h.2 i hi]
/-- what the machine does with names, and without -/
inductive Sm {α : Type} (S : Sl) (env : Env) : R (α × Env) → R α → Prop
  | ok (a : α) (env' : Env) : Ag S env env' → Sm S env (.ok (a, env')) (.ok a)
  | exc (c : Str) (as : List AV) : Sm S env (.exc c as) (.exc c as)
  | bad : Sm S env .bad .bad
/-- names as they were -/
def Eqv {α : Type} (env : Env) (r : R (α × Env)) (v : R α) : Prop := r = (v >>= fun a => .ok (a, env))
theorem Eqv.sm {α : Type} {S : Sl} {env : Env} {r : R (α × Env)} {v : R α} (h : Eqv env r v) : Sm S env r v := by
  unfold Eqv at h
  subst h
  cases v with
  | ok a => exact .ok a env (Ag.refl _ _)
  | exc c as => exact .exc c as
  | bad => exact .bad
theorem Eqv.bind {α β : Type} {env : Env} {r : R (α × Env)} {v : R α} {f : α × Env → R (β × Env)} {g : α → R β} (h : Eqv env r v) (k : ∀ a, Eqv env (f (a, env)) (g a)) : Eqv env (r >>= f) (v >>= g) := by
  unfold Eqv at h
  subst h
  cases v with
  | ok a => exact k a
  | exc c as => rfl
  | bad => rfl
theorem Eqv.map {α β : Type} {env : Env} {r : R (α × Env)} {v : R α} {g : α → R β} (h : Eqv env r v) : Eqv env (r >>= fun p => g p.1 >>= fun b => .ok (b, p.2)) (v >>= g) := h.bind fun a => rfl
theorem Eqv.pure {α : Type} {env : Env} (a : α) : Eqv env (.ok (a, env)) (.ok a) := rfl
theorem setAll_ag {S : Sl} : ∀ {is : List Nat} {vs : List AV} {e e' : Env}, sub is S = true → setAll is vs e = some e' → Ag S e e'
  | [], [], e, e', _, h => by cases h; exact Ag.refl _ _
  | [], _ :: _, e, e', _, h => by cases h
  | _ :: _, [], e, e', _, h => by cases h
  | i :: is, v :: vs, e, e', hs, h => by
    simp only [sub, List.all_cons, Bool.and_eq_true] at hs
    exact (ag_set e (some v) (by simpa using hs.1)).trans (setAll_ag (is := is) (by simpa [sub] using hs.2) h)
theorem bind_ag {S : Sl} {tg : Tg} {x : AV} {e e' : Env} (hs : sub (tgsOf tg) S = true) (h : bindTg tg x e = .ok e') : Ag S e e' := by
  cases tg with
  | var i =>
    cases h
    exact ag_set e _ (by simpa [sub, tgsOf] using hs)
  | tup is =>
    cases x with
    | tuple vs =>
      have h : (match setAll is vs e with | some e => R.ok e | none => .bad) = .ok e' := h
      cases q : setAll is vs e with
      | none => rw [q] at h; cases h
      | some e1 => rw [q] at h; cases h; exact setAll_ag hs q
    | _ => cases h
theorem loop_sm {S : Sl} {f : AV → Env → R (List AV × Env)} {g : AV → R (List AV)} {e0 : Env} (h : ∀ x e, Ag S e0 e → Sm S e0 (f x e) (g x)) : ∀ (xs : List AV) {e : Env}, Ag S e0 e → Sm S e0 (loopC f xs e) (loopV g xs)
  | [], e, he => .ok [] e he
  | x :: xs, e, he => by
    rw [loopC, loopV]
    have h1 := h x e he
    generalize f x e = r at h1 ⊢
    generalize g x = r' at h1 ⊢
    cases h1 with
    | ok a e1 h1 =>
      have h2 := loop_sm h xs h1
      rw [R.ok_bind, R.ok_bind]
      dsimp only
      generalize loopC f xs e1 = q at h2 ⊢
      generalize loopV g xs = q' at h2 ⊢
      cases h2 with
      | ok b e2 h2 => exact .ok _ _ h2
      | exc c as => exact .exc c as
      | bad => exact .bad
    | exc c as => exact .exc c as
    | bad => exact .bad

theorem Sm.mono {α : Type} {S T : Sl} {env : Env} {r : R (α × Env)} {v : R α} (h : Sm S env r v) (q : ∀ i ∈ S, i ∈ T) : Sm T env r v := by
  cases h with
  | ok a e h => exact .ok a e (h.mono q)
  | exc c as => exact .exc c as
  | bad => exact .bad
theorem Sm.from {α : Type} {S : Sl} {e0 env : Env} {r : R (α × Env)} {v : R α} (h : Sm S env r v) (g : Ag S e0 env) : Sm S e0 r v := by
  cases h with
  | ok a e h => exact .ok a e (g.trans h)
  | exc c as => exact .exc c as
  | bad => exact .bad
theorem mem_of_sub {A B : Sl} (h : sub A B = true) : ∀ i ∈ A, i ∈ B := fun i hi => by
  have := List.all_eq_true.mp h i hi
  simpa using this
theorem comp_eqv {S : Sl} {env : Env} {α : Type} {r : R (List AV × Env)} {v : R (List AV)} (h : Sm S env r v) (k : List AV → R α) : Eqv env (r >>= fun p => k p.1 >>= fun d => R.ok (d, back env p.2 S)) (v >>= k) := by
  cases h with
  | ok a e h =>
    rw [R.ok_bind, R.ok_bind]
    dsimp only
    rw [back_same h]
    rfl
  | exc c as => rfl
  | bad => rfl
theorem ite_eqv {env : Env} {b : Bool} {α : Type} {r1 r2 : R (α × Env)} {v1 v2 : R α} (h1 : Eqv env r1 v1) (h2 : Eqv env r2 v2) : Eqv env (match b with | true => r1 | false => r2) (match b with | true => v1 | false => v2) := by
  cases b
  · exact h2
  · exact h1
theorem and_alt {f : R Bool} {α : Type} (g : Bool → R α) (env : Env) : (f >>= g >>= fun a => R.ok (a, env)) = (f >>= fun b => g b >>= fun a => R.ok (a, env)) := by cases f <;> rfl
theorem Eqv.opt {α β : Type} {env : Env} {r : R α} {f : α → R (β × Env)} {g : α → R β} (k : ∀ a, Eqv env (f a) (g a)) : Eqv env (r >>= f) (r >>= g) := by
  cases r with
  | ok a => exact k a
  | exc c as => rfl
  | bad => rfl
theorem Eqv.fin {β : Type} {env : Env} {r : R β} : Eqv env (r >>= fun b => R.ok (b, env)) r := rfl
theorem Eqv.fin' {β : Type} {env : Env} {r : R β} {f : β → R (β × Env)} (h : ∀ b, f b = R.ok (b, env)) : Eqv env (r >>= f) r := by
  unfold Eqv
  congr 1
  funext b
  exact h b
theorem putIos_pure : ∀ (es : Xs) {outs : List AV} {env : Env}, plXs es = true → putIos es outs env = match outs with
    | [] => .ok env
    | _ => .bad
  | .nil, [], env, _ => rfl
  | .nil, _ :: _, env, _ => rfl
  | .cons e r, outs, env, h => by
    rw [putIos]
    exact putIos_pure r h
  | .star e r, outs, env, h => by
    rw [putIos]
    exact putIos_pure r h
section
variable (cal : Cal)
mutual
theorem pE : ∀ (x : X) (env : Env), puE x = true → Eqv env (evE cal x env) (vE cal x env)
  | .var i, env, _ => by rw [evE, vE]; exact .fin
  | .con a, env, _ => rfl
  | .bin op a b, env, h => by
    simp only [puE, Bool.and_eq_true] at h
    rw [evE, vE]
    exact (pE a env h.1).bind fun x => (pE b env h.2).bind fun y => .fin
  | .neg a, env, h => by
    simp only [puE] at h
    rw [evE, vE]
    refine (pE a env h).bind fun x => ?_
    cases x <;> rfl
  | .not a, env, h => by
    simp only [puE] at h
    rw [evE, vE]
    refine (pE a env h).bind fun x => ?_
    exact .opt fun b => rfl
  | .and a b, env, h => by
    simp only [puE, Bool.and_eq_true] at h
    rw [evE, vE]
    refine (pE a env h.1).bind fun x => .opt fun k => ?_
    cases k with
    | true => exact (pE b env h.2).bind fun y => .opt fun j => rfl
    | false => rfl
  | .or a b, env, h => by
    simp only [puE, Bool.and_eq_true] at h
    rw [evE, vE]
    refine (pE a env h.1).bind fun x => .opt fun k => ?_
    cases k with
    | true => rfl
    | false => exact (pE b env h.2).bind fun y => .opt fun j => rfl
  | .cmp op a b, env, h => by
    simp only [puE, Bool.and_eq_true] at h
    rw [evE, vE]
    exact (pE a env h.1).bind fun x => (pE b env h.2).bind fun y => .fin
  | .chain op op' a b d, env, h => by
    simp only [puE, Bool.and_eq_true] at h
    rw [evE, vE]
    refine (pE a env h.1.1).bind fun x => (pE b env h.1.2).bind fun y => .opt fun z => .opt fun k => ?_
    cases k with
    | true => exact (pE d env h.2).bind fun y => .opt fun j => .opt fun j => rfl
    | false => rfl
  | .ite d a b, env, h => by
    simp only [puE, Bool.and_eq_true] at h
    rw [evE, vE]
    refine (pE d env h.1.1).bind fun x => .opt fun k => ?_
    cases k with
    | true => exact pE a env h.1.2
    | false => exact pE b env h.2
  | .tup es, env, h => by
    simp only [puE] at h
    rw [evE, vE]
    exact (pXs es env h).bind fun x => .fin
  | .lst es, env, h => by
    simp only [puE] at h
    rw [evE, vE]
    exact (pXs es env h).bind fun x => .fin
  | .dict es, env, h => by
    simp only [puE] at h
    rw [evE, vE]
    exact (pDs es [] env h).bind fun x => rfl
  | .idx a i, env, h => by
    simp only [puE, Bool.and_eq_true] at h
    rw [evE, vE]
    exact (pE a env h.1).bind fun x => (pE i env h.2).bind fun y => .fin
  | .slc a lo hi, env, h => by
    simp only [puE, Bool.and_eq_true] at h
    rw [evE, vE]
    refine (pE a env h.1.1).bind fun x => (pOx lo env h.1.2).bind fun l => (pOx hi env h.2).bind fun u => ?_
    rcases l with _ | (_ | _ | i | _ | _ | _ | _) <;> rcases u with _ | (_ | _ | j | _ | _ | _ | _) <;> first
      | exact .fin
      | rfl
  | .comp own cs e, env, h => by
    simp only [puE, Bool.and_eq_true] at h
    rw [evE, vE]
    exact comp_eqv (pCs cs own _ (fun env => vE cal e env >>= fun v => R.ok [v]) env h.1 fun env => (pE e env h.2).bind (f := fun p : AV × Env => R.ok ([p.1], p.2)) (g := fun v => R.ok [v]) fun v => rfl) lstR
  | .dcomp own cs k v, env, h => by
    simp only [puE, Bool.and_eq_true] at h
    rw [evE, vE]
    have hs := pCs cs own _ _ env h.1.1 fun env => (pE k env h.1.2).bind (f := fun p : AV × Env => evE cal v p.2 >>= fun q => R.ok ([PyData.tuple [p.1, q.1]], q.2)) (g := fun a => vE cal v env >>= fun b => R.ok [PyData.tuple [a, b]]) fun a => (pE v env h.2).bind fun b => rfl
    have := comp_eqv hs fun vs => match pairs? vs with
      | some kvs => do .ok (PyData.dict (← dputs [] kvs))
      | none => .bad
    refine Eq.trans ?_ this
    congr 1
    funext p
    obtain ⟨p1, p2⟩ := p
    dsimp only
    cases pairs? p1 with
    | none => rfl
    | some kvs =>
      dsimp only
      generalize dputs [] kvs = q
      cases q <;> rfl
  | .call f es, env, h => by
    simp only [puE, Bool.and_eq_true] at h
    rw [evE, vE]
    refine (pXs es env h.1).bind fun x => ?_
    dsimp only
    refine .opt fun p => ?_
    rw [putIos_pure es h.2]
    obtain ⟨p1, p2⟩ := p
    cases p2 <;> rfl
  | .blt f es, env, h => by
    simp only [puE] at h
    rw [evE, vE]
    exact (pXs es env h).bind fun x => .fin
  | .meth m o es, env, h => by
    simp only [puE, Bool.and_eq_true] at h
    rw [evE, vE]
    exact (pE o env h.1).bind fun x => (pXs es env h.2).bind fun x => .fin
  | .pop _ _, env, h => by simp [puE] at h
theorem pXs : ∀ (x : Xs) (env : Env), puXs x = true → Eqv env (evXs cal x env) (vXs cal x env)
  | .nil, env, _ => rfl
  | .cons e r, env, h => by
    simp only [puXs, Bool.and_eq_true] at h
    rw [evXs, vXs]
    exact (pE e env h.1).bind fun x => (pXs r env h.2).bind fun y => rfl
  | .star e r, env, h => by
    simp only [puXs, Bool.and_eq_true] at h
    rw [evXs, vXs]
    refine (pE e env h.1).bind fun x => (pXs r env h.2).bind fun y => ?_
    dsimp only
    unfold starL
    cases items? x with
    | none => rfl
    | some xs => dsimp only; split <;> rfl
  | .tmp e r, env, h => by
    simp only [puXs, Bool.and_eq_true] at h
    rw [evXs, vXs]
    refine (pE e env h.1).bind fun x => (pXs r env h.2).bind fun y => ?_
    dsimp only
    unfold tmpL
    split <;> rfl
  | .io _ _, env, h => by simp [puXs] at h
theorem pOx : ∀ (x : Ox) (env : Env), puOx x = true → Eqv env (evOx cal x env) (vOx cal x env)
  | .none, env, _ => rfl
  | .some e, env, h => by
    simp only [puOx] at h
    rw [evOx, vOx]
    exact (pE e env h).bind fun x => rfl
theorem pDs : ∀ (x : Ds) (acc : List (AV × AV)) (env : Env), puDs x = true → Eqv env (evDs cal x acc env) (vDs cal x acc env)
  | .nil, acc, env, _ => rfl
  | .kv k v r, acc, env, h => by
    simp only [puDs, Bool.and_eq_true] at h
    rw [evDs, vDs]
    exact (pE k env h.1.1).bind fun x => (pE v env h.1.2).bind fun y => .opt fun acc => pDs r acc env h.2
  | .star d r, acc, env, h => by
    simp only [puDs, Bool.and_eq_true] at h
    rw [evDs, vDs]
    refine (pE d env h.1).bind fun x => ?_
    unfold dMerge
    cases x <;> first
      | rfl
      | (dsimp only; split <;> first
          | exact pDs r _ env h.2
          | rfl)
theorem pCs : ∀ (cs : Cs) (S : Sl) (last : Env → R (List AV × Env)) (lastV : Env → R (List AV)) (env : Env), puCs S cs = true → (∀ env, Eqv env (last env) (lastV env)) → Sm S env (evCs cal cs last env) (vCs cal cs lastV env)
  | .nil, S, last, lastV, env, _, hl => by
    rw [evCs, vCs]
    exact (hl env).sm
  | .cons ws tg it c r, S, last, lastV, env, h, hl => by
    simp only [puCs, Bool.and_eq_true] at h
    obtain ⟨⟨⟨⟨h1, h2⟩, h3⟩, h4⟩, h5⟩ := h
    rw [evCs, vCs]
    refine Sm.mono ?_ (mem_of_sub h1)
    have hi := pIt it env h3
    unfold Eqv at hi
    rw [hi]
    cases vIt cal it env with
    | exc c as => exact .exc c as
    | bad => exact .bad
    | ok xs =>
      rw [R.ok_bind, R.ok_bind, R.ok_bind]
      dsimp only
      refine loop_sm (fun x e he => ?_) xs (Ag.refl _ _)
      rw [← wipe_same he]
      cases q : bindTg tg x (wipeE env ws) with
      | exc c as => exact .exc c as
      | bad => exact .bad
      | ok env2 =>
        rw [R.ok_bind, R.ok_bind]
        have a2 : Ag ws env env2 := (wipe_ag env ws).trans (bind_ag h2 q)
        have hc := pOx c env2 h4
        unfold Eqv at hc
        rw [hc]
        cases vOx cal c env2 with
        | exc c as => exact .exc c as
        | bad => exact .bad
        | ok b =>
          rw [R.ok_bind, R.ok_bind, R.ok_bind]
          dsimp only
          cases b with
          | none => exact (pCs r ws last lastV env2 h5 hl).from a2
          | some b =>
            dsimp only
            unfold R.cond
            dsimp only
            cases asB b with
            | exc c as => exact .exc c as
            | bad => exact .bad
            | ok k =>
              cases k with
              | true => exact (pCs r ws last lastV env2 h5 hl).from a2
              | false => exact .ok _ _ a2
theorem pIt : ∀ (x : It) (env : Env), puIt x = true → Eqv env (evIt cal x env) (vIt cal x env)
  | .expr e, env, h => by
    simp only [puIt] at h
    rw [evIt, vIt]
    refine (pE e env h).bind fun x => ?_
    cases x <;> rfl
  | .rng1 a, env, h => by
    simp only [puIt] at h
    rw [evIt, vIt]
    refine (pE a env h).bind fun x => ?_
    unfold rng1
    cases x <;> first
      | rfl
      | (dsimp only; split <;> rfl)
  | .rng2 a b, env, h => by
    simp only [puIt, Bool.and_eq_true] at h
    rw [evIt, vIt]
    refine (pE a env h.1).bind fun x => (pE b env h.2).bind fun y => ?_
    unfold rng2
    cases x <;> cases y <;> first
      | rfl
      | (dsimp only; split <;> rfl)
  | .enum e, env, h => by
    simp only [puIt] at h
    rw [evIt, vIt]
    refine (pE e env h).bind fun x => ?_
    dsimp only
    unfold enuL
    cases items? x <;> rfl
  | .items e, env, h => by
    simp only [puIt] at h
    rw [evIt, vIt]
    refine (pE e env h).bind fun x => ?_
    cases x <;> rfl
  | .vals e, env, h => by
    simp only [puIt] at h
    rw [evIt, vIt]
    refine (pE e env h).bind fun x => ?_
    cases x <;> rfl
end
theorem evE_pure {x : X} {env : Env} (h : puE x = true) : evE cal x env = (vE cal x env >>= fun v => .ok (v, env)) := pE cal x env h
theorem evXs_pure {x : Xs} {env : Env} (h : puXs x = true) : evXs cal x env = (vXs cal x env >>= fun v => .ok (v, env)) := pXs cal x env h
theorem evIt_pure {x : It} {env : Env} (h : puIt x = true) : evIt cal x env = (vIt cal x env >>= fun v => .ok (v, env)) := pIt cal x env h
end
end Ev
end

section
set_option linter.all false
set_option autoImplicit false
/-! Wk1: how an own text is evaluated by simp; values of Lean's types. -/
namespace Ev
open PySem (Str PyData)
/-- no step by reckoning -/
theorem nrfl {α : Sort _} {a b : α} (h : a = b) : a = b := h
/-! ### the monad -/
@[simp] theorem R.tf_true {α : Type} (x y : R α) : R.tf true x y = x := nrfl rfl
@[simp] theorem R.tf_false {α : Type} (x y : R α) : R.tf false x y = y := nrfl rfl
@[simp] theorem R.tf_ok {α : Type} (b : Bool) (x y : α) : R.tf b (.ok x) (.ok y) = .ok (if b = true then x else y) := by cases b <;> rfl
@[simp] theorem R.tf_bind {α β : Type} (b : Bool) (x y : R α) (f : α → R β) : (R.tf b x y >>= f) = R.tf b (x >>= f) (y >>= f) := by cases b <;> rfl
@[simp] theorem R.assoc {α β γ : Type} (x : R α) (f : α → R β) (g : β → R γ) : ((x >>= f) >>= g) = (x >>= fun a => f a >>= g) := by cases x <;> rfl
@[simp] theorem asB_bool (b : Bool) : asB (.bool b) = .ok b := nrfl rfl
@[simp] theorem outN_nil (v : AV) : outN (v, []) = .ok v := nrfl rfl
/-! ### names -/
@[simp] theorem look_0 (v : AV) (env : Env) : look (some v :: env) 0 = .ok v := nrfl rfl
@[simp] theorem look_s (v : Option AV) (env : Env) (i : Nat) : look (v :: env) (i + 1) = look env i := nrfl rfl
@[simp] theorem wipeE_nil (env : Env) : wipeE env [] = env := nrfl rfl
@[simp] theorem wipeE_cons (env : Env) (i : Nat) (is : List Nat) : wipeE env (i :: is) = (wipeE env is).set i none := nrfl rfl
@[simp] theorem bindTg_var (i : Nat) (v : AV) (env : Env) : bindTg (.var i) v env = .ok (env.set i (some v)) := nrfl rfl
@[simp] theorem bindTg_tup1 (i : Nat) (v : AV) (env : Env) : bindTg (.tup [i]) (.tuple [v]) env = .ok (env.set i (some v)) := nrfl rfl
@[simp] theorem bindTg_tup2 (i j : Nat) (v u : AV) (env : Env) : bindTg (.tup [i, j]) (.tuple [v, u]) env = .ok ((env.set i (some v)).set j (some u)) := nrfl rfl
@[simp] theorem bindTg_tup3 (i j k : Nat) (v u w : AV) (env : Env) : bindTg (.tup [i, j, k]) (.tuple [v, u, w]) env = .ok (((env.set i (some v)).set j (some u)).set k (some w)) := nrfl rfl
@[simp] theorem bindTg_tup4 (i j k l : Nat) (v u w x : AV) (env : Env) : bindTg (.tup [i, j, k, l]) (.tuple [v, u, w, x]) env = .ok ((((env.set i (some v)).set j (some u)).set k (some w)).set l (some x)) := nrfl rfl
/-! ### expressions -/
section
variable (cal : Cal) (env : Env) (a b c : X) (es : Xs)
@[simp] theorem vE_var (i : Nat) : vE cal (.var i) env = look env i := nrfl rfl
@[simp] theorem vE_con (v : AV) : vE cal (.con v) env = .ok v := nrfl rfl
@[simp] theorem vE_bin (op : Bop) : vE cal (.bin op a b) env = (vE cal a env >>= fun x => vE cal b env >>= fun y => binop op x y) := nrfl rfl
@[simp] theorem vE_neg : vE cal (.neg a) env = (vE cal a env >>= negV) := nrfl rfl
@[simp] theorem vE_not : vE cal (.not a) env = (vE cal a env >>= fun x => asB x >>= fun k => .ok (.bool (!k))) := nrfl rfl
@[simp] theorem vE_and : vE cal (.and a b) env = (vE cal a env >>= fun x => asB x >>= fun k => R.tf k (vE cal b env >>= fun y => asB y >>= fun j => .ok (.bool j)) (.ok (.bool false))) := nrfl rfl
@[simp] theorem vE_or : vE cal (.or a b) env = (vE cal a env >>= fun x => asB x >>= fun k => R.tf k (.ok (.bool true)) (vE cal b env >>= fun y => asB y >>= fun j => .ok (.bool j))) := nrfl rfl
@[simp] theorem vE_cmp (op : Cop) : vE cal (.cmp op a b) env = (vE cal a env >>= fun x => vE cal b env >>= fun y => cmpop op x y) := nrfl rfl
@[simp] theorem vE_chain (op op' : Cop) : vE cal (.chain op op' a b c) env = (vE cal a env >>= fun x => vE cal b env >>= fun y => cmpop op x y >>= fun z => asB z >>= fun k =>
    R.tf k (vE cal c env >>= fun u => cmpop op' y u >>= fun z => asB z >>= fun j => .ok (.bool j)) (.ok (.bool false))) := nrfl rfl
@[simp] theorem vE_ite : vE cal (.ite c a b) env = (vE cal c env >>= fun x => asB x >>= fun k => R.tf k (vE cal a env) (vE cal b env)) := nrfl rfl
@[simp] theorem vE_tup : vE cal (.tup es) env = (vXs cal es env >>= tupR) := nrfl rfl
@[simp] theorem vE_lst : vE cal (.lst es) env = (vXs cal es env >>= lstR) := nrfl rfl
@[simp] theorem vE_dict (ds : Ds) : vE cal (.dict ds) env = (vDs cal ds [] env >>= fun kvs => .ok (.dict kvs)) := nrfl rfl
@[simp] theorem vE_idx : vE cal (.idx a b) env = (vE cal a env >>= fun x => vE cal b env >>= fun y => idxop x y) := nrfl rfl
@[simp] theorem vE_slc (lo hi : Ox) : vE cal (.slc a lo hi) env = (vE cal a env >>= fun x => vOx cal lo env >>= fun l => vOx cal hi env >>= fun h => sliV x l h) := nrfl rfl
@[simp] theorem vE_comp (own : List Nat) (cs : Cs) : vE cal (.comp own cs a) env = (vCs cal cs (fun env => vE cal a env >>= fun v => .ok [v]) env >>= lstR) := nrfl rfl
@[simp] theorem vE_dcomp (own : List Nat) (cs : Cs) : vE cal (.dcomp own cs a b) env = (vCs cal cs (fun env => vE cal a env >>= fun k => vE cal b env >>= fun v => .ok [.tuple [k, v]]) env >>= dispD) := nrfl rfl
@[simp] theorem vE_call (f : Nat) : vE cal (.call f es) env = (vXs cal es env >>= fun vs => cal f vs >>= outN) := nrfl rfl
@[simp] theorem vE_blt (f : Blt) : vE cal (.blt f es) env = (vXs cal es env >>= bltop f) := nrfl rfl
@[simp] theorem vE_meth (m : Mth) : vE cal (.meth m a es) env = (vE cal a env >>= fun x => vXs cal es env >>= mthop m x) := nrfl rfl
@[simp] theorem vXs_nil : vXs cal .nil env = .ok [] := nrfl rfl
@[simp] theorem vXs_cons : vXs cal (.cons a es) env = (vE cal a env >>= fun v => vXs cal es env >>= fun vs => .ok (v :: vs)) := nrfl rfl
@[simp] theorem vXs_star : vXs cal (.star a es) env = (vE cal a env >>= fun v => vXs cal es env >>= starL v) := nrfl rfl
@[simp] theorem vXs_tmp : vXs cal (.tmp a es) env = (vE cal a env >>= fun v => vXs cal es env >>= tmpL v) := nrfl rfl
@[simp] theorem vOx_none : vOx cal .none env = .ok none := nrfl rfl
@[simp] theorem vOx_some : vOx cal (.some a) env = (vE cal a env >>= fun v => .ok (some v)) := nrfl rfl
@[simp] theorem vDs_nil (acc : List (AV × AV)) : vDs cal .nil acc env = .ok acc := nrfl rfl
@[simp] theorem vDs_kv (acc : List (AV × AV)) (r : Ds) : vDs cal (.kv a b r) acc env = (vE cal a env >>= fun k => vE cal b env >>= fun v => dput' acc k v >>= fun acc => vDs cal r acc env) := nrfl rfl
@[simp] theorem vDs_star (acc : List (AV × AV)) (r : Ds) : vDs cal (.star a r) acc env = (vE cal a env >>= fun d => dMerge acc d >>= fun acc => vDs cal r acc env) := nrfl rfl
@[simp] theorem vCs_nil (last : Env → R (List AV)) : vCs cal .nil last env = last env := nrfl rfl
@[simp] theorem vCs_cons (ws : List Nat) (tg : Tg) (it : It) (d : Ox) (r : Cs) (last : Env → R (List AV)) : vCs cal (.cons ws tg it d r) last env = (vIt cal it env >>= loopV fun x =>
    bindTg tg x (wipeE env ws) >>= fun env2 => vOx cal d env2 >>= fun b => R.cond b (vCs cal r last env2)) := nrfl rfl
@[simp] theorem cond_none (x : R (List AV)) : R.cond none x = x := nrfl rfl
@[simp] theorem cond_some (b : AV) (x : R (List AV)) : R.cond (some b) x = (asB b >>= fun k => R.tf k x (.ok [])) := nrfl rfl
@[simp] theorem vIt_expr : vIt cal (.expr a) env = (vE cal a env >>= itL) := nrfl rfl
@[simp] theorem vIt_rng1 : vIt cal (.rng1 a) env = (vE cal a env >>= rng1) := nrfl rfl
@[simp] theorem vIt_rng2 : vIt cal (.rng2 a b) env = (vE cal a env >>= fun x => vE cal b env >>= fun y => rng2 x y) := nrfl rfl
@[simp] theorem vIt_enum : vIt cal (.enum a) env = (vE cal a env >>= enuL) := nrfl rfl
@[simp] theorem vIt_items : vIt cal (.items a) env = (vE cal a env >>= dItems) := nrfl rfl
@[simp] theorem vIt_vals : vIt cal (.vals a) env = (vE cal a env >>= dVals) := nrfl rfl
end
@[simp] theorem putIos_nil (env : Env) : putIos .nil [] env = .ok env := nrfl rfl
@[simp] theorem putIos_cons (e : X) (r : Xs) (vs : List AV) (env : Env) : putIos (.cons e r) vs env = putIos r vs env := by cases vs <;> rfl
@[simp] theorem putIos_io (i : Nat) (r : Xs) (v : AV) (vs : List AV) (env : Env) : putIos (.io i r) (v :: vs) env = putIos r vs (env.set i (some v)) := nrfl rfl
@[simp] theorem putIos_tmp (e : X) (r : Xs) (v : AV) (vs : List AV) (env : Env) : putIos (.tmp e r) (v :: vs) env = putIos r vs env := nrfl rfl
/-! ### pure texts -/
section
variable (a b c : X) (es : Xs)
@[simp] theorem puE_var (i : Nat) : puE (.var i) = true := nrfl rfl
@[simp] theorem puE_con (v : AV) : puE (.con v) = true := nrfl rfl
@[simp] theorem puE_bin (op : Bop) : puE (.bin op a b) = (puE a && puE b) := nrfl rfl
@[simp] theorem puE_neg : puE (.neg a) = puE a := nrfl rfl
@[simp] theorem puE_not : puE (.not a) = puE a := nrfl rfl
@[simp] theorem puE_and : puE (.and a b) = (puE a && puE b) := nrfl rfl
@[simp] theorem puE_or : puE (.or a b) = (puE a && puE b) := nrfl rfl
@[simp] theorem puE_cmp (op : Cop) : puE (.cmp op a b) = (puE a && puE b) := nrfl rfl
@[simp] theorem puE_chain (op op' : Cop) : puE (.chain op op' a b c) = (puE a && puE b && puE c) := nrfl rfl
@[simp] theorem puE_ite : puE (.ite c a b) = (puE c && puE a && puE b) := nrfl rfl
@[simp] theorem puE_tup : puE (.tup es) = puXs es := nrfl rfl
@[simp] theorem puE_lst : puE (.lst es) = puXs es := nrfl rfl
@[simp] theorem puE_dict (ds : Ds) : puE (.dict ds) = puDs ds := nrfl rfl
@[simp] theorem puE_idx : puE (.idx a b) = (puE a && puE b) := nrfl rfl
@[simp] theorem puE_slc (lo hi : Ox) : puE (.slc a lo hi) = (puE a && puOx lo && puOx hi) := nrfl rfl
@[simp] theorem puE_comp (own : List Nat) (cs : Cs) : puE (.comp own cs a) = (puCs own cs && puE a) := nrfl rfl
@[simp] theorem puE_dcomp (own : List Nat) (cs : Cs) : puE (.dcomp own cs a b) = (puCs own cs && puE a && puE b) := nrfl rfl
@[simp] theorem puE_call (f : Nat) : puE (.call f es) = (puXs es && plXs es) := nrfl rfl
@[simp] theorem plXs_nil : plXs .nil = true := nrfl rfl
@[simp] theorem plXs_cons : plXs (.cons a es) = plXs es := nrfl rfl
@[simp] theorem plXs_star : plXs (.star a es) = plXs es := nrfl rfl
@[simp] theorem puXs_io (i : Nat) : puXs (.io i es) = false := nrfl rfl
@[simp] theorem plXs_io (i : Nat) : plXs (.io i es) = false := nrfl rfl
@[simp] theorem plXs_tmp : plXs (.tmp a es) = false := nrfl rfl
@[simp] theorem puE_pop (i : Nat) (d : Ox) : puE (.pop i d) = false := nrfl rfl
@[simp] theorem puXs_tmp : puXs (.tmp a es) = (puE a && puXs es) := nrfl rfl
@[simp] theorem puE_blt (f : Blt) : puE (.blt f es) = puXs es := nrfl rfl
@[simp] theorem puE_meth (m : Mth) : puE (.meth m a es) = (puE a && puXs es) := nrfl rfl
@[simp] theorem puXs_nil : puXs .nil = true := nrfl rfl
@[simp] theorem puXs_cons : puXs (.cons a es) = (puE a && puXs es) := nrfl rfl
@[simp] theorem puXs_star : puXs (.star a es) = (puE a && puXs es) := nrfl rfl
@[simp] theorem puOx_none : puOx .none = true := nrfl rfl
@[simp] theorem puOx_some : puOx (.some a) = puE a := nrfl rfl
@[simp] theorem puDs_nil : puDs .nil = true := nrfl rfl
@[simp] theorem puDs_kv (r : Ds) : puDs (.kv a b r) = (puE a && puE b && puDs r) := nrfl rfl
@[simp] theorem puDs_star (r : Ds) : puDs (.star a r) = (puE a && puDs r) := nrfl rfl
@[simp] theorem puCs_nil (S : Sl) : puCs S .nil = true := nrfl rfl
@[simp] theorem puCs_cons (S : Sl) (ws : List Nat) (tg : Tg) (it : It) (d : Ox) (r : Cs) : puCs S (.cons ws tg it d r) = (sub ws S && sub (tgsOf tg) ws && puIt it && puOx d && puCs ws r) := nrfl rfl
@[simp] theorem puIt_expr : puIt (.expr a) = puE a := nrfl rfl
@[simp] theorem puIt_rng1 : puIt (.rng1 a) = puE a := nrfl rfl
@[simp] theorem puIt_rng2 : puIt (.rng2 a b) = (puE a && puE b) := nrfl rfl
@[simp] theorem puIt_enum : puIt (.enum a) = puE a := nrfl rfl
@[simp] theorem puIt_items : puIt (.items a) = puE a := nrfl rfl
@[simp] theorem puIt_vals : puIt (.vals a) = puE a := nrfl rfl
@[simp] theorem tgsOf_var (i : Nat) : tgsOf (.var i) = [i] := nrfl rfl
@[simp] theorem tgsOf_tup (is : List Nat) : tgsOf (.tup is) = is := nrfl rfl
@[simp] theorem sub_nil (B : Sl) : sub [] B = true := nrfl rfl
@[simp] theorem sub_cons (i : Nat) (A B : Sl) : sub (i :: A) B = (B.contains i && sub A B) := nrfl rfl
end
/-! ### statements -/
def flK (k : Env → R Fl) : Fl → R Fl
  | .nx e => k e
  | .bk e => .ok (.bk e)
  | .ct e => .ok (.ct e)
  | .rt v e => .ok (.rt v e)
@[simp] theorem flK_nx (k : Env → R Fl) (e : Env) : flK k (.nx e) = k e := nrfl rfl
@[simp] theorem flK_bk (k : Env → R Fl) (e : Env) : flK k (.bk e) = .ok (.bk e) := nrfl rfl
@[simp] theorem flK_ct (k : Env → R Fl) (e : Env) : flK k (.ct e) = .ok (.ct e) := nrfl rfl
@[simp] theorem flK_rt (k : Env → R Fl) (v : AV) (e : Env) : flK k (.rt v e) = .ok (.rt v e) := nrfl rfl
section
variable (cal : Cal) (env : Env)
@[simp] theorem ss_nil : evSs cal .nil env = .ok (.nx env) := nrfl rfl
theorem ss_cons (s : S) (r : Ss) : evSs cal (.cons s r) env = (evS cal s env >>= flK (evSs cal r)) := by
  rw [evSs]
  rfl
@[simp] theorem ss_asg {i : Nat} {e : X} {r : Ss} (h : puE e = true) : evSs cal (.cons (.asg i e) r) env = (vE cal e env >>= fun v => evSs cal r (env.set i (some v))) := by
  rw [ss_cons, evS, evE_pure cal h]
  cases vE cal e env <;> rfl
@[simp] theorem ss_move {i j : Nat} {r : Ss} : evSs cal (.cons (.move i j) r) env = (look env j >>= fun v => evSs cal r ((env.set j none).set i (some v))) := by
  rw [ss_cons, evS]
  cases look env j <;> rfl
@[simp] theorem ss_unp {is : List Nat} {e : X} {r : Ss} (h : puE e = true) : evSs cal (.cons (.unp is e) r) env = (vE cal e env >>= fun v => bindTg (.tup is) v env >>= evSs cal r) := by
  rw [ss_cons, evS, evE_pure cal h]
  cases vE cal e env with
  | ok v => simp only [R.ok_bind, R.assoc]; cases bindTg (.tup is) v env <;> rfl
  | exc _ _ => rfl
  | bad => rfl
@[simp] theorem ss_expr {e : X} {r : Ss} (h : puE e = true) : evSs cal (.cons (.expr e) r) env = (vE cal e env >>= fun _ => evSs cal r env) := by
  rw [ss_cons, evS, evE_pure cal h]
  cases vE cal e env <;> rfl
@[simp] theorem ss_ret {e : X} {r : Ss} (h : puE e = true) : evSs cal (.cons (.ret e) r) env = (vE cal e env >>= fun v => .ok (.rt v env)) := by
  rw [ss_cons, evS, evE_pure cal h]
  cases vE cal e env <;> rfl
@[simp] theorem ss_ite {c : X} {a b r : Ss} (h : puE c = true) : evSs cal (.cons (.ite c a b) r) env = (vE cal c env >>= fun x => asB x >>= fun k => R.tf k (evSs cal a env) (evSs cal b env) >>= flK (evSs cal r)) := by
  rw [ss_cons, evS, evE_pure cal h]
  cases vE cal c env with
  | ok v =>
    simp only [R.ok_bind, R.assoc]
    cases asB v with
    | ok k => cases k <;> rfl
    | exc _ _ => rfl
    | bad => rfl
  | exc _ _ => rfl
  | bad => rfl
def appL (x v : AV) : R AV := match x with
  | .list xs => if xs.length < line then .ok (.list (xs ++ [v])) else .bad
  | _ => .bad
@[simp] theorem ss_app {i : Nat} {e : X} {r : Ss} (h : puE e = true) : evSs cal (.cons (.app i e) r) env = (look env i >>= fun x => asL x >>= fun _ => vE cal e env >>= fun v => appL x v >>= fun y => evSs cal r (env.set i (some y))) := by
  rw [ss_cons, evS, evE_pure cal h]
  cases hl : look env i with
  | ok x =>
    cases x with
    | list xs =>
      simp only [R.ok_bind, R.assoc, asL]
      cases vE cal e env with
      | ok v =>
        simp only [R.ok_bind, hl, appL]
        split <;> rfl
      | exc _ _ => rfl
      | bad => rfl
    | _ => rfl
  | exc _ _ => rfl
  | bad => rfl
def extL (x y : AV) : R AV := match x, y with
  | .list xs, .list ys => if xs.length + ys.length ≤ line then .ok (.list (xs ++ ys)) else .bad
  | _, _ => .bad
@[simp] theorem ss_ext {i : Nat} {e : X} {r : Ss} (h : puE e = true) : evSs cal (.cons (.ext i e) r) env = (look env i >>= fun x => asL x >>= fun _ => vE cal e env >>= fun v => extL x v >>= fun y => evSs cal r (env.set i (some y))) := by
  rw [ss_cons, evS, evE_pure cal h]
  cases hl : look env i with
  | ok x =>
    cases x with
    | list xs =>
      simp only [R.ok_bind, R.assoc, asL]
      cases vE cal e env with
      | ok v =>
        simp only [R.ok_bind, hl]
        cases v <;> first
          | rfl
          | (simp only [extL]; split <;> rfl)
      | exc _ _ => rfl
      | bad => rfl
    | _ => rfl
  | exc _ _ => rfl
  | bad => rfl
def augV : Bop → AV → AV → R AV
  | .add, .int a, .int b => .ok (.int (a + b))
  | .sub, .int a, .int b => .ok (.int (a - b))
  | _, _, _ => .bad
@[simp] theorem ss_aug {i : Nat} {op : Bop} {e : X} {r : Ss} (h : puE e = true) : evSs cal (.cons (.aug i op e) r) env = (look env i >>= fun x => vE cal e env >>= fun v => augV op x v >>= fun y => evSs cal r (env.set i (some y))) := by
  rw [ss_cons, evS, evE_pure cal h]
  cases hl : look env i with
  | ok x =>
    simp only [R.ok_bind, R.assoc]
    cases vE cal e env with
    | ok v =>
      simp only [R.ok_bind]
      cases op <;> cases x <;> cases v <;> rfl
    | exc _ _ => rfl
    | bad => rfl
  | exc _ _ => rfl
  | bad => rfl
def setV (x k v : AV) : R AV := match x, k with
  | .list xs, .int j => match ixOf xs.length j with
    | some n => .ok (.list (xs.set n v))
    | none => .bad
  | .dict kvs, k => dput' kvs k v >>= fun kvs' => .ok (.dict kvs')
  | _, _ => .bad
@[simp] theorem ss_seti {i : Nat} {k v : X} {r : Ss} (h : puE k = true) (h2 : puE v = true) : evSs cal (.cons (.seti i k v) r) env = (vE cal v env >>= fun v => look env i >>= fun x => vE cal k env >>= fun k => setV x k v >>= fun y => evSs cal r (env.set i (some y))) := by
  rw [ss_cons, evS, evE_pure cal h2]
  cases vE cal v env with
  | ok v =>
    simp only [R.ok_bind, R.assoc, evE_pure cal h]
    cases hl : look env i with
    | ok x =>
      simp only [R.ok_bind, R.assoc]
      cases vE cal k env with
      | ok k =>
        simp only [R.ok_bind, R.assoc, hl]
        cases x <;> cases k <;> first
          | rfl
          | (simp only [setV]; rename_i xs j; cases ixOf xs.length j <;> rfl)
          | (simp only [setV, R.assoc]; rfl)
          | (simp only [setV, R.assoc, R.ok_bind]; rename_i xs j; cases dput' xs _ v <;> rfl)
      | exc _ _ => rfl
      | bad => rfl
    | exc _ _ => rfl
    | bad => rfl
  | exc _ _ => rfl
  | bad => rfl
def parK (k : Env → R Fl) : Option Env → R Fl
  | some e => k e
  | none => .bad
@[simp] theorem ss_par {is : List Nat} {es : Xs} {r : Ss} (h : puXs es = true) : evSs cal (.cons (.par is es) r) env = (vXs cal es env >>= fun vs => parK (evSs cal r) (setAll is vs env)) := by
  rw [ss_cons, evS, evXs_pure cal h]
  cases vXs cal es env with
  | ok vs =>
    simp only [R.ok_bind, R.assoc]
    cases setAll is vs env <;> rfl
  | exc _ _ => rfl
  | bad => rfl
@[simp] theorem parK_some (k : Env → R Fl) (e : Env) : parK k (some e) = k e := nrfl rfl
@[simp] theorem setAll_nil (e : Env) : setAll [] [] e = some e := nrfl rfl
@[simp] theorem setAll_cons (i : Nat) (is : List Nat) (v : AV) (vs : List AV) (e : Env) : setAll (i :: is) (v :: vs) e = setAll is vs (e.set i (some v)) := nrfl rfl
@[simp] theorem tmpL_list (xs : List AV) (vs : List AV) : tmpL (.list xs) vs = .ok (.list xs :: vs) := nrfl rfl
@[simp] theorem tmpL_dict (xs : List (AV × AV)) (vs : List AV) : tmpL (.dict xs) vs = .ok (.dict xs :: vs) := nrfl rfl
@[simp] theorem ss_for {inv ws : List Nat} {tg : Tg} {it : It} {b r : Ss} (h : puIt it = true) : evSs cal (.cons (.for_ inv ws tg it b) r) env = (vIt cal it env >>= fun xs => forF (fun x env => bindTg tg x env >>= fun e => evSs cal b e >>= fun f => .ok (wipeF ws f)) xs env >>= flK (evSs cal r)) := by
  rw [ss_cons, evS, evIt_pure cal h]
  cases vIt cal it env <;> rfl
theorem ss_whl {inv ws : List Nat} {c : X} {b r : Ss} (h : puE c = true) : evSs cal (.cons (.whl inv ws c b) r) env = (whlF (fun env => vE cal c env >>= fun x => asB x >>= fun k => .ok (k, env)) (fun env => evSs cal b env >>= fun f => .ok (wipeF ws f)) turns env >>= flK (evSs cal r)) := by
  rw [ss_cons, evS]
  congr 2
  funext env
  rw [evE_pure cal h]
  cases vE cal c env <;> rfl
@[simp] theorem ss_brk (r : Ss) : evSs cal (.cons .brk r) env = .ok (.bk env) := by rw [ss_cons, evS]; rfl
@[simp] theorem ss_cont (r : Ss) : evSs cal (.cons .cont r) env = .ok (.ct env) := by rw [ss_cons, evS]; rfl
@[simp] theorem ss_pass (r : Ss) : evSs cal (.cons .pass r) env = evSs cal r env := by rw [ss_cons, evS]; rfl
@[simp] theorem ss_raise (r : Ss) : evSs cal (.cons .raise r) env = .bad := by rw [ss_cons, evS]; rfl
end
/-! ### what draws -/
section
variable (cal : Cal) (env : Env) {a b c : X} {es : Xs}
@[simp] theorem evE_p (h : puE a = true) : evE cal a env = (vE cal a env >>= fun v => .ok (v, env)) := evE_pure cal h
@[simp] theorem evXs_p (h : puXs es = true) : evXs cal es env = (vXs cal es env >>= fun v => .ok (v, env)) := evXs_pure cal h
@[simp] theorem evIt_p {it : It} (h : puIt it = true) : evIt cal it env = (vIt cal it env >>= fun v => .ok (v, env)) := evIt_pure cal h
@[simp] theorem evOx_p {o : Ox} (h : puOx o = true) : evOx cal o env = (vOx cal o env >>= fun v => .ok (v, env)) := pOx cal o env h
@[simp] theorem evE_bin {op : Bop} (h : puE (.bin op a b) = false) : evE cal (.bin op a b) env = (evE cal a env >>= fun p => evE cal b p.2 >>= fun q => binop op p.1 q.1 >>= fun v => .ok (v, q.2)) := by rw [evE]
@[simp] theorem evE_cmp {op : Cop} (h : puE (.cmp op a b) = false) : evE cal (.cmp op a b) env = (evE cal a env >>= fun p => evE cal b p.2 >>= fun q => cmpop op p.1 q.1 >>= fun v => .ok (v, q.2)) := by rw [evE]
@[simp] theorem evE_idx (h : puE (.idx a b) = false) : evE cal (.idx a b) env = (evE cal a env >>= fun p => evE cal b p.2 >>= fun q => idxop p.1 q.1 >>= fun v => .ok (v, q.2)) := by rw [evE]
@[simp] theorem evE_not (h : puE (.not a) = false) : evE cal (.not a) env = (evE cal a env >>= fun p => asB p.1 >>= fun k => .ok (.bool (!k), p.2)) := by rw [evE]
@[simp] theorem evE_tup (h : puE (.tup es) = false) : evE cal (.tup es) env = (evXs cal es env >>= fun p => tupR p.1 >>= fun v => .ok (v, p.2)) := by rw [evE]
@[simp] theorem evE_lst (h : puE (.lst es) = false) : evE cal (.lst es) env = (evXs cal es env >>= fun p => lstR p.1 >>= fun v => .ok (v, p.2)) := by rw [evE]
@[simp] theorem evE_call {f : Nat} (h : puE (.call f es) = false) : evE cal (.call f es) env = (evXs cal es env >>= fun p => cal f p.1 >>= fun q => putIos es q.2 p.2 >>= fun e => .ok (q.1, e)) := by rw [evE]
@[simp] theorem evE_blt {f : Blt} (h : puE (.blt f es) = false) : evE cal (.blt f es) env = (evXs cal es env >>= fun p => bltop f p.1 >>= fun v => .ok (v, p.2)) := by rw [evE]
@[simp] theorem evE_meth {m : Mth} (h : puE (.meth m a es) = false) : evE cal (.meth m a es) env = (evE cal a env >>= fun p => evXs cal es p.2 >>= fun q => mthop m p.1 q.1 >>= fun v => .ok (v, q.2)) := by rw [evE]
@[simp] theorem evE_comp {own : List Nat} {cs : Cs} (h : puE (.comp own cs a) = false) : evE cal (.comp own cs a) env = (evCs cal cs (fun env => evE cal a env >>= fun p => .ok ([p.1], p.2)) env >>= fun p => lstR p.1 >>= fun v => .ok (v, back env p.2 own)) := by rw [evE]
@[simp] theorem evE_slc {lo hi : Ox} (h : puE (.slc a lo hi) = false) : evE cal (.slc a lo hi) env = (evE cal a env >>= fun p => evOx cal lo p.2 >>= fun l => evOx cal hi l.2 >>= fun h => sliV p.1 l.1 h.1 >>= fun v => .ok (v, h.2)) := by
  rw [evE]
  congr 1
  funext p
  obtain ⟨p1, p2⟩ := p
  dsimp only
  congr 1
  funext l
  obtain ⟨l1, l2⟩ := l
  dsimp only
  congr 1
  funext u
  obtain ⟨u1, u2⟩ := u
  dsimp only
  rcases l1 with _ | (_ | _ | i | _ | _ | _ | _) <;> rcases u1 with _ | (_ | _ | j | _ | _ | _ | _) <;> rfl
def popV (x : AV) (k : Option AV) : R (AV × AV) := match x, k with
  | .list xs, none => match xs.getLast? with
    | some v => .ok (v, .list xs.dropLast)
    | none => .bad
  | .list xs, some (.int j) => match ixOf xs.length j with
    | some n => match xs[n]? with
      | some v => .ok (v, .list (xs.eraseIdx n))
      | none => .bad
    | none => .bad
  | _, _ => .bad
@[simp] theorem isL_list (xs : List AV) : isL (.list xs) = .ok () := nrfl rfl
@[simp] theorem evE_pop {i : Nat} {o : Ox} : evE cal (.pop i o) env = (look env i >>= fun x0 => isL x0 >>= fun _ => evOx cal o env >>= fun p => look p.2 i >>= fun x => popV x p.1 >>= fun q => .ok (q.1, p.2.set i (some q.2))) := by
  rw [evE]
  congr 1
  funext x0
  congr 1
  funext _
  congr 1
  funext p
  obtain ⟨k, e1⟩ := p
  dsimp only
  cases look e1 i with
  | ok x =>
    rw [R.ok_bind, R.ok_bind]
    unfold popV
    cases x with
    | list xs =>
      cases k with
      | none =>
        dsimp only
        cases xs.getLast? <;> rfl
      | some k =>
        cases k with
        | int j =>
          dsimp only
          cases ixOf xs.length j with
          | none => rfl
          | some n =>
            dsimp only
            cases xs[n]? <;> rfl
        | _ => rfl
    | _ => cases k <;> rfl
  | exc _ _ => rfl
  | bad => rfl
@[simp] theorem evXs_cons (h : puXs (.cons a es) = false) : evXs cal (.cons a es) env = (evE cal a env >>= fun p => evXs cal es p.2 >>= fun q => .ok (p.1 :: q.1, q.2)) := by rw [evXs]
@[simp] theorem evXs_star (h : puXs (.star a es) = false) : evXs cal (.star a es) env = (evE cal a env >>= fun p => evXs cal es p.2 >>= fun q => starL p.1 q.1 >>= fun v => .ok (v, q.2)) := by
  rw [evXs]
  congr 1
  funext p
  obtain ⟨p1, p2⟩ := p
  dsimp only
  congr 1
  funext l
  obtain ⟨l1, l2⟩ := l
  dsimp only
  unfold starL
  cases items? p1 with
  | none => rfl
  | some xs => dsimp only; split <;> rfl
@[simp] theorem evXs_tmp (h : puXs (.tmp a es) = false) : evXs cal (.tmp a es) env = (evE cal a env >>= fun p => evXs cal es p.2 >>= fun q => tmpL p.1 q.1 >>= fun v => .ok (v, q.2)) := by
  rw [evXs]
  congr 1
  funext p
  obtain ⟨p1, p2⟩ := p
  dsimp only
  congr 1
  funext l
  obtain ⟨l1, l2⟩ := l
  dsimp only
  unfold tmpL
  split <;> rfl
@[simp] theorem evXs_io {i : Nat} : evXs cal (.io i es) env = (look env i >>= fun _ => evXs cal es env >>= fun p => look p.2 i >>= fun v => tmpL v p.1 >>= fun vs => .ok (vs, p.2)) := by
  rw [evXs]
  congr 1
  funext x
  congr 1
  funext p
  obtain ⟨p1, p2⟩ := p
  dsimp only
  congr 1
  funext v
  unfold tmpL
  split <;> rfl
@[simp] theorem evOx_some (h : puE a = false) : evOx cal (.some a) env = (evE cal a env >>= fun p => .ok (some p.1, p.2)) := by rw [evOx]
def condI (b : Option AV) (x : R (List AV × Env)) (env : Env) : R (List AV × Env) := match b with
  | none => x
  | some b => asB b >>= fun k => R.tf k x (.ok ([], env))
@[simp] theorem condI_none (x : R (List AV × Env)) (env : Env) : condI none x env = x := nrfl rfl
@[simp] theorem condI_some (b : AV) (x : R (List AV × Env)) (env : Env) : condI (some b) x env = (asB b >>= fun k => R.tf k x (.ok ([], env))) := nrfl rfl
@[simp] theorem evCs_nil (last : Env → R (List AV × Env)) : evCs cal .nil last env = last env := by rw [evCs]
@[simp] theorem evCs_cons (ws : List Nat) (tg : Tg) (it : It) (d : Ox) (r : Cs) (last : Env → R (List AV × Env)) : evCs cal (.cons ws tg it d r) last env = (evIt cal it env >>= fun p => loopC (fun x env =>
    bindTg tg x (wipeE env ws) >>= fun env2 => evOx cal d env2 >>= fun q => condI q.1 (evCs cal r last q.2) q.2) p.1 p.2) := by
  rw [evCs]
  congr 1
@[simp] theorem evIt_expr (h : puE a = false) : evIt cal (.expr a) env = (evE cal a env >>= fun p => itL p.1 >>= fun xs => .ok (xs, p.2)) := by
  rw [evIt]
  congr 1
  funext p
  obtain ⟨v, e1⟩ := p
  cases v <;> rfl
@[simp] theorem evIt_rng1 (h : puE a = false) : evIt cal (.rng1 a) env = (evE cal a env >>= fun p => rng1 p.1 >>= fun xs => .ok (xs, p.2)) := by
  rw [evIt]
  congr 1
  funext p
  obtain ⟨v, e1⟩ := p
  dsimp only
  unfold rng1
  cases v <;> first
    | rfl
    | (dsimp only; split <;> rfl)
@[simp] theorem si_asg {i : Nat} {r : Ss} (h : puE a = false) : evSs cal (.cons (.asg i a) r) env = (evE cal a env >>= fun p => evSs cal r (p.2.set i (some p.1))) := by
  rw [ss_cons, evS]
  cases evE cal a env <;> rfl
@[simp] theorem si_unp {is : List Nat} {r : Ss} (h : puE a = false) : evSs cal (.cons (.unp is a) r) env = (evE cal a env >>= fun p => bindTg (.tup is) p.1 p.2 >>= evSs cal r) := by
  rw [ss_cons, evS]
  cases evE cal a env with
  | ok p => obtain ⟨v, e⟩ := p; simp only [R.ok_bind, R.assoc]; cases bindTg (.tup is) v e <;> rfl
  | exc _ _ => rfl
  | bad => rfl
@[simp] theorem si_expr {r : Ss} (h : puE a = false) : evSs cal (.cons (.expr a) r) env = (evE cal a env >>= fun p => evSs cal r p.2) := by
  rw [ss_cons, evS]
  cases evE cal a env <;> rfl
@[simp] theorem si_ret {r : Ss} (h : puE a = false) : evSs cal (.cons (.ret a) r) env = (evE cal a env >>= fun p => .ok (.rt p.1 p.2)) := by
  rw [ss_cons, evS]
  cases evE cal a env <;> rfl
@[simp] theorem si_par {is : List Nat} {r : Ss} (h : puXs es = false) : evSs cal (.cons (.par is es) r) env = (evXs cal es env >>= fun p => parK (evSs cal r) (setAll is p.1 p.2)) := by
  rw [ss_cons, evS]
  cases evXs cal es env with
  | ok p =>
    obtain ⟨vs, e⟩ := p
    simp only [R.ok_bind, R.assoc]
    cases setAll is vs e <;> rfl
  | exc _ _ => rfl
  | bad => rfl
@[simp] theorem si_app {i : Nat} {r : Ss} (h : puE a = false) : evSs cal (.cons (.app i a) r) env = (look env i >>= fun x => asL x >>= fun _ => evE cal a env >>= fun p => look p.2 i >>= fun x => appL x p.1 >>= fun y => evSs cal r (p.2.set i (some y))) := by
  rw [ss_cons, evS]
  cases hl : look env i with
  | ok x =>
    cases x with
    | list xs =>
      simp only [R.ok_bind, R.assoc, asL]
      cases evE cal a env with
      | ok p =>
        obtain ⟨v, e⟩ := p
        simp only [R.ok_bind, R.assoc]
        cases look e i with
        | ok y =>
          rw [R.ok_bind, R.ok_bind]
          cases y <;> first
            | rfl
            | (simp only [appL]; split <;> rfl)
        | exc _ _ => rfl
        | bad => rfl
      | exc _ _ => rfl
      | bad => rfl
    | _ => rfl
  | exc _ _ => rfl
  | bad => rfl
@[simp] theorem si_for {inv ws : List Nat} {tg : Tg} {it : It} {b r : Ss} (h : puIt it = false) : evSs cal (.cons (.for_ inv ws tg it b) r) env = (evIt cal it env >>= fun p => forF (fun x env => bindTg tg x env >>= fun e => evSs cal b e >>= fun f => .ok (wipeF ws f)) p.1 p.2 >>= flK (evSs cal r)) := by
  rw [ss_cons, evS]
  cases evIt cal it env <;> rfl
end
@[simp] theorem back_nil (e0 e : Env) : back e0 e [] = e := nrfl rfl
@[simp] theorem back_cons (e0 e : Env) (i : Nat) (is : List Nat) : back e0 e (i :: is) = (back e0 e is).set i (e0[i]?.getD none) := nrfl rfl
@[simp] theorem wipeF_nx (ws : List Nat) (e : Env) : wipeF ws (.nx e) = .nx (wipeE e ws) := nrfl rfl
@[simp] theorem wipeF_ct (ws : List Nat) (e : Env) : wipeF ws (.ct e) = .ct (wipeE e ws) := nrfl rfl
@[simp] theorem wipeF_bk (ws : List Nat) (e : Env) : wipeF ws (.bk e) = .bk e := nrfl rfl
@[simp] theorem wipeF_rt (ws : List Nat) (v : AV) (e : Env) : wipeF ws (.rt v e) = .rt v e := nrfl rfl
/-- a def's end -/
def finD (io : List Nat) : Fl → R (AV × List AV)
  | .rt v env => outsOf env io >>= fun os => .ok (v, os)
  | .nx env => outsOf env io >>= fun os => .ok (.none, os)
  | _ => .bad
theorem call_eq {P : Tab} {f : Nat} {D : Def} {k : Nat} {vs : List AV} (h : P f = some D) (hk : 0 < k) (hl : vs.length = D.ps) : callD P k f vs = (evSs (callD P (k - 1)) D.body (vs.map some ++ List.replicate (D.n - D.ps) none) >>= finD D.io) := by
  cases k with
  | zero => omega
  | succ k =>
    show (match P f with
      | some D => runD (callD P k) D vs
      | none => .bad) = _
    rw [h]
    show runD (callD P k) D vs = _
    unfold runD
    rw [if_pos hl]
    show _ = (evSs (callD P k) D.body (vs.map some ++ List.replicate (D.n - D.ps) none) >>= finD D.io)
    cases evSs (callD P k) D.body (vs.map some ++ List.replicate (D.n - D.ps) none) with
    | ok f => cases f <;> rfl
    | exc _ _ => rfl
    | bad => rfl
@[simp] theorem finD_rt (v : AV) (env : Env) : finD [] (.rt v env) = .ok (v, []) := nrfl rfl
@[simp] theorem finD_nx (env : Env) : finD [] (.nx env) = .ok (.none, []) := nrfl rfl
end Ev
end

section
set_option linter.all false
set_option autoImplicit false
/-! Wk2: values of Lean's types; operators, built-ins and loops on them. -/
namespace Ev
open PySem (Str PyData)
/-- how a type's values stand -/
structure Co (α : Type) where
  e : α → AV
  d : α
  pl : ∀ a, (e a).plain = true
  eqv : ∀ a b, PyData.eqv (e a) (e b) = true ↔ a = b
theorem Co.inj {α : Type} (c : Co α) {a b : α} (h : c.e a = c.e b) : a = b := (c.eqv a b).mp (h ▸ (c.eqv a a).mpr rfl)
theorem plainAll_map {α : Type} (c : Co α) : ∀ l : List α, PyData.plainAll (l.map c.e) = true
  | [] => rfl
  | a :: l => by rw [List.map_cons, PyData.plainAll, c.pl, plainAll_map c l]; rfl
/-- at most so deep -/
class Dp {α : Type} (c : Co α) (n : Nat) : Prop where
  h : ∀ a, (c.e a).depth ≤ n
theorem depthAll_map {α : Type} (c : Co α) {n : Nat} [D : Dp c n] : ∀ l : List α, PyData.depthAll (l.map c.e) ≤ n
  | [] => Nat.zero_le _
  | a :: l => by
    rw [List.map_cons, PyData.depthAll]
    exact Nat.max_le.mpr ⟨D.h a, depthAll_map c l⟩
theorem eqvAll_map {α : Type} (c : Co α) : ∀ l m : List α, PyData.eqvAll (l.map c.e) (m.map c.e) = true ↔ l = m
  | [], [] => ⟨fun _ => rfl, fun _ => rfl⟩
  | [], b :: m => ⟨fun h => (by cases h), fun h => (by cases h)⟩
  | a :: l, [] => ⟨fun h => (by cases h), fun h => (by cases h)⟩
  | a :: l, b :: m => by
    rw [List.map_cons, List.map_cons, PyData.eqvAll, Bool.and_eq_true, c.eqv, eqvAll_map c l m, List.cons.injEq]
def cI : Co Int where
  e i := .int i
  d := 0
  pl _ := rfl
  eqv a b := by simp [PyData.eqv]
def cN : Co Nat where
  e i := .int (i : Int)
  d := 0
  pl _ := rfl
  eqv a b := by simp [PyData.eqv]; omega
def cB : Co Bool where
  e i := .bool i
  d := false
  pl _ := rfl
  eqv a b := by simp [PyData.eqv]
def cS : Co Str where
  e i := .str i
  d := ""
  pl _ := rfl
  eqv a b := by simp [PyData.eqv]
def cT {α : Type} (c : Co α) : Co (List α) where
  e l := .tuple (l.map c.e)
  d := []
  pl l := plainAll_map c l
  eqv a b := eqvAll_map c a b
def cL {α : Type} (c : Co α) : Co (List α) where
  e l := .list (l.map c.e)
  d := []
  pl l := plainAll_map c l
  eqv a b := eqvAll_map c a b
def cP {α β : Type} (c : Co α) (k : Co β) : Co (α × β) where
  e p := .tuple [c.e p.1, k.e p.2]
  d := (c.d, k.d)
  pl p := by simp only [PyData.plain, PyData.plainAll, c.pl, k.pl]; rfl
  eqv a b := by
    obtain ⟨a1, a2⟩ := a
    obtain ⟨b1, b2⟩ := b
    simp only [PyData.eqv, PyData.eqvAll, Bool.and_eq_true, c.eqv, k.eqv, Prod.mk.injEq, and_true]
/-- of three -/
def c3 {α β γ : Type} (c : Co α) (k : Co β) (t : Co γ) : Co (α × β × γ) where
  e p := .tuple [c.e p.1, k.e p.2.1, t.e p.2.2]
  d := (c.d, k.d, t.d)
  pl p := by simp only [PyData.plain, PyData.plainAll, c.pl, k.pl, t.pl]; rfl
  eqv a b := by
    obtain ⟨a1, a2, a3⟩ := a
    obtain ⟨b1, b2, b3⟩ := b
    simp only [PyData.eqv, PyData.eqvAll, Bool.and_eq_true, c.eqv, k.eqv, t.eqv, Prod.mk.injEq, and_true]
/-- a number or None -/
def cON : Co (Option Nat) where
  e o := match o with
    | some i => .int (i : Int)
    | none => .none
  d := none
  pl o := by cases o <;> rfl
  eqv a b := by
    cases a <;> cases b <;> simp [PyData.eqv]
    omega
section
variable {α β γ : Type} {c : Co α} {k : Co β} {t : Co γ} {n : Nat}
instance : Dp cI n := ⟨fun _ => Nat.zero_le _⟩
instance : Dp cN n := ⟨fun _ => Nat.zero_le _⟩
instance : Dp cB n := ⟨fun _ => Nat.zero_le _⟩
instance : Dp cS n := ⟨fun _ => Nat.zero_le _⟩
instance : Dp cON n := ⟨fun o => by cases o <;> exact Nat.zero_le _⟩
instance [D : Dp c n] : Dp (cT c) (n + 1) := ⟨fun l => Nat.succ_le_succ (depthAll_map c l)⟩
instance [D : Dp c n] : Dp (cL c) (n + 1) := ⟨fun l => Nat.succ_le_succ (depthAll_map c l)⟩
instance [D : Dp c n] [D2 : Dp k n] : Dp (cP c k) (n + 1) := ⟨fun p => Nat.succ_le_succ (Nat.max_le.mpr ⟨D.h _, Nat.max_le.mpr ⟨D2.h _, Nat.zero_le _⟩⟩)⟩
instance [D : Dp c n] [D2 : Dp k n] [D3 : Dp t n] : Dp (c3 c k t) (n + 1) := ⟨fun p => Nat.succ_le_succ (Nat.max_le.mpr ⟨D.h _, Nat.max_le.mpr ⟨D2.h _, Nat.max_le.mpr ⟨D3.h _, Nat.zero_le _⟩⟩⟩)⟩
end
abbrev cH : Co (List (List Nat)) := cT (cT cN)
abbrev Hands := List (List Nat)
section
variable {α β : Type} (c : Co α) (k : Co β)
theorem cN_e (n : Nat) : cN.e n = .int (n : Int) := rfl
theorem cT_e (l : List α) : (cT c).e l = .tuple (l.map c.e) := rfl
theorem cL_e (l : List α) : (cL c).e l = .list (l.map c.e) := rfl
theorem cP_e (a : α) (b : β) : (cP c k).e (a, b) = .tuple [c.e a, k.e b] := rfl
@[simp] theorem cN_d : cN.d = 0 := nrfl rfl
@[simp] theorem cT_d : (cT c).d = [] := nrfl rfl
@[simp] theorem cL_d : (cL c).d = [] := nrfl rfl
@[simp] theorem cP_d : (cP c k).d = (c.d, k.d) := nrfl rfl
/-! ### operators -/
theorem eqv_dec [DecidableEq α] (a b : α) : PyData.eqv (c.e a) (c.e b) = decide (a = b) := by
  rw [Bool.eq_iff_iff, c.eqv, decide_eq_true_iff]
theorem eqop_co [DecidableEq α] [D : Dp c 20] (a b : α) : eqop (c.e a) (c.e b) = .ok (decide (a = b)) := by
  unfold eqop dOk
  have h2 : Nat.min (c.e a).depth (c.e b).depth ≤ 48 := Nat.le_trans (Nat.min_le_left _ _) (Nat.le_trans (D.h a) (by decide))
  rw [c.pl, c.pl, decide_eq_true h2, eqv_dec]
  rfl
theorem any_map {l : List α} {x : α} [DecidableEq α] : ((l.map c.e).any fun y => PyData.eqv y (c.e x)) = decide (x ∈ l) := by
  rw [Bool.eq_iff_iff, List.any_eq_true, decide_eq_true_iff]
  constructor
  · rintro ⟨y, hy, h⟩
    obtain ⟨z, hz, rfl⟩ := List.mem_map.mp hy
    rw [← (c.eqv z x).mp h]
    exact hz
  · exact fun h => ⟨c.e x, List.mem_map_of_mem h, (c.eqv x x).mpr rfl⟩
theorem inop_T [DecidableEq α] [D : Dp c 20] (x : α) (l : List α) : inop (c.e x) ((cT c).e l) = .ok (decide (x ∈ l)) := by
  have h2 : Nat.min (PyData.depthAll (l.map c.e)) (c.e x).depth ≤ 48 := Nat.le_trans (Nat.min_le_left _ _) (Nat.le_trans (depthAll_map c (n := 20) l) (by decide))
  rw [cT_e, inop, c.pl, plainAll_map, decide_eq_true h2, any_map]
  rfl
theorem inop_L [DecidableEq α] [D : Dp c 20] (x : α) (l : List α) : inop (c.e x) ((cL c).e l) = .ok (decide (x ∈ l)) := by
  have h2 : Nat.min (PyData.depthAll (l.map c.e)) (c.e x).depth ≤ 48 := Nat.le_trans (Nat.min_le_left _ _) (Nat.le_trans (depthAll_map c (n := 20) l) (by decide))
  rw [cL_e, inop, c.pl, plainAll_map, decide_eq_true h2, any_map]
  rfl
end
/-! ### numbers -/
section
variable (a b : Nat) (i j : Int)
@[simp] theorem binop_add : binop .add (.int i) (.int j) = .ok (.int (i + j)) := nrfl rfl
@[simp] theorem binop_sub : binop .sub (.int i) (.int j) = .ok (.int (i - j)) := nrfl rfl
@[simp] theorem negV_int : negV (.int i) = .ok (.int (-i)) := nrfl rfl
theorem dOk_int : dOk (.int i) (.int j) = true := by unfold dOk; rw [PyData.depth, PyData.depth]; decide
@[simp] theorem cmp_lt : cmpop .lt (.int i) (.int j) = .ok (.bool (decide (i < j))) := by rw [cmpop, ordop, dOk_int]; rfl
@[simp] theorem cmp_gt : cmpop .gt (.int i) (.int j) = .ok (.bool (decide (j < i))) := by rw [cmpop, ordop, dOk_int]; rfl
@[simp] theorem cmp_le : cmpop .le (.int i) (.int j) = .ok (.bool (decide (i ≤ j))) := by
  rw [cmpop, ordop, dOk_int]
  show R.ok (PyData.bool (!decide (j < i))) = _
  congr 2
  rw [Bool.eq_iff_iff]
  simp
@[simp] theorem cmp_ge : cmpop .ge (.int i) (.int j) = .ok (.bool (decide (j ≤ i))) := by
  rw [cmpop, ordop, dOk_int]
  show R.ok (PyData.bool (!decide (i < j))) = _
  congr 2
  rw [Bool.eq_iff_iff]
  simp
@[simp] theorem cmp_eqi : cmpop .eq (.int i) (.int j) = .ok (.bool (decide (i = j))) := by
  rw [cmpop, eqop, dOk_int]
  rfl
@[simp] theorem cmp_nei : cmpop .ne (.int i) (.int j) = .ok (.bool (decide (i ≠ j))) := by
  rw [cmpop, eqop, dOk_int]
  show R.ok (PyData.bool (!decide (i = j))) = _
  congr 2
  rw [Bool.eq_iff_iff]
  simp
end
end Ev
end

section
set_option linter.all false
set_option autoImplicit false
/-! Wk3: evaluation on values of Lean's types. -/
namespace Ev
open PySem (Str PyData)
@[simp] theorem R.tf_okV (b : Bool) (x y : AV) : R.tf b (.ok x) (.ok y) = .ok (if b = true then x else y) := by cases b <;> rfl
@[simp] theorem R.tf_okL (b : Bool) (x y : List AV) : R.tf b (.ok x) (.ok y) = .ok (if b = true then x else y) := by cases b <;> rfl
theorem R.tf_bool (b x y : Bool) : R.tf b (.ok (.bool x)) (.ok (.bool y)) = (.ok (.bool (if b = true then x else y)) : R AV) := by cases b <;> rfl
open Classical in
/-- what must hold for the run to go on -/
noncomputable def gd (p : Prop) : R Unit := if p then .ok () else .bad
@[simp] theorem gd_ok {p : Prop} (h : p) : gd p = .ok () := if_pos h
theorem gd_no {p : Prop} (h : ¬ p) : gd p = .bad := if_neg h
theorem gd_of {α : Type} {p : Prop} {x y : R α} (h : p → x = y) : (gd p >>= fun _ => x) = (gd p >>= fun _ => y) := by
  by_cases q : p
  · rw [h q]
  · rw [gd_no q]; rfl
theorem gd_guard {α : Type} {p q : Prop} (x : R α) : (gd p >>= fun _ => gd q >>= fun _ => x) = (gd (p ∧ q) >>= fun _ => x) := by
  by_cases hp : p
  · by_cases hq : q
    · rw [gd_ok hp, gd_ok hq, gd_ok ⟨hp, hq⟩]; rfl
    · rw [gd_ok hp, gd_no hq, gd_no (p := p ∧ q) fun z => hq z.2]; rfl
  · rw [gd_no hp, gd_no (p := p ∧ q) fun z => hp z.1]; rfl
@[simp] theorem tf_gdV (b : Bool) (p : Prop) (x y : AV) : R.tf b (gd p >>= fun _ => .ok x) (.ok y) = (gd (b = true → p) >>= fun _ => .ok (if b = true then x else y)) := by
  cases b with
  | true => simp
  | false => rw [gd_ok (p := false = true → p) (fun h => by cases h)]; rfl
@[simp] theorem tf_gdV' (b : Bool) (p : Prop) (x y : AV) : R.tf b (.ok x) (gd p >>= fun _ => .ok y) = (gd (b = false → p) >>= fun _ => .ok (if b = true then x else y)) := by
  cases b with
  | false => simp
  | true => rw [gd_ok (p := true = false → p) (fun h => by cases h)]; rfl
@[simp] theorem tf_gdV2 (b : Bool) (p q : Prop) (x y : AV) : R.tf b (gd p >>= fun _ => .ok x) (gd q >>= fun _ => .ok y) = (gd ((b = true → p) ∧ (b = false → q)) >>= fun _ => .ok (if b = true then x else y)) := by
  cases b with
  | true => simp
  | false => simp
@[simp] theorem tf_gdL (b : Bool) (p : Prop) (x y : List AV) : R.tf b (gd p >>= fun _ => .ok x) (.ok y) = (gd (b = true → p) >>= fun _ => .ok (if b = true then x else y)) := by
  cases b with
  | true => simp
  | false => rw [gd_ok (p := false = true → p) (fun h => by cases h)]; rfl
@[simp] theorem ite_bool {p : Prop} [Decidable p] (x y : Bool) : (if p then PyData.bool x else PyData.bool y) = PyData.bool (if p then x else y) := by split <;> rfl
def mapE {α : Type} (c : Co α) (l : List α) : List AV := l.map c.e
section
variable {α β γ : Type} (c : Co α) (k : Co β)
theorem mapE_len (l : List α) : (mapE c l).length = l.length := List.length_map _
theorem cT_m (l : List α) : (cT c).e l = .tuple (mapE c l) := rfl
theorem cL_m (l : List α) : (cL c).e l = .list (mapE c l) := rfl
@[simp] theorem il_0 : PyData.int 0 = cN.e 0 := nrfl rfl
@[simp] theorem il_1 : PyData.int 1 = cN.e 1 := nrfl rfl
@[simp] theorem il_2 : PyData.int 2 = cN.e 2 := nrfl rfl
@[simp] theorem il_3 : PyData.int 3 = cN.e 3 := nrfl rfl
@[simp] theorem il_4 : PyData.int 4 = cN.e 4 := nrfl rfl
@[simp] theorem il_5 : PyData.int 5 = cN.e 5 := nrfl rfl
@[simp] theorem il_6 : PyData.int 6 = cN.e 6 := nrfl rfl
@[simp] theorem il_7 : PyData.int 7 = cN.e 7 := nrfl rfl
@[simp] theorem il_8 : PyData.int 8 = cN.e 8 := nrfl rfl
@[simp] theorem il_9 : PyData.int 9 = cN.e 9 := nrfl rfl
@[simp] theorem il_10 : PyData.int 10 = cN.e 10 := nrfl rfl
@[simp] theorem il_11 : PyData.int 11 = cN.e 11 := nrfl rfl
@[simp] theorem il_12 : PyData.int 12 = cN.e 12 := nrfl rfl
@[simp] theorem il_13 : PyData.int 13 = cN.e 13 := nrfl rfl
@[simp] theorem il_14 : PyData.int 14 = cN.e 14 := nrfl rfl
@[simp] theorem il_15 : PyData.int 15 = cN.e 15 := nrfl rfl
@[simp] theorem il_16 : PyData.int 16 = cN.e 16 := nrfl rfl
@[simp] theorem il_17 : PyData.int 17 = cN.e 17 := nrfl rfl
@[simp] theorem il_18 : PyData.int 18 = cN.e 18 := nrfl rfl
@[simp] theorem il_19 : PyData.int 19 = cN.e 19 := nrfl rfl
@[simp] theorem il_20 : PyData.int 20 = cN.e 20 := nrfl rfl
@[simp] theorem il_21 : PyData.int 21 = cN.e 21 := nrfl rfl
@[simp] theorem il_22 : PyData.int 22 = cN.e 22 := nrfl rfl
@[simp] theorem il_23 : PyData.int 23 = cN.e 23 := nrfl rfl
@[simp] theorem il_24 : PyData.int 24 = cN.e 24 := nrfl rfl
@[simp] theorem il_30 : PyData.int 30 = cN.e 30 := nrfl rfl
@[simp] theorem il_40 : PyData.int 40 = cN.e 40 := nrfl rfl
@[simp] theorem il_48 : PyData.int 48 = cN.e 48 := nrfl rfl
@[simp] theorem il_50 : PyData.int 50 = cN.e 50 := nrfl rfl
@[simp] theorem il_60 : PyData.int 60 = cN.e 60 := nrfl rfl
@[simp] theorem il_61 : PyData.int 61 = cN.e 61 := nrfl rfl
@[simp] theorem il_64 : PyData.int 64 = cN.e 64 := nrfl rfl
@[simp] theorem il_99 : PyData.int 99 = cN.e 99 := nrfl rfl
@[simp] theorem il_100 : PyData.int 100 = cN.e 100 := nrfl rfl
@[simp] theorem il_5000 : PyData.int 5000 = cN.e 5000 := nrfl rfl
@[simp] theorem il_20000 : PyData.int 20000 = cN.e 20000 := nrfl rfl
@[simp] theorem il_48271 : PyData.int 48271 = cN.e 48271 := nrfl rfl
@[simp] theorem il_2147483647 : PyData.int 2147483647 = cN.e 2147483647 := nrfl rfl
@[simp] theorem int_cast (n : Nat) : PyData.int (n : Int) = cN.e n := nrfl rfl
/-! ### numbers -/
variable (m n : Nat)
@[simp] theorem add_N : binop .add (cN.e m) (cN.e n) = .ok (cN.e (m + n)) := by rw [cN_e, cN_e, binop_add]; rfl
theorem sub_NI : binop .sub (cN.e m) (cN.e n) = .ok (cI.e ((m : Int) - n)) := rfl
@[simp] theorem sub_N (h : n ≤ m) : binop .sub (cN.e m) (cN.e n) = .ok (cN.e (m - n)) := by rw [cN_e, cN_e, cN_e, binop_sub, Int.ofNat_sub h]
theorem small_N (h : n < 18446744073709551616) : smallI (n : Int) = true := by
  unfold smallI big
  rw [decide_eq_true (by omega), decide_eq_true (by omega)]
  rfl
@[simp] theorem mul_N (h : m < 18446744073709551616) : binop .mul (cN.e m) (cN.e n) = .ok (cN.e (m * n)) := by
  rw [cN_e, cN_e, binop, small_N m h, cN_e, Int.natCast_mul]
  rfl
@[simp] theorem fdiv_N (h0 : 0 < n) (h : n < 1073741824) : binop .fdiv (cN.e m) (cN.e n) = .ok (cN.e (m / n)) := by
  rw [cN_e, cN_e, binop, decide_eq_true (by omega), decide_eq_true (by omega)]
  show R.ok (PyData.int ((m : Int).fdiv n)) = _
  rw [Int.fdiv_eq_ediv_of_nonneg _ (by omega)]
  rfl
@[simp] theorem mod_N (h0 : 0 < n) : binop .mod (cN.e m) (cN.e n) = .ok (cN.e (m % n)) := by
  rw [cN_e, cN_e, binop, decide_eq_true (by omega)]
  show R.ok (PyData.int ((m : Int).fmod n)) = _
  rw [Int.fmod_eq_emod_of_nonneg _ (by omega)]
  rfl
@[simp] theorem neg_N : negV (cN.e m) = .ok (cI.e (-(m : Int))) := nrfl rfl
@[simp] theorem lt_N : cmpop .lt (cN.e m) (cN.e n) = .ok (.bool (decide (m < n))) := by rw [cN_e, cN_e, cmp_lt]; congr 3; exact propext Int.ofNat_lt
@[simp] theorem gt_N : cmpop .gt (cN.e m) (cN.e n) = .ok (.bool (decide (n < m))) := by rw [cN_e, cN_e, cmp_gt]; congr 3; exact propext Int.ofNat_lt
@[simp] theorem le_N : cmpop .le (cN.e m) (cN.e n) = .ok (.bool (decide (m ≤ n))) := by rw [cN_e, cN_e, cmp_le]; congr 3; exact propext Int.ofNat_le
@[simp] theorem ge_N : cmpop .ge (cN.e m) (cN.e n) = .ok (.bool (decide (n ≤ m))) := by rw [cN_e, cN_e, cmp_ge]; congr 3; exact propext Int.ofNat_le
/-! ### comparisons -/
@[simp] theorem eq_co [DecidableEq α] [Dp c 20] (a b : α) : cmpop .eq (c.e a) (c.e b) = .ok (.bool (decide (a = b))) := by
  show (eqop (c.e a) (c.e b) >>= fun k => R.ok (PyData.bool k)) = _
  rw [eqop_co c]
  rfl
@[simp] theorem ne_co [DecidableEq α] [Dp c 20] (a b : α) : cmpop .ne (c.e a) (c.e b) = .ok (.bool (decide (a ≠ b))) := by
  show (eqop (c.e a) (c.e b) >>= fun k => R.ok (PyData.bool (!k))) = _
  rw [eqop_co c]
  show R.ok (PyData.bool (!decide (a = b))) = _
  rw [decide_not]
@[simp] theorem in_T [DecidableEq α] [Dp c 20] (x : α) (l : List α) : cmpop .in_ (c.e x) ((cT c).e l) = .ok (.bool (decide (x ∈ l))) := by
  show (inop (c.e x) ((cT c).e l) >>= fun k => R.ok (PyData.bool k)) = _
  rw [inop_T c]
  rfl
@[simp] theorem in_L [DecidableEq α] [Dp c 20] (x : α) (l : List α) : cmpop .in_ (c.e x) ((cL c).e l) = .ok (.bool (decide (x ∈ l))) := by
  show (inop (c.e x) ((cL c).e l) >>= fun k => R.ok (PyData.bool k)) = _
  rw [inop_L c]
  rfl
@[simp] theorem nin_T [DecidableEq α] [Dp c 20] (x : α) (l : List α) : cmpop .nin (c.e x) ((cT c).e l) = .ok (.bool (decide (x ∉ l))) := by
  show (inop (c.e x) ((cT c).e l) >>= fun k => R.ok (PyData.bool (!k))) = _
  rw [inop_T c]
  show R.ok (PyData.bool (!decide (x ∈ l))) = _
  rw [decide_not]
@[simp] theorem nin_L [DecidableEq α] [Dp c 20] (x : α) (l : List α) : cmpop .nin (c.e x) ((cL c).e l) = .ok (.bool (decide (x ∉ l))) := by
  show (inop (c.e x) ((cL c).e l) >>= fun k => R.ok (PyData.bool (!k))) = _
  rw [inop_L c]
  show R.ok (PyData.bool (!decide (x ∈ l))) = _
  rw [decide_not]
@[simp] theorem eq_Lnil [DecidableEq α] [Dp c 19] (l : List α) : cmpop .eq ((cL c).e l) (.list []) = .ok (.bool (decide (l = []))) := eq_co (cL c) l []
@[simp] theorem ne_Lnil [DecidableEq α] [Dp c 19] (l : List α) : cmpop .ne ((cL c).e l) (.list []) = .ok (.bool (decide (l ≠ []))) := ne_co (cL c) l []
@[simp] theorem eq_Tnil [DecidableEq α] [Dp c 19] (l : List α) : cmpop .eq ((cT c).e l) (.tuple []) = .ok (.bool (decide (l = []))) := eq_co (cT c) l []
@[simp] theorem ne_Tnil [DecidableEq α] [Dp c 19] (l : List α) : cmpop .ne ((cT c).e l) (.tuple []) = .ok (.bool (decide (l ≠ []))) := ne_co (cT c) l []
@[simp] theorem eq_nnL : cmpop .eq (.list []) (.list []) = .ok (.bool true) := (eq_co (cL cN) [] []).trans rfl
@[simp] theorem ne_nnL : cmpop .ne (.list []) (.list []) = .ok (.bool false) := (ne_co (cL cN) [] []).trans rfl
@[simp] theorem eq_nnT : cmpop .eq (.tuple []) (.tuple []) = .ok (.bool true) := (eq_co (cT cN) [] []).trans rfl
@[simp] theorem ne_nnT : cmpop .ne (.tuple []) (.tuple []) = .ok (.bool false) := (ne_co (cT cN) [] []).trans rfl
@[simp] theorem eq_nLl [DecidableEq α] [Dp c 19] (l : List α) : cmpop .eq (.list []) ((cL c).e l) = .ok (.bool (decide ([] = l))) := eq_co (cL c) [] l
@[simp] theorem ne_nLl [DecidableEq α] [Dp c 19] (l : List α) : cmpop .ne (.list []) ((cL c).e l) = .ok (.bool (decide ([] ≠ l))) := ne_co (cL c) [] l
@[simp] theorem eq_nTl [DecidableEq α] [Dp c 19] (l : List α) : cmpop .eq (.tuple []) ((cT c).e l) = .ok (.bool (decide ([] = l))) := eq_co (cT c) [] l
@[simp] theorem ne_nTl [DecidableEq α] [Dp c 19] (l : List α) : cmpop .ne (.tuple []) ((cT c).e l) = .ok (.bool (decide ([] ≠ l))) := ne_co (cT c) [] l
/-! ### kinds -/
@[simp] theorem isInt_N : bltop .isInt [cN.e n] = .ok (.bool true) := nrfl rfl
@[simp] theorem isBool_N : bltop .isBool [cN.e n] = .ok (.bool false) := nrfl rfl
@[simp] theorem isTup_N : bltop .isTup [cN.e n] = .ok (.bool false) := nrfl rfl
@[simp] theorem isStr_N : bltop .isStr [cN.e n] = .ok (.bool false) := nrfl rfl
@[simp] theorem isTL_N : bltop .isTL [cN.e n] = .ok (.bool false) := nrfl rfl
@[simp] theorem isTup_T (l : List α) : bltop .isTup [(cT c).e l] = .ok (.bool true) := nrfl rfl
@[simp] theorem isTup_L (l : List α) : bltop .isTup [(cL c).e l] = .ok (.bool false) := nrfl rfl
@[simp] theorem isList_T (l : List α) : bltop .isList [(cT c).e l] = .ok (.bool false) := nrfl rfl
@[simp] theorem isList_L (l : List α) : bltop .isList [(cL c).e l] = .ok (.bool true) := nrfl rfl
@[simp] theorem isTL_T (l : List α) : bltop .isTL [(cT c).e l] = .ok (.bool true) := nrfl rfl
@[simp] theorem isTL_L (l : List α) : bltop .isTL [(cL c).e l] = .ok (.bool true) := nrfl rfl
/-! ### sequences -/
@[simp] theorem len_T (l : List α) : bltop .len [(cT c).e l] = .ok (cN.e l.length) := by rw [cT_m, bltop, mapE_len]; rfl
@[simp] theorem len_L (l : List α) : bltop .len [(cL c).e l] = .ok (cN.e l.length) := by rw [cL_m, bltop, mapE_len]; rfl
theorem ixOf_N (h : n < m) : ixOf m (n : Int) = some n := by
  unfold ixOf
  rw [if_pos (by omega), if_pos (by omega)]
  rfl
theorem getD_in {l : List α} {n : Nat} {d : α} (h : n < l.length) : l[n]?.getD d = l[n] := by
  rw [List.getElem?_eq_getElem h]; rfl
theorem map_getD (l : List α) (h : n < l.length) : (l.map c.e)[n]? = some (c.e (l[n]?.getD c.d)) := by
  rw [List.getElem?_map, List.getElem?_eq_getElem h]
  rfl
theorem idx_T (l : List α) (h : n < l.length) : idxop ((cT c).e l) (cN.e n) = .ok (c.e (l[n]?.getD c.d)) := by
  rw [cT_e, cN_e, idxop, List.length_map, ixOf_N _ _ h]
  dsimp only
  rw [map_getD c n l h]
theorem idx_L (l : List α) (h : n < l.length) : idxop ((cL c).e l) (cN.e n) = .ok (c.e (l[n]?.getD c.d)) := by
  rw [cL_e, cN_e, idxop, List.length_map, ixOf_N _ _ h]
  dsimp only
  rw [map_getD c n l h]
theorem ixOf_none (h : ¬ n < m) : ixOf m (n : Int) = none := by
  unfold ixOf
  rw [if_pos (by omega), if_neg (by omega)]
@[simp] theorem idx_Tg (l : List α) : idxop ((cT c).e l) (cN.e n) = (gd (n < l.length) >>= fun _ => .ok (c.e (l[n]?.getD c.d))) := by
  by_cases h : n < l.length
  · rw [gd_ok h, idx_T c n l h]; rfl
  · rw [gd_no h, cT_e, cN_e, idxop, List.length_map, ixOf_none _ _ h]; rfl
@[simp] theorem idx_Lg (l : List α) : idxop ((cL c).e l) (cN.e n) = (gd (n < l.length) >>= fun _ => .ok (c.e (l[n]?.getD c.d))) := by
  by_cases h : n < l.length
  · rw [gd_ok h, idx_L c n l h]; rfl
  · rw [gd_no h, cL_e, cN_e, idxop, List.length_map, ixOf_none _ _ h]; rfl
theorem ixOf_last (h : 0 < n) : ixOf n (-1) = some (n - 1) := by
  unfold ixOf
  rw [if_neg (by omega), if_pos (by omega)]
  congr 1
  omega
theorem getD_last (l : List α) (h : l ≠ []) : l[l.length - 1]?.getD c.d = l.getLast h := by
  have hl : l.length - 1 < l.length := by have := List.length_pos_iff.mpr h; omega
  rw [getD_in hl, List.getLast_eq_getElem]
@[simp] theorem idx_Llast (l : List α) (h : l ≠ []) : idxop ((cL c).e l) (cI.e (-1)) = .ok (c.e (l.getLast h)) := by
  have hl := List.length_pos_iff.mpr h
  show idxop (.list (l.map c.e)) (.int (-1)) = _
  rw [idxop, List.length_map, ixOf_last _ hl]
  dsimp only
  rw [map_getD c _ l (by omega), getD_last c l h]
@[simp] theorem idx_Tlast (l : List α) (h : l ≠ []) : idxop ((cT c).e l) (cI.e (-1)) = .ok (c.e (l.getLast h)) := by
  have hl := List.length_pos_iff.mpr h
  show idxop (.tuple (l.map c.e)) (.int (-1)) = _
  rw [idxop, List.length_map, ixOf_last _ hl]
  dsimp only
  rw [map_getD c _ l (by omega), getD_last c l h]
@[simp] theorem idx_P0 (p : α × β) : idxop ((cP c k).e p) (cN.e 0) = .ok (c.e p.1) := nrfl rfl
@[simp] theorem idx_P1 (p : α × β) : idxop ((cP c k).e p) (cN.e 1) = .ok (k.e p.2) := nrfl rfl
theorem cut_take (l : List AV) (i : Nat) : cutL l none (some (i : Int)) = l.take i := by
  unfold cutL slIx
  dsimp only
  rw [if_neg (by omega), Int.toNat_natCast, List.drop_zero, Nat.sub_zero]
  rcases Nat.le_total i l.length with h | h
  · rw [show Nat.min i l.length = i from Nat.min_eq_left h]
  · rw [show Nat.min i l.length = l.length from Nat.min_eq_right h, List.take_of_length_le h, List.take_length]
theorem cut_drop (l : List AV) (i : Nat) : cutL l (some (i : Int)) none = l.drop i := by
  unfold cutL slIx
  dsimp only
  rw [if_neg (by omega), Int.toNat_natCast]
  rcases Nat.le_total i l.length with h | h
  · rw [show Nat.min i l.length = i from Nat.min_eq_left h]
    exact List.take_of_length_le (by rw [List.length_drop]; exact Nat.le_refl _)
  · rw [show Nat.min i l.length = l.length from Nat.min_eq_right h, List.drop_length, List.drop_of_length_le h, List.take_nil]
@[simp] theorem sl_Tto (l : List α) : sliV ((cT c).e l) none (some (cN.e n)) = .ok ((cT c).e (l.take n)) := by
  show R.ok (PyData.tuple (cutL (l.map c.e) none (some (n : Int)))) = _
  rw [cut_take, ← List.map_take]
  rfl
@[simp] theorem sl_Tfrom (l : List α) : sliV ((cT c).e l) (some (cN.e n)) none = .ok ((cT c).e (l.drop n)) := by
  show R.ok (PyData.tuple (cutL (l.map c.e) (some (n : Int)) none)) = _
  rw [cut_drop, ← List.map_drop]
  rfl
@[simp] theorem sl_Lto (l : List α) : sliV ((cL c).e l) none (some (cN.e n)) = .ok ((cL c).e (l.take n)) := by
  show R.ok (PyData.list (cutL (l.map c.e) none (some (n : Int)))) = _
  rw [cut_take, ← List.map_take]
  rfl
@[simp] theorem sl_Lfrom (l : List α) : sliV ((cL c).e l) (some (cN.e n)) none = .ok ((cL c).e (l.drop n)) := by
  show R.ok (PyData.list (cutL (l.map c.e) (some (n : Int)) none)) = _
  rw [cut_drop, ← List.map_drop]
  rfl
theorem cut_m1 (l : List AV) : cutL l (some (-1)) none = l.drop (l.length - 1) := by
  unfold cutL slIx
  dsimp only
  rw [if_pos (by omega)]
  have e : ((-1 : Int) + l.length).toNat = l.length - 1 := by omega
  rw [e]
  exact List.take_of_length_le (by rw [List.length_drop]; exact Nat.le_refl _)
@[simp] theorem sl_Lm1 (l : List α) : sliV ((cL c).e l) (some (cI.e (-1))) none = .ok ((cL c).e (l.drop (l.length - 1))) := by
  show R.ok (PyData.list (cutL (l.map c.e) (some (-1)) none)) = _
  rw [cut_m1, List.length_map, ← List.map_drop]
  rfl
@[simp] theorem sl_Tm1 (l : List α) : sliV ((cT c).e l) (some (cI.e (-1))) none = .ok ((cT c).e (l.drop (l.length - 1))) := by
  show R.ok (PyData.tuple (cutL (l.map c.e) (some (-1)) none)) = _
  rw [cut_m1, List.length_map, ← List.map_drop]
  rfl
@[simp] theorem it_T (l : List α) : itL ((cT c).e l) = .ok (mapE c l) := nrfl rfl
@[simp] theorem it_L (l : List α) : itL ((cL c).e l) = .ok (mapE c l) := nrfl rfl
@[simp] theorem it_nilL : itL (.list []) = .ok [] := nrfl rfl
@[simp] theorem it_nilT : itL (.tuple []) = .ok [] := nrfl rfl
theorem okRng_N (h : n ≤ 1000000000) : okRng (n : Int) = true := by
  unfold okRng
  rw [decide_eq_true (by omega), decide_eq_true (by omega)]
  rfl
theorem rangeD_N : rangeD (m : Int) (n : Int) = mapE cN (List.range' m (n - m)) := by
  unfold rangeD mapE
  have e : ((n : Int) - m).toNat = n - m := by omega
  rw [e, List.range'_eq_map_range, List.map_map]
  refine List.map_congr_left fun x _ => ?_
  show PyData.int _ = PyData.int _
  congr 1
theorem rng1_N (h : n ≤ 1000000000) : rng1 (cN.e n) = .ok (mapE cN (List.range n)) := by
  rw [cN_e, rng1, okRng_N n h]
  have := rangeD_N 0 n
  rw [Nat.sub_zero, ← List.range_eq_range'] at this
  exact congrArg R.ok this
theorem rng2_N (h1 : m ≤ 1000000000) (h : n ≤ 1000000000) : rng2 (cN.e m) (cN.e n) = .ok (mapE cN (List.range' m (n - m))) := by
  rw [cN_e, cN_e, rng2, okRng_N n h, okRng_N m h1, rangeD_N]
  rfl
theorem okRng_no (h : ¬ n ≤ 1000000000) : okRng (n : Int) = false := by
  unfold okRng
  rw [decide_eq_true (by omega), decide_eq_false (by omega)]
  rfl
/-- how far a range goes -/
def big9 : Nat := 1000000000
theorem le_big9 {n : Nat} (h : n ≤ 100000) : n ≤ big9 := Nat.le_trans h (by decide)
@[simp] theorem rng1_g : rng1 (cN.e n) = (gd (n ≤ big9) >>= fun _ => .ok (mapE cN (List.range n))) := by
  by_cases h : n ≤ big9
  · rw [gd_ok h, rng1_N n h]; rfl
  · rw [gd_no h, cN_e, rng1, okRng_no n h]; rfl
@[simp] theorem rng2_g : rng2 (cN.e m) (cN.e n) = (gd (m ≤ big9 ∧ n ≤ big9) >>= fun _ => .ok (mapE cN (List.range' m (n - m)))) := by
  by_cases h : m ≤ big9
  · by_cases h2 : n ≤ big9
    · rw [gd_ok ⟨h, h2⟩, rng2_N m n h h2]; rfl
    · rw [gd_no fun z => h2 z.2, cN_e, cN_e, rng2, okRng_no n h2, Bool.and_false]; rfl
  · rw [gd_no fun z => h z.1, cN_e, cN_e, rng2, okRng_no m h]; rfl
theorem rng2_ok {m n : Nat} (h1 : m ≤ big9) (h2 : n ≤ big9) : rng2 (cN.e m) (cN.e n) = .ok (mapE cN (List.range' m (n - m))) := rng2_N m n h1 h2
/-- with their places -/
def enumN {α : Type} (l : List α) : List (Nat × α) := l.zipIdx.map fun p => (p.2, p.1)
theorem enumD_map : ∀ (l : List α) (i : Nat), enumD i (l.map c.e) = mapE (cP cN c) ((l.zipIdx i).map fun p => (p.2, p.1))
  | [], _ => rfl
  | x :: l, i => by
    rw [List.map_cons, enumD, enumD_map l (i + 1), List.zipIdx_cons, List.map_cons]
    rfl
@[simp] theorem enu_T (l : List α) : enuL ((cT c).e l) = .ok (mapE (cP cN c) (enumN l)) := congrArg R.ok (enumD_map c l 0)
@[simp] theorem enu_L (l : List α) : enuL ((cL c).e l) = .ok (mapE (cP cN c) (enumN l)) := congrArg R.ok (enumD_map c l 0)
@[simp] theorem bind_P (i j : Nat) (p : α × β) (env : Env) : bindTg (.tup [i, j]) ((cP c k).e p) env = .ok ((env.set i (some (c.e p.1))).set j (some (k.e p.2))) := nrfl rfl
@[simp] theorem tuple_L (l : List α) : bltop .tuple [(cL c).e l] = .ok ((cT c).e l) := nrfl rfl
@[simp] theorem tuple_T (l : List α) : bltop .tuple [(cT c).e l] = .ok ((cT c).e l) := nrfl rfl
@[simp] theorem list_T (l : List α) : bltop .list [(cT c).e l] = .ok ((cL c).e l) := nrfl rfl
@[simp] theorem list_L (l : List α) : bltop .list [(cL c).e l] = .ok ((cL c).e l) := nrfl rfl
@[simp] theorem tuple_nil : bltop .tuple [.list []] = .ok (.tuple []) := nrfl rfl
@[simp] theorem lstR_nil : lstR [] = .ok (.list []) := nrfl rfl
@[simp] theorem tupR_nil : tupR [] = .ok (.tuple []) := nrfl rfl
theorem lstR_m (l : List α) (h : l.length ≤ line) : lstR (mapE c l) = .ok ((cL c).e l) := by
  unfold lstR
  rw [mapE_len, if_pos h]
  rfl
theorem tupR_m (l : List α) (h : l.length ≤ line) : tupR (mapE c l) = .ok ((cT c).e l) := by
  unfold tupR
  rw [mapE_len, if_pos h]
  rfl
@[simp] theorem lstR_g (l : List α) : lstR (mapE c l) = (gd (l.length ≤ line) >>= fun _ => .ok ((cL c).e l)) := by
  by_cases h : l.length ≤ line
  · rw [gd_ok h, lstR_m c l h]; rfl
  · rw [gd_no h]; unfold lstR; rw [mapE_len, if_neg h]; rfl
@[simp] theorem tupR_g (l : List α) : tupR (mapE c l) = (gd (l.length ≤ line) >>= fun _ => .ok ((cT c).e l)) := by
  by_cases h : l.length ≤ line
  · rw [gd_ok h, tupR_m c l h]; rfl
  · rw [gd_no h]; unfold tupR; rw [mapE_len, if_neg h]; rfl
@[simp] theorem lstR_1 (x : α) : lstR [c.e x] = .ok ((cL c).e [x]) := nrfl rfl
@[simp] theorem tupR_1 (x : α) : tupR [c.e x] = .ok ((cT c).e [x]) := nrfl rfl
@[simp] theorem tupR_2 (x : α) (y : β) : tupR [c.e x, k.e y] = .ok ((cP c k).e (x, y)) := nrfl rfl
theorem star_T (l : List α) (vs : List AV) (h : l.length ≤ line) : starL ((cT c).e l) vs = .ok (mapE c l ++ vs) := by
  rw [cT_m, starL, items?]
  dsimp only
  rw [mapE_len, if_pos h]
theorem star_L (l : List α) (vs : List AV) (h : l.length ≤ line) : starL ((cL c).e l) vs = .ok (mapE c l ++ vs) := by
  rw [cL_m, starL, items?]
  dsimp only
  rw [mapE_len, if_pos h]
@[simp] theorem star_Tg (l : List α) (vs : List AV) : starL ((cT c).e l) vs = (gd (l.length ≤ line) >>= fun _ => .ok (mapE c l ++ vs)) := by
  by_cases h : l.length ≤ line
  · rw [gd_ok h, star_T c l vs h]; rfl
  · rw [gd_no h, cT_m, starL, items?]; dsimp only; rw [mapE_len, if_neg h]; rfl
@[simp] theorem star_Lg (l : List α) (vs : List AV) : starL ((cL c).e l) vs = (gd (l.length ≤ line) >>= fun _ => .ok (mapE c l ++ vs)) := by
  by_cases h : l.length ≤ line
  · rw [gd_ok h, star_L c l vs h]; rfl
  · rw [gd_no h, cL_m, starL, items?]; dsimp only; rw [mapE_len, if_neg h]; rfl
@[simp] theorem mapE_app (l l2 : List α) : mapE c l ++ mapE c l2 = mapE c (l ++ l2) := (List.map_append).symm
@[simp] theorem mapE_cons (x : α) (l : List α) : c.e x :: mapE c l = mapE c (x :: l) := nrfl rfl
@[simp] theorem mapE_snoc (l : List α) (x : α) : mapE c l ++ [c.e x] = mapE c (l ++ [x]) := by
  unfold mapE
  rw [List.map_append]
  rfl
@[simp] theorem mapE_mid (l l2 : List α) (x : α) : mapE c l ++ c.e x :: mapE c l2 = mapE c (l ++ x :: l2) := by
  unfold mapE
  rw [List.map_append]
  rfl
@[simp] theorem mapE_nil : mapE c [] = [] := nrfl rfl
theorem app_L (l : List α) (x : α) (h : l.length < line) : appL ((cL c).e l) (c.e x) = .ok ((cL c).e (l ++ [x])) := by
  rw [cL_m, appL, mapE_len, if_pos h, mapE_snoc]
  rfl
@[simp] theorem app_Lg (l : List α) (x : α) : appL ((cL c).e l) (c.e x) = (gd (l.length < line) >>= fun _ => .ok ((cL c).e (l ++ [x]))) := by
  by_cases h : l.length < line
  · rw [gd_ok h, app_L c l x h]; rfl
  · rw [gd_no h, cL_m, appL, mapE_len, if_neg h]; rfl
@[simp] theorem tmpL_L (l : List α) (vs : List AV) : tmpL ((cL c).e l) vs = .ok ((cL c).e l :: vs) := nrfl rfl
@[simp] theorem app_nil (x : AV) : appL (.list []) x = .ok (.list [x]) := nrfl rfl
@[simp] theorem list_one (x : α) : PyData.list [c.e x] = (cL c).e [x] := nrfl rfl
@[simp] theorem asL_L (l : List α) : asL ((cL c).e l) = .ok (mapE c l) := nrfl rfl
@[simp] theorem asL_nil : asL (.list []) = .ok [] := nrfl rfl
/-! ### turns -/
def loopW {α : Type} (f : α → R (List AV)) : List α → R (List AV)
  | [] => .ok []
  | x :: xs => f x >>= fun a => loopW f xs >>= fun b => .ok (a ++ b)
@[simp] theorem loopV_m (f : AV → R (List AV)) : ∀ l : List α, loopV f (mapE c l) = loopW (fun x => f (c.e x)) l
  | [] => rfl
  | x :: l => by
    show (f (c.e x) >>= fun a => loopV f (mapE c l) >>= fun b => R.ok (a ++ b)) = _
    rw [loopV_m f l]
    rfl
@[simp] theorem loopV_nil (f : AV → R (List AV)) : loopV f [] = .ok [] := nrfl rfl
theorem loopW_congr {f g : α → R (List AV)} : ∀ {l l' : List α}, l = l' → (∀ x, x ∈ l' → f x = g x) → loopW f l = loopW g l' := by
  intro l l' h hf
  subst h
  induction l with
  | nil => rfl
  | cons x l ih =>
    rw [loopW, loopW, hf x List.mem_cons_self, ih fun y hy => hf y (List.mem_cons_of_mem _ hy)]
theorem loopW_ok (g : α → List AV) : ∀ l : List α, loopW (fun x => .ok (g x)) l = .ok (l.flatMap g)
  | [] => rfl
  | x :: l => by
    rw [loopW, loopW_ok g l, List.flatMap_cons]
    rfl
@[simp] theorem loopW_one (g : α → β) (l : List α) : loopW (fun x => .ok [k.e (g x)]) l = .ok (mapE k (l.map g)) := by
  rw [loopW_ok]
  unfold mapE
  rw [List.map_map]
  congr 1
  induction l with
  | nil => rfl
  | cons x l ih => rw [List.flatMap_cons, ih]; rfl
@[simp] theorem loopW_bool (p : α → Bool) (l : List α) : loopW (fun x => .ok [.bool (p x)]) l = .ok (mapE cB (l.map p)) := loopW_one cB p l
theorem loopW_ifb (g : α → β) (p : α → Bool) (l : List α) : loopW (fun x => .ok (if p x = true then [k.e (g x)] else [])) l = .ok (mapE k ((l.filter p).map g)) := by
  rw [loopW_ok]
  unfold mapE
  rw [List.map_map]
  congr 1
  induction l with
  | nil => rfl
  | cons x l ih =>
    rw [List.flatMap_cons, ih, List.filter_cons]
    by_cases h : p x = true
    · rw [if_pos h, if_pos h]; rfl
    · rw [if_neg h, if_neg h]; rfl
@[simp] theorem loopW_if (g : α → β) (p : α → Prop) [DecidablePred p] (l : List α) : loopW (fun x => .ok (if p x then [k.e (g x)] else [])) l = .ok (mapE k ((l.filter fun x => decide (p x)).map g)) := by
  rw [← loopW_ifb]
  refine loopW_congr rfl fun x _ => ?_
  simp
@[simp] theorem loopW_ifn (g : α → β) (p : α → Prop) [DecidablePred p] (l : List α) : loopW (fun x => .ok (if p x then [] else [k.e (g x)])) l = .ok (mapE k ((l.filter fun x => !decide (p x)).map g)) := by
  rw [← loopW_ifb]
  refine loopW_congr rfl fun x _ => ?_
  by_cases h : p x <;> simp [h]
@[simp] theorem loopW_m (g : α → List β) (l : List α) : loopW (fun x => .ok (mapE k (g x))) l = .ok (mapE k (l.flatMap g)) := by
  rw [loopW_ok]
  unfold mapE
  rw [List.map_flatMap]
@[simp] theorem loopW_mif (g : α → List β) (p : α → Prop) [DecidablePred p] (l : List α) : loopW (fun x => .ok (if p x then mapE k (g x) else [])) l = .ok (mapE k ((l.filter fun x => decide (p x)).flatMap g)) := by
  rw [loopW_ok]
  unfold mapE
  rw [List.map_flatMap]
  congr 1
  induction l with
  | nil => rfl
  | cons x l ih =>
    rw [List.flatMap_cons, ih, List.filter_cons]
    by_cases h : p x
    · rw [if_pos h, if_pos (decide_eq_true h)]; rfl
    · rw [if_neg h, if_neg (by simpa using h)]; rfl
@[simp] theorem loopW_gd (p : α → Prop) (g : α → List AV) (l : List α) : loopW (fun x => gd (p x) >>= fun _ => .ok (g x)) l = (gd (∀ x ∈ l, p x) >>= fun _ => loopW (fun x => .ok (g x)) l) := by
  induction l with
  | nil => rw [gd_ok (p := ∀ x ∈ [], p x) (fun x h => by cases h)]; rfl
  | cons x l ih =>
    by_cases h : p x
    · rw [loopW, gd_ok h, ih]
      by_cases h2 : ∀ x ∈ l, p x
      · rw [gd_ok h2, gd_ok (p := ∀ y ∈ x :: l, p y) (fun y hy => (List.mem_cons.mp hy).elim (fun e => e ▸ h) (h2 y))]
        rfl
      · rw [gd_no h2, gd_no (p := ∀ y ∈ x :: l, p y) (fun z => h2 fun y hy => z y (List.mem_cons_of_mem _ hy))]
        rfl
    · rw [loopW, gd_no h, gd_no (p := ∀ y ∈ x :: l, p y) (fun z => h (z x List.mem_cons_self))]
      rfl
/-! ### sums and tests -/
theorem ints_N : ∀ l : List Nat, ints? (mapE cN l) = some (l.map fun (n : Nat) => (n : Int))
  | [] => rfl
  | x :: l => by
    show (ints? (mapE cN l)).map ((x : Int) :: ·) = _
    rw [ints_N l]
    rfl
theorem bools_B : ∀ l : List Bool, bools? (mapE cB l) = some l
  | [] => rfl
  | x :: l => by
    show (bools? (mapE cB l)).map (x :: ·) = _
    rw [bools_B l]
    rfl
theorem sum_cast : ∀ l : List Nat, (l.map fun (n : Nat) => (n : Int)).sum = ((l.sum : Nat) : Int)
  | [] => rfl
  | x :: l => by rw [List.map_cons, List.sum_cons, List.sum_cons, sum_cast l]; omega
@[simp] theorem sum_L (l : List Nat) : bltop .sum [(cL cN).e l] = .ok (cN.e l.sum) := by
  rw [cL_m, bltop, ints_N]
  dsimp only
  rw [sum_cast]
  rfl
@[simp] theorem sum_nil : bltop .sum [.list []] = .ok (cN.e 0) := nrfl rfl
@[simp] theorem all_L (l : List Bool) : bltop .all [(cL cB).e l] = .ok (.bool (l.all id)) := by rw [cL_m, bltop, bools_B]
@[simp] theorem any_L (l : List Bool) : bltop .any [(cL cB).e l] = .ok (.bool (l.any id)) := by rw [cL_m, bltop, bools_B]
/-! ### lengths -/
@[simp] theorem le_line (n : Nat) (h : n ≤ 16777215) : n ≤ line := Nat.le_trans h (by decide)
theorem lt_line {n : Nat} (h : n ≤ 1000000) : n < line := Nat.lt_of_le_of_lt h (by decide)
theorem len_filter {p : α → Bool} {l : List α} {n : Nat} (h : l.length ≤ n) : (l.filter p).length ≤ n := Nat.le_trans (List.length_filter_le _ _) h
end
end Ev
end

section
set_option linter.all false
set_option autoImplicit false
/-! Wk4: what is not called does not matter. -/
namespace Ev
open PySem (Str PyData)
section
variable (p : Nat → Bool)
mutual
def usE : X → Bool
  | .var _ => true
  | .con _ => true
  | .bin _ a b => usE a && usE b
  | .neg a => usE a
  | .not a => usE a
  | .and a b => usE a && usE b
  | .or a b => usE a && usE b
  | .cmp _ a b => usE a && usE b
  | .chain _ _ a b c => usE a && (usE b && usE c)
  | .ite c a b => usE c && (usE a && usE b)
  | .tup es => usXs es
  | .lst es => usXs es
  | .dict es => usDs es
  | .idx a i => usE a && usE i
  | .slc a lo hi => usE a && (usOx lo && usOx hi)
  | .comp _ cs e => usCs cs && usE e
  | .dcomp _ cs k v => usCs cs && (usE k && usE v)
  | .call f es => p f && usXs es
  | .blt _ es => usXs es
  | .meth _ o es => usE o && usXs es
  | .pop _ e => usOx e
def usXs : Xs → Bool
  | .nil => true
  | .cons e r => usE e && usXs r
  | .star e r => usE e && usXs r
  | .tmp e r => usE e && usXs r
  | .io _ r => usXs r
def usOx : Ox → Bool
  | .none => true
  | .some e => usE e
def usDs : Ds → Bool
  | .nil => true
  | .kv k v r => usE k && (usE v && usDs r)
  | .star d r => usE d && usDs r
def usCs : Cs → Bool
  | .nil => true
  | .cons _ _ it c r => usIt it && (usOx c && usCs r)
def usIt : It → Bool
  | .expr e => usE e
  | .rng1 a => usE a
  | .rng2 a b => usE a && usE b
  | .enum e => usE e
  | .items e => usE e
  | .vals e => usE e
end
mutual
def usS : S → Bool
  | .asg _ e => usE p e
  | .move _ _ => true
  | .unp _ e => usE p e
  | .par _ es => usXs p es
  | .seti _ k v => usE p k && usE p v
  | .app _ e => usE p e
  | .ext _ e => usE p e
  | .aug _ _ e => usE p e
  | .expr e => usE p e
  | .ret e => usE p e
  | .ite c a b => usE p c && (usSs a && usSs b)
  | .whl _ _ c b => usE p c && usSs b
  | .for_ _ _ _ it b => usIt p it && usSs b
  | .raise => true
  | .brk => true
  | .cont => true
  | .pass => true
def usSs : Ss → Bool
  | .nil => true
  | .cons s r => usS s && usSs r
end
end
theorem and2 {a b : Bool} (h : (a && b) = true) : a = true ∧ b = true := Bool.and_eq_true_iff.mp h
section
variable {p : Nat → Bool} {cal cal' : Cal} (hc : ∀ f, p f = true → cal f = cal' f)
include hc
mutual
theorem usE_eq : ∀ (x : X), usE p x = true → evE cal x = evE cal' x
  | .var _, h => by
    funext env
    simp only [evE]
  | .con _, h => by
    funext env
    simp only [evE]
  | .bin _ a b, h => by
    obtain ⟨ha, hb⟩ := and2 h
    have h1 := usE_eq a ha
    have h2 := usE_eq b hb
    funext env
    simp only [evE, h1, h2]
  | .neg a, h => by
    have h1 := usE_eq a h
    funext env
    simp only [evE, h1]
  | .not a, h => by
    have h1 := usE_eq a h
    funext env
    simp only [evE, h1]
  | .and a b, h => by
    obtain ⟨ha, hb⟩ := and2 h
    have h1 := usE_eq a ha
    have h2 := usE_eq b hb
    funext env
    simp only [evE, h1, h2]
  | .or a b, h => by
    obtain ⟨ha, hb⟩ := and2 h
    have h1 := usE_eq a ha
    have h2 := usE_eq b hb
    funext env
    simp only [evE, h1, h2]
  | .cmp _ a b, h => by
    obtain ⟨ha, hb⟩ := and2 h
    have h1 := usE_eq a ha
    have h2 := usE_eq b hb
    funext env
    simp only [evE, h1, h2]
  | .chain _ _ a b c, h => by
    obtain ⟨ha, hb⟩ := and2 h
    obtain ⟨hb, hd⟩ := and2 hb
    have h1 := usE_eq a ha
    have h2 := usE_eq b hb
    have h3 := usE_eq c hd
    funext env
    simp only [evE, h1, h2, h3]
  | .ite c a b, h => by
    obtain ⟨ha, hb⟩ := and2 h
    obtain ⟨hb, hd⟩ := and2 hb
    have h1 := usE_eq c ha
    have h2 := usE_eq a hb
    have h3 := usE_eq b hd
    funext env
    simp only [evE, h1, h2, h3]
  | .tup es, h => by
    have h1 := usXs_eq es h
    funext env
    simp only [evE, h1]
  | .lst es, h => by
    have h1 := usXs_eq es h
    funext env
    simp only [evE, h1]
  | .dict es, h => by
    have h1 := usDs_eq es h
    funext env
    simp only [evE, h1]
  | .idx a b, h => by
    obtain ⟨ha, hb⟩ := and2 h
    have h1 := usE_eq a ha
    have h2 := usE_eq b hb
    funext env
    simp only [evE, h1, h2]
  | .slc a lo hi, h => by
    obtain ⟨ha, hb⟩ := and2 h
    obtain ⟨hb, hd⟩ := and2 hb
    have h1 := usE_eq a ha
    have h2 := usOx_eq lo hb
    have h3 := usOx_eq hi hd
    funext env
    simp only [evE, h1, h2, h3]
  | .comp _ cs e, h => by
    obtain ⟨ha, hb⟩ := and2 h
    have h1 := usCs_eq cs ha
    have h2 := usE_eq e hb
    funext env
    simp only [evE, h1, h2]
  | .dcomp _ cs k v, h => by
    obtain ⟨ha, hb⟩ := and2 h
    obtain ⟨hb, hd⟩ := and2 hb
    have h1 := usCs_eq cs ha
    have h2 := usE_eq k hb
    have h3 := usE_eq v hd
    funext env
    simp only [evE, h1, h2, h3]
  | .call f es, h => by
    obtain ⟨ha, hb⟩ := and2 h
    have h1 := hc f ha
    have h2 := usXs_eq es hb
    funext env
    simp only [evE, h1, h2]
  | .blt _ es, h => by
    have h1 := usXs_eq es h
    funext env
    simp only [evE, h1]
  | .meth _ o es, h => by
    obtain ⟨ha, hb⟩ := and2 h
    have h1 := usE_eq o ha
    have h2 := usXs_eq es hb
    funext env
    simp only [evE, h1, h2]
  | .pop _ e, h => by
    have h1 := usOx_eq e h
    funext env
    simp only [evE, h1]
theorem usXs_eq : ∀ (x : Xs), usXs p x = true → evXs cal x = evXs cal' x
  | .nil, h => by
    funext env
    simp only [evXs]
  | .cons e r, h => by
    obtain ⟨ha, hb⟩ := and2 h
    have h1 := usE_eq e ha
    have h2 := usXs_eq r hb
    funext env
    simp only [evXs, h1, h2]
  | .star e r, h => by
    obtain ⟨ha, hb⟩ := and2 h
    have h1 := usE_eq e ha
    have h2 := usXs_eq r hb
    funext env
    simp only [evXs, h1, h2]
  | .tmp e r, h => by
    obtain ⟨ha, hb⟩ := and2 h
    have h1 := usE_eq e ha
    have h2 := usXs_eq r hb
    funext env
    simp only [evXs, h1, h2]
  | .io _ r, h => by
    have h1 := usXs_eq r h
    funext env
    simp only [evXs, h1]
theorem usOx_eq : ∀ (x : Ox), usOx p x = true → evOx cal x = evOx cal' x
  | .none, h => by
    funext env
    simp only [evOx]
  | .some e, h => by
    have h1 := usE_eq e h
    funext env
    simp only [evOx, h1]
theorem usDs_eq : ∀ (x : Ds), usDs p x = true → evDs cal x = evDs cal' x
  | .nil, h => by
    funext acc env
    simp only [evDs]
  | .kv k v r, h => by
    obtain ⟨ha, hb⟩ := and2 h
    obtain ⟨hb, hd⟩ := and2 hb
    have h1 := usE_eq k ha
    have h2 := usE_eq v hb
    have h3 := usDs_eq r hd
    funext acc env
    simp only [evDs, h1, h2, h3]
  | .star d r, h => by
    obtain ⟨ha, hb⟩ := and2 h
    have h1 := usE_eq d ha
    have h2 := usDs_eq r hb
    funext acc env
    simp only [evDs, h1, h2]
theorem usCs_eq : ∀ (x : Cs), usCs p x = true → evCs cal x = evCs cal' x
  | .nil, h => by
    funext last env
    simp only [evCs]
  | .cons _ _ it c r, h => by
    obtain ⟨ha, hb⟩ := and2 h
    obtain ⟨hb, hd⟩ := and2 hb
    have h1 := usIt_eq it ha
    have h2 := usOx_eq c hb
    have h3 := usCs_eq r hd
    funext last env
    simp only [evCs, h1, h2, h3]
theorem usIt_eq : ∀ (x : It), usIt p x = true → evIt cal x = evIt cal' x
  | .expr e, h => by
    have h1 := usE_eq e h
    funext env
    simp only [evIt, h1]
  | .rng1 e, h => by
    have h1 := usE_eq e h
    funext env
    simp only [evIt, h1]
  | .enum e, h => by
    have h1 := usE_eq e h
    funext env
    simp only [evIt, h1]
  | .items e, h => by
    have h1 := usE_eq e h
    funext env
    simp only [evIt, h1]
  | .vals e, h => by
    have h1 := usE_eq e h
    funext env
    simp only [evIt, h1]
  | .rng2 a b, h => by
    obtain ⟨ha, hb⟩ := and2 h
    have h1 := usE_eq a ha
    have h2 := usE_eq b hb
    funext env
    simp only [evIt, h1, h2]
end
mutual
theorem usS_eq : ∀ (x : S), usS p x = true → evS cal x = evS cal' x
  | .asg _ e, h => by
    have h1 := usE_eq hc e h
    funext env
    simp only [evS, h1]
  | .move _ _, h => by
    funext env
    simp only [evS]
  | .unp _ e, h => by
    have h1 := usE_eq hc e h
    funext env
    simp only [evS, h1]
  | .par _ es, h => by
    have h1 := usXs_eq hc es h
    funext env
    simp only [evS, h1]
  | .seti _ k v, h => by
    obtain ⟨ha, hb⟩ := and2 h
    have h1 := usE_eq hc k ha
    have h2 := usE_eq hc v hb
    funext env
    simp only [evS, h1, h2]
  | .app _ e, h => by
    have h1 := usE_eq hc e h
    funext env
    simp only [evS, h1]
  | .ext _ e, h => by
    have h1 := usE_eq hc e h
    funext env
    simp only [evS, h1]
  | .aug _ _ e, h => by
    have h1 := usE_eq hc e h
    funext env
    simp only [evS, h1]
  | .expr e, h => by
    have h1 := usE_eq hc e h
    funext env
    simp only [evS, h1]
  | .ret e, h => by
    have h1 := usE_eq hc e h
    funext env
    simp only [evS, h1]
  | .ite c a b, h => by
    obtain ⟨ha, hb⟩ := and2 h
    obtain ⟨hb, hd⟩ := and2 hb
    have h1 := usE_eq hc c ha
    have h2 := usSs_eq a hb
    have h3 := usSs_eq b hd
    funext env
    simp only [evS, h1, h2, h3]
  | .whl _ _ c b, h => by
    obtain ⟨ha, hb⟩ := and2 h
    have h1 := usE_eq hc c ha
    have h2 := usSs_eq b hb
    funext env
    simp only [evS, h1, h2]
  | .for_ _ _ _ it b, h => by
    obtain ⟨ha, hb⟩ := and2 h
    have h1 := usIt_eq hc it ha
    have h2 := usSs_eq b hb
    funext env
    simp only [evS, h1, h2]
  | .raise, h => by
    funext env
    simp only [evS]
  | .brk, h => by
    funext env
    simp only [evS]
  | .cont, h => by
    funext env
    simp only [evS]
  | .pass, h => by
    funext env
    simp only [evS]
theorem usSs_eq : ∀ (x : Ss), usSs p x = true → evSs cal x = evSs cal' x
  | .nil, h => by
    funext env
    simp only [evSs]
  | .cons s r, h => by
    obtain ⟨ha, hb⟩ := and2 h
    have h1 := usS_eq s ha
    have h2 := usSs_eq r hb
    funext env
    simp only [evSs, h1, h2]
end
theorem usD_eq {D : Def} (h : usSs p D.body = true) : runD cal D = runD cal' D := by
  funext vs
  unfold runD
  rw [usSs_eq hc D.body h]
end
/-- two tables that agree where it matters -/
theorem callD_same {P P' : Tab} {S : Nat → Bool} (h : ∀ f, S f = true → P f = P' f) (hu : ∀ f D, S f = true → P f = some D → usSs S D.body = true) : ∀ (k : Nat) (f : Nat), S f = true → callD P k f = callD P' k f
  | 0, f, _ => rfl
  | k + 1, f, hf => by
    funext vs
    show (match P f with
      | some D => runD (callD P k) D vs
      | none => .bad) = (match P' f with
      | some D => runD (callD P' k) D vs
      | none => .bad)
    rw [← h f hf]
    cases hP : P f with
    | none => rfl
    | some D =>
      dsimp only
      rw [usD_eq (fun g hg => callD_same h hu k g hg) (hu f D hf hP)]
theorem call_s {P : Tab} {f : Nat} {D : Def} {k : Nat} {vs : List AV} (h : P f = some D) (hl : vs.length = D.ps) : callD P (k + 1) f vs = (evSs (callD P k) D.body (vs.map some ++ List.replicate (D.n - D.ps) none) >>= finD D.io) := call_eq h (Nat.succ_pos k) hl
theorem run_eq {cal : Cal} {D : Def} {vs : List AV} (hl : vs.length = D.ps) : runD cal D vs = (evSs cal D.body (vs.map some ++ List.replicate (D.n - D.ps) none) >>= finD D.io) := by
  unfold runD
  rw [if_pos hl]
  cases evSs cal D.body (vs.map some ++ List.replicate (D.n - D.ps) none) with
  | ok f => cases f <;> rfl
  | exc _ _ => rfl
  | bad => rfl
theorem lstR_4 (a b c d : AV) : lstR [a, b, c, d] = .ok (.list [a, b, c, d]) := if_pos (by show 4 ≤ line; decide)
def AllL (p : Nat → Prop) : List Nat → Prop
  | [] => True
  | f :: r => p f ∧ AllL p r
theorem AllL.at {p : Nat → Prop} : ∀ {l : List Nat} {f : Nat}, AllL p l → f ∈ l → p f
  | x :: l, f, h, hf => by
    rcases List.mem_cons.mp hf with rfl | hf
    · exact h.1
    · exact AllL.at h.2 hf
def inL (ids : List Nat) (f : Nat) : Bool := ids.any fun g => Nat.beq g f
theorem inL_mem {ids : List Nat} {f : Nat} (h : inL ids f = true) : f ∈ ids := by
  obtain ⟨g, hg, e⟩ := List.any_eq_true.mp h
  rw [← Nat.eq_of_beq_eq_true e]
  exact hg
def usT (P : Tab) (ids : List Nat) : Bool := ids.all fun f => match P f with
  | some D => usSs (inL ids) D.body
  | none => true
/-- a law's call by its own table, by the common one -/
theorem bridge {P P' : Tab} {ids : List Nat} {lid : Nat} {D : Def} (h1 : AllL (fun f => P f = P' f) ids) (h2 : usT P ids = true) (h3 : usSs (inL ids) D.body = true) (h4 : P lid = some D) (vs : List AV) : callD P 60 lid vs = runD (callD P' 59) D vs := by
  show (match P lid with
    | some D => runD (callD P 59) D vs
    | none => .bad) = _
  rw [h4]
  dsimp only
  rw [usD_eq (cal := callD P 59) (cal' := callD P' 59) (p := inL ids) (fun f hf => callD_same (fun f hf => h1.at (inL_mem hf)) (fun f D hf hD => by
    have := List.all_eq_true.mp h2 f (inL_mem hf)
    rw [hD] at this
    exact this) 59 f hf) h3]
end Ev
end

section
set_option linter.all false
set_option autoImplicit false
/-! Wk5: loops. -/
namespace Ev
open PySem (Str PyData)
section
variable {α σ : Type} (c : Co α)
@[simp] theorem forF_nil (f : AV → Env → R Fl) (env : Env) : forF f [] env = .ok (.nx env) := nrfl rfl
theorem forF_cons (f : AV → Env → R Fl) (x : AV) (xs : List AV) (env : Env) : forF f (x :: xs) env = (f x env >>= fun r => match r with
    | .nx e => forF f xs e
    | .ct e => forF f xs e
    | .bk e => .ok (.nx e)
    | .rt v e => .ok (.rt v e)) := rfl
/-- turns that change a state: n counts the turns -/
theorem forF_fold {f : AV → Env → R Fl} (E : σ → Env) (step : σ → α → σ) (I : Nat → σ → Prop) (N : Nat) : ∀ (l : List α) (n : Nat) (s : σ), n + l.length ≤ N → I n s →
    (∀ n s x, x ∈ l → n < N → I n s → (f (c.e x) (E s) = .ok (.nx (E (step s x))) ∨ f (c.e x) (E s) = .ok (.ct (E (step s x)))) ∧ I (n + 1) (step s x)) →
    forF f (mapE c l) (E s) = .ok (.nx (E (l.foldl step s))) ∧ I (n + l.length) (l.foldl step s)
  | [], n, s, _, hI, _ => ⟨rfl, hI⟩
  | x :: l, n, s, hN, hI, h => by
    rw [List.length_cons] at hN
    obtain ⟨h1, h2⟩ := h n s x List.mem_cons_self (by omega) hI
    obtain ⟨g1, g2⟩ := forF_fold E step I N l (n + 1) (step s x) (by omega) h2 fun n s y hy => h n s y (List.mem_cons_of_mem _ hy)
    rw [List.foldl_cons, List.length_cons]
    refine ⟨?_, by rw [Nat.add_comm l.length 1, ← Nat.add_assoc]; exact g2⟩
    show forF f (c.e x :: mapE c l) (E s) = _
    rw [forF_cons]
    rcases h1 with h1 | h1 <;> rw [h1] <;> exact g1
theorem forF_bind {β : Type} {f : AV → Env → R Fl} {l : List α} {env : Env} {K : Fl → R β} {X : R β} (E : σ → Env) (step : σ → α → σ) (I : Nat → σ → Prop) (s : σ) (he : env = E s) (h0 : I 0 s)
    (h : ∀ n s x, x ∈ l → n < l.length → I n s → (f (c.e x) (E s) = .ok (.nx (E (step s x))) ∨ f (c.e x) (E s) = .ok (.ct (E (step s x)))) ∧ I (n + 1) (step s x))
    (hX : I l.length (l.foldl step s) → K (.nx (E (l.foldl step s))) = X) : (forF f (mapE c l) env >>= K) = X := by
  subst he
  obtain ⟨h1, h2⟩ := forF_fold c E step I l.length l 0 s (by omega) h0 h
  rw [h1, R.ok_bind]
  exact hX (by rw [Nat.zero_add] at h2; exact h2)
/-- turns by their numbers -/
theorem forF_idx {f : AV → Env → R Fl} (E : Nat → Env) (l : List α) (h : ∀ n (hn : n < l.length), f (c.e l[n]) (E n) = .ok (.nx (E (n + 1)))) : forF f (mapE c l) (E 0) = .ok (.nx (E l.length)) := by
  have key : ∀ (m : List α) (n : Nat), l.drop n = m → forF f (mapE c m) (E n) = .ok (.nx (E (n + m.length))) := by
    intro m
    induction m with
    | nil => intro n _; rfl
    | cons x m ih =>
      intro n e
      have hn : n < l.length := by
        have := congrArg List.length e
        rw [List.length_drop, List.length_cons] at this
        omega
      have e2 := List.drop_eq_getElem_cons hn
      rw [e] at e2
      obtain ⟨rfl, e3⟩ := List.cons.inj e2
      show forF f (c.e l[n] :: mapE c m) (E n) = _
      rw [forF_cons, h n hn, R.ok_bind]
      dsimp only
      rw [ih (n + 1) e3.symm, List.length_cons, Nat.add_comm m.length 1, ← Nat.add_assoc]
  have := key l 0 rfl
  rw [Nat.zero_add] at this
  exact this
theorem forF_idxB {β : Type} {f : AV → Env → R Fl} {l : List α} {env : Env} {K : Fl → R β} {X : R β} (E : Nat → Env) (he : env = E 0) (h : ∀ n (hn : n < l.length), f (c.e l[n]) (E n) = .ok (.nx (E (n + 1)))) (hX : K (.nx (E l.length)) = X) : (forF f (mapE c l) env >>= K) = X := by
  rw [he, forF_idx c E l h, R.ok_bind]
  exact hX
theorem forF_rng {β : Type} {f : AV → Env → R Fl} {N : Nat} {env : Env} {K : Fl → R β} {X : R β} (E : Nat → Env) (he : env = E 0) (h : ∀ n, n < N → f (cN.e n) (E n) = .ok (.nx (E (n + 1)))) (hX : K (.nx (E N)) = X) : (forF f (mapE cN (List.range N)) env >>= K) = X := by
  refine forF_idxB cN E he (fun n hn => ?_) (by rw [List.length_range]; exact hX)
  rw [List.getElem_range]
  exact h n (by rw [List.length_range] at hn; exact hn)
theorem forF_rng' {β : Type} {f : AV → Env → R Fl} {a N : Nat} {env : Env} {K : Fl → R β} {X : R β} (E : Nat → Env) (he : env = E 0) (h : ∀ n, n < N → f (cN.e (a + n)) (E n) = .ok (.nx (E (n + 1)))) (hX : K (.nx (E N)) = X) : (forF f (mapE cN (List.range' a N)) env >>= K) = X := by
  refine forF_idxB cN E he (fun n hn => ?_) (by rw [List.length_range']; exact hX)
  rw [List.getElem_range', Nat.one_mul]
  exact h n (by rw [List.length_range'] at hn; exact hn)
/-- turns that change nothing -/
theorem forF_keep {f : AV → Env → R Fl} {env : Env} : ∀ (l : List α), (∀ x ∈ l, f (c.e x) env = .ok (.nx env)) → forF f (mapE c l) env = .ok (.nx env)
  | [], _ => rfl
  | x :: l, h => by
    show forF f (c.e x :: mapE c l) env = _
    rw [forF_cons, h x List.mem_cons_self]
    exact forF_keep l fun y hy => h y (List.mem_cons_of_mem _ hy)
/-- turns that may end with a value; otherwise they change a state -/
theorem forF_exit {f : AV → Env → R Fl} (E : σ → Env) (step : σ → α → σ) (out : σ → α → Option AV) (I : Nat → σ → Prop) : ∀ (l : List α) (n : Nat) (s : σ), I n s →
    (∀ n s x, x ∈ l → I n s → match out s x with
      | some v => ∃ e, f (c.e x) (E s) = .ok (.rt v e)
      | none => f (c.e x) (E s) = .ok (.nx (E (step s x))) ∧ I (n + 1) (step s x)) →
    (∃ v e, forF f (mapE c l) (E s) = .ok (.rt v e) ∧ ∃ a x b, l = a ++ x :: b ∧ out (a.foldl step s) x = some v ∧ (∀ k (hk : k < a.length), out ((a.take k).foldl step s) a[k] = none)) ∨
    (forF f (mapE c l) (E s) = .ok (.nx (E (l.foldl step s))) ∧ I (n + l.length) (l.foldl step s) ∧ ∀ k (hk : k < l.length), out ((l.take k).foldl step s) l[k] = none)
  | [], n, s, hI, _ => .inr ⟨rfl, hI, fun k hk => absurd hk (Nat.not_lt_zero _)⟩
  | x :: l, n, s, hI, h => by
    have h1 := h n s x List.mem_cons_self hI
    cases ho : out s x with
    | some v =>
      rw [ho] at h1
      obtain ⟨e, h1⟩ := h1
      refine .inl ⟨v, e, ?_, [], x, l, rfl, ho, fun k hk => absurd hk (Nat.not_lt_zero _)⟩
      show forF f (c.e x :: mapE c l) (E s) = _
      rw [forF_cons, h1]
      rfl
    | none =>
      rw [ho] at h1
      obtain ⟨h1, h2⟩ := h1
      have e1 : forF f (mapE c (x :: l)) (E s) = forF f (mapE c l) (E (step s x)) := by
        show forF f (c.e x :: mapE c l) (E s) = _
        rw [forF_cons, h1]
        rfl
      rcases forF_exit E step out I l (n + 1) (step s x) h2 fun n s y hy => h n s y (List.mem_cons_of_mem _ hy) with ⟨v, e, g1, a, y, b, g2, g3, g4⟩ | ⟨g1, g2, g3⟩
      · refine .inl ⟨v, e, e1.trans g1, x :: a, y, b, by rw [g2]; rfl, g3, fun k hk => ?_⟩
        cases k with
        | zero => exact ho
        | succ k => exact g4 k (by simpa using hk)
      · refine .inr ⟨e1.trans g1, ?_, fun k hk => ?_⟩
        · rw [List.length_cons, Nat.add_comm l.length 1, ← Nat.add_assoc]
          exact g2
        · cases k with
          | zero => exact ho
          | succ k => exact g3 k (by simpa using hk)
/-- a while loop over a state: m falls -/
theorem whlF_run {cnd : Env → R (Bool × Env)} {f : Env → R Fl} (E : σ → Env) (go : σ → Bool) (step : σ → σ) (m : σ → Nat) (I : σ → Prop)
    (hc : ∀ s, I s → cnd (E s) = .ok (go s, E s)) (hf : ∀ s, I s → go s = true → (f (E s) = .ok (.nx (E (step s))) ∨ f (E s) = .ok (.ct (E (step s)))) ∧ I (step s) ∧ m (step s) < m s) :
    ∀ (n : Nat) (s : σ), I s → m s < n → ∃ s', whlF cnd f n (E s) = .ok (.nx (E s')) ∧ I s' ∧ go s' = false ∧ ∃ k, s' = Nat.repeat step k s ∧ ∀ j, j < k → go (Nat.repeat step j s) = true
  | 0, s, _, h => absurd h (Nat.not_lt_zero _)
  | n + 1, s, hI, h => by
    rw [whlF, hc s hI, R.ok_bind]
    dsimp only
    cases hg : go s with
    | false => exact ⟨s, rfl, hI, hg, 0, rfl, fun j hj => absurd hj (Nat.not_lt_zero _)⟩
    | true =>
      obtain ⟨h1, h2, h3⟩ := hf s hI hg
      obtain ⟨s', g1, g2, g3, k, g4, g5⟩ := whlF_run E go step m I hc hf n (step s) h2 (by omega)
      have rep : ∀ j, Nat.repeat step j (step s) = Nat.repeat step (j + 1) s := fun j => by
        induction j with
        | zero => rfl
        | succ j ih => rw [Nat.repeat, ih]; rfl
      refine ⟨s', ?_, g2, g3, k + 1, by rw [g4, rep], fun j hj => ?_⟩
      · rcases h1 with h1 | h1 <;> rw [h1] <;> exact g1
      · cases j with
        | zero => exact hg
        | succ j => rw [← rep]; exact g5 j (by omega)
end
/-! ### turns with a hidden state -/
section
variable {α β σ : Type} (c : Co α) (k : Co β)
theorem loopC_pick {f : AV → Env → R (List AV × Env)} (E : σ → Env) (Q : σ → Prop) (g : α → β) : ∀ (l : List α) (s : σ), Q s →
    (∀ x ∈ l, ∀ s, Q s → ∃ (b : Bool) (s' : σ), f (c.e x) (E s) = .ok (if b = true then [k.e (g x)] else [], E s') ∧ Q s') →
    ∃ (sel : List β) (s' : σ), loopC f (mapE c l) (E s) = .ok (mapE k sel, E s') ∧ Q s' ∧ sel.Sublist (l.map g)
  | [], s, hs, _ => ⟨[], s, rfl, hs, .slnil⟩
  | x :: l, s, hs, h => by
    obtain ⟨b, s1, e1, q1⟩ := h x List.mem_cons_self s hs
    obtain ⟨sel, s2, e2, q2, u⟩ := loopC_pick E Q g l s1 q1 fun y hy => h y (List.mem_cons_of_mem _ hy)
    have e : loopC f (mapE c (x :: l)) (E s) = .ok ((if b = true then [k.e (g x)] else []) ++ mapE k sel, E s2) := by
      show loopC f (c.e x :: mapE c l) (E s) = _
      rw [loopC, e1, R.ok_bind]
      dsimp only
      rw [e2]
      rfl
    cases b with
    | true => exact ⟨g x :: sel, s2, e, q2, u.cons_cons _⟩
    | false => exact ⟨sel, s2, e, q2, u.cons _⟩
theorem loopC_each {f : AV → Env → R (List AV × Env)} (E : σ → Env) (Q : σ → Prop) (G : α → β → Prop) : ∀ (l : List α) (s : σ), Q s →
    (∀ x ∈ l, ∀ s, Q s → ∃ (y : β) (s' : σ), f (c.e x) (E s) = .ok ([k.e y], E s') ∧ Q s' ∧ G x y) →
    ∃ (ys : List β) (s' : σ), loopC f (mapE c l) (E s) = .ok (mapE k ys, E s') ∧ Q s' ∧ ys.length = l.length ∧ ∀ p ∈ l.zip ys, G p.1 p.2
  | [], s, hs, _ => ⟨[], s, rfl, hs, rfl, fun p hp => by cases hp⟩
  | x :: l, s, hs, h => by
    obtain ⟨y, s1, e1, q1, g1⟩ := h x List.mem_cons_self s hs
    obtain ⟨ys, s2, e2, q2, hl, g2⟩ := loopC_each E Q G l s1 q1 fun y hy => h y (List.mem_cons_of_mem _ hy)
    refine ⟨y :: ys, s2, ?_, q2, by rw [List.length_cons, List.length_cons, hl], fun p hp => ?_⟩
    · show loopC f (c.e x :: mapE c l) (E s) = _
      rw [loopC, e1, R.ok_bind]
      dsimp only
      rw [e2]
      rfl
    · rcases List.mem_cons.mp (show p ∈ (x, y) :: l.zip ys from hp) with rfl | hp
      · exact g1
      · exact g2 p hp
theorem forF_ex {f : AV → Env → R Fl} (E : σ → Env) (I : Nat → σ → Prop) (N : Nat) : ∀ (l : List α) (n : Nat) (s : σ), n + l.length ≤ N → I n s →
    (∀ n, n < N → ∀ x ∈ l, ∀ s, I n s → ∃ s', f (c.e x) (E s) = .ok (.nx (E s')) ∧ I (n + 1) s') →
    ∃ s', forF f (mapE c l) (E s) = .ok (.nx (E s')) ∧ I (n + l.length) s'
  | [], n, s, _, hs, _ => ⟨s, rfl, hs⟩
  | x :: l, n, s, hN, hs, h => by
    rw [List.length_cons] at hN
    obtain ⟨s1, e1, q1⟩ := h n (by omega) x List.mem_cons_self s hs
    obtain ⟨s2, e2, q2⟩ := forF_ex E I N l (n + 1) s1 (by omega) q1 fun n hn y hy => h n hn y (List.mem_cons_of_mem _ hy)
    refine ⟨s2, ?_, by rw [List.length_cons, Nat.add_comm l.length 1, ← Nat.add_assoc]; exact q2⟩
    show forF f (c.e x :: mapE c l) (E s) = _
    rw [forF_cons, e1]
    exact e2
end
/-- a run that ends well with such a result -/
def Ex {α : Type} (r : R α) (p : α → Prop) : Prop := ∃ a, r = .ok a ∧ p a
@[simp] theorem Ex_ok {α : Type} (a : α) (p : α → Prop) : Ex (.ok a) p ↔ p a := ⟨fun ⟨b, e, h⟩ => by cases e; exact h, fun h => ⟨a, rfl, h⟩⟩
theorem Ex.of {α : Type} {a : α} {p : α → Prop} (h : p a) : Ex (.ok a) p := ⟨a, rfl, h⟩
theorem Ex.gd {α : Type} {q : Prop} (hq : q) {x : R α} {p : α → Prop} (h : Ex x p) : Ex (gd q >>= fun _ => x) p := by rw [gd_ok hq]; exact h
theorem Ex.mono {α : Type} {r : R α} {p q : α → Prop} (h : Ex r p) (i : ∀ a, p a → q a) : Ex r q := let ⟨a, e, ha⟩ := h; ⟨a, e, i a ha⟩
theorem Ex.eq {α : Type} {r : R α} {a : α} (h : Ex r fun b => b = a) : r = .ok a := by obtain ⟨b, e, rfl⟩ := h; exact e
theorem Ex.to {α : Type} {r : R α} {p : α → Prop} {q : Prop} (h : Ex r p) (i : ∀ a, r = .ok a → p a → q) : q := let ⟨a, e, ha⟩ := h; i a e ha
section
variable {α β γ σ : Type} (c : Co α) (k : Co β)
theorem forF_Ex {f : AV → Env → R Fl} {l : List α} {env : Env} {K : Fl → R γ} {p : γ → Prop} (E : σ → Env) (I : Nat → σ → Prop) (s : σ) (he : env = E s) (h0 : I 0 s)
    (h : ∀ n, n < l.length → ∀ x ∈ l, ∀ s, I n s → ∀ p' : Fl → Prop, (∀ s', I (n + 1) s' → p' (.nx (E s'))) → Ex (f (c.e x) (E s)) p')
    (hX : ∀ s, I l.length s → Ex (K (.nx (E s))) p) : Ex (forF f (mapE c l) env >>= K) p := by
  subst he
  obtain ⟨s', e, q⟩ := forF_ex c (f := f) E I l.length l 0 s (by omega) h0 fun n hn x hx s hs => by
    obtain ⟨r, e, s', rfl, q⟩ := h n hn x hx s hs (fun r => ∃ s', r = .nx (E s') ∧ I (n + 1) s') fun s' q => ⟨s', rfl, q⟩
    exact ⟨s', e, q⟩
  rw [e, R.ok_bind]
  exact hX s' (by rw [Nat.zero_add] at q; exact q)
theorem pick_Ex {f : AV → Env → R (List AV × Env)} {l : List α} {env : Env} {K : List AV × Env → R γ} {p : γ → Prop} (E : σ → Env) (Q : σ → Prop) (g : α → β) (s : σ) (he : env = E s) (h0 : Q s)
    (h : ∀ x ∈ l, ∀ s, Q s → ∀ p' : List AV × Env → Prop, (∀ s', Q s' → p' ([k.e (g x)], E s')) → (∀ s', Q s' → p' ([], E s')) → Ex (f (c.e x) (E s)) p')
    (hX : ∀ (sel : List β) (s : σ), Q s → sel.Sublist (l.map g) → Ex (K (mapE k sel, E s)) p) : Ex (loopC f (mapE c l) env >>= K) p := by
  subst he
  obtain ⟨sel, s', e, q, u⟩ := loopC_pick c k (f := f) E Q g l s h0 fun x hx s hs => by
    obtain ⟨r, e, b, s', rfl, q⟩ := h x hx s hs (fun r => ∃ (b : Bool) (s' : σ), r = (if b = true then [k.e (g x)] else [], E s') ∧ Q s') (fun s' q => ⟨true, s', rfl, q⟩) fun s' q => ⟨false, s', rfl, q⟩
    exact ⟨b, s', e, q⟩
  rw [e, R.ok_bind]
  exact hX sel s' q u
theorem each_Ex {f : AV → Env → R (List AV × Env)} {l : List α} {env : Env} {K : List AV × Env → R γ} {p : γ → Prop} (E : σ → Env) (Q : σ → Prop) (G : α → β → Prop) (s : σ) (he : env = E s) (h0 : Q s)
    (h : ∀ x ∈ l, ∀ s, Q s → ∀ p' : List AV × Env → Prop, (∀ y s', Q s' → G x y → p' ([k.e y], E s')) → Ex (f (c.e x) (E s)) p')
    (hX : ∀ (ys : List β) (s : σ), Q s → ys.length = l.length → (∀ q ∈ l.zip ys, G q.1 q.2) → Ex (K (mapE k ys, E s)) p) : Ex (loopC f (mapE c l) env >>= K) p := by
  subst he
  obtain ⟨ys, s', e, q, hl, u⟩ := loopC_each c k (f := f) E Q G l s h0 fun x hx s hs => by
    obtain ⟨r, e, y, s', rfl, q, g⟩ := h x hx s hs (fun r => ∃ (y : β) (s' : σ), r = ([k.e y], E s') ∧ Q s' ∧ G x y) fun y s' q g => ⟨y, s', rfl, q, g⟩
    exact ⟨y, s', e, q, g⟩
  rw [e, R.ok_bind]
  exact hX ys s' q hl u
end
theorem tmpL_mu {v : AV} (h : mutA v = true) (vs : List AV) : tmpL v vs = .ok (v :: vs) := if_pos h
@[simp] theorem mutA_list (xs : List AV) : mutA (.list xs) = true := nrfl rfl
@[simp] theorem mutA_L {α : Type} (c : Co α) (l : List α) : mutA ((cL c).e l) = true := nrfl rfl
/-! ### sets of numbers -/
def insN (x : Nat) : List Nat → List Nat
  | [] => [x]
  | y :: ys => if y < x then y :: insN x ys else if x = y then y :: ys else x :: y :: ys
/-- sorted(set(..)) -/
def setN : List Nat → List Nat
  | [] => []
  | x :: xs => insN x (setN xs)
theorem insI_cast (x : Nat) : ∀ l : List Nat, insI (x : Int) (l.map fun (n : Nat) => (n : Int)) = (insN x l).map fun (n : Nat) => (n : Int)
  | [] => rfl
  | y :: l => by
    rw [List.map_cons, insI, insN, insI_cast x l]
    by_cases h : y < x
    · rw [if_pos h, if_pos (by omega)]; rfl
    · rw [if_neg h, if_neg (by omega)]
      by_cases h2 : x = y
      · rw [if_pos h2, if_pos (by omega)]; rfl
      · rw [if_neg h2, if_neg (by omega)]; rfl
theorem isetI_cast : ∀ l : List Nat, isetI (l.map fun (n : Nat) => (n : Int)) = (setN l).map fun (n : Nat) => (n : Int)
  | [] => rfl
  | x :: l => by rw [List.map_cons, isetI, isetI_cast l, insI_cast, setN]
theorem mem_insN {x z : Nat} : ∀ {l : List Nat}, z ∈ insN x l ↔ z = x ∨ z ∈ l
  | [] => by simp [insN]
  | y :: l => by
    unfold insN
    split
    · rw [List.mem_cons, mem_insN, List.mem_cons]
      constructor
      · rintro (h | h | h)
        · exact .inr (.inl h)
        · exact .inl h
        · exact .inr (.inr h)
      · rintro (h | h | h)
        · exact .inr (.inl h)
        · exact .inl h
        · exact .inr (.inr h)
    · split
      · rename_i h2
        subst h2
        simp
      · simp
@[simp] theorem mem_setN {z : Nat} : ∀ {l : List Nat}, z ∈ setN l ↔ z ∈ l
  | [] => Iff.rfl
  | x :: l => by rw [setN, mem_insN, mem_setN, List.mem_cons]
theorem insN_asc {x : Nat} : ∀ {l : List Nat}, l.Pairwise (· < ·) → (insN x l).Pairwise (· < ·)
  | [], _ => List.pairwise_singleton _ _
  | y :: l, h => by
    obtain ⟨h1, h2⟩ := List.pairwise_cons.mp h
    unfold insN
    split
    · rename_i hl
      exact List.pairwise_cons.mpr ⟨fun z hz => (mem_insN.mp hz).elim (fun e => e ▸ hl) (h1 z), insN_asc h2⟩
    · split
      · exact h
      · rename_i h3 h4
        refine List.pairwise_cons.mpr ⟨fun z hz => ?_, h⟩
        rcases List.mem_cons.mp hz with rfl | hz
        · omega
        · have := h1 z hz
          omega
theorem setN_asc : ∀ l : List Nat, (setN l).Pairwise (· < ·)
  | [] => List.Pairwise.nil
  | x :: l => insN_asc (setN_asc l)
theorem asc_ext : ∀ {l m : List Nat}, l.Pairwise (· < ·) → m.Pairwise (· < ·) → (∀ z, z ∈ l ↔ z ∈ m) → l = m
  | [], [], _, _, _ => rfl
  | [], y :: m, _, _, h => by have := (h y).mpr List.mem_cons_self; cases this
  | x :: l, [], _, _, h => by have := (h x).mp List.mem_cons_self; cases this
  | x :: l, y :: m, h1, h2, h => by
    obtain ⟨a1, a2⟩ := List.pairwise_cons.mp h1
    obtain ⟨b1, b2⟩ := List.pairwise_cons.mp h2
    have exy : x = y := by
      have p := (h x).mp List.mem_cons_self
      have q := (h y).mpr List.mem_cons_self
      rcases List.mem_cons.mp p with p | p
      · exact p
      · rcases List.mem_cons.mp q with q | q
        · exact q.symm
        · have := a1 y q
          have := b1 x p
          omega
    subst exy
    rw [asc_ext a2 b2 fun z => ?_]
    constructor
    · intro hz
      rcases List.mem_cons.mp ((h z).mp (List.mem_cons_of_mem _ hz)) with rfl | k
      · exact absurd (a1 z hz) (Nat.lt_irrefl _)
      · exact k
    · intro hz
      rcases List.mem_cons.mp ((h z).mpr (List.mem_cons_of_mem _ hz)) with rfl | k
      · exact absurd (b1 z hz) (Nat.lt_irrefl _)
      · exact k
theorem setN_id {l : List Nat} (h : l.Pairwise (· < ·)) : setN l = l := asc_ext (setN_asc l) h fun z => mem_setN
theorem asc_len' {n : Nat} : ∀ {l : List Nat} {a : Nat}, l.Pairwise (· < ·) → (∀ z ∈ l, a ≤ z ∧ z < n) → l.length ≤ n - a
  | [], _, _, _ => Nat.zero_le _
  | x :: l, a, h, hb => by
    obtain ⟨h1, h2⟩ := List.pairwise_cons.mp h
    have := asc_len' (a := x + 1) h2 fun z hz => ⟨h1 z hz, (hb z (List.mem_cons_of_mem _ hz)).2⟩
    have := hb x List.mem_cons_self
    rw [List.length_cons]
    omega
theorem asc_len {l : List Nat} {n : Nat} (h : l.Pairwise (· < ·)) (hb : ∀ z ∈ l, z < n) : l.length ≤ n := asc_len' (a := 0) h fun z hz => ⟨Nat.zero_le _, hb z hz⟩
theorem sset_go {l : List Nat} (h1 : l.length ≤ 1000) (h2 : (setN l).length < 64) : ssetD (mapE cN l) = .ok ((cL cN).e (setN l)) := by
  unfold ssetD
  rw [ints_N]
  dsimp only
  rw [isetI_cast, List.length_map, List.length_map, decide_eq_true h1, decide_eq_true h2]
  show R.ok (PyData.list (((setN l).map fun (n : Nat) => (n : Int)).map .int)) = _
  rw [List.map_map]
  rfl
@[simp] theorem sset_L (l : List Nat) : bltop .sset [(cL cN).e l] = (gd (l.length ≤ 1000 ∧ (setN l).length < 64) >>= fun _ => .ok ((cL cN).e (setN l))) := by
  by_cases h : l.length ≤ 1000 ∧ (setN l).length < 64
  · rw [gd_ok h]
    exact sset_go h.1 h.2
  · rw [gd_no h]
    show ssetD (mapE cN l) = .bad
    unfold ssetD
    rw [ints_N]
    dsimp only
    rw [isetI_cast, List.length_map, List.length_map, if_neg (by simpa using h)]
@[simp] theorem sset_T (l : List Nat) : bltop .sset [(cT cN).e l] = (gd (l.length ≤ 1000 ∧ (setN l).length < 64) >>= fun _ => .ok ((cL cN).e (setN l))) := sset_L l
theorem map_erase {α β : Type} (f : α → β) : ∀ (l : List α) (v : Nat), (l.map f).eraseIdx v = (l.eraseIdx v).map f
  | [], _ => rfl
  | x :: l, 0 => rfl
  | x :: l, v + 1 => by rw [List.map_cons, List.eraseIdx_cons_succ, List.eraseIdx_cons_succ, List.map_cons, map_erase f l v]
@[simp] theorem isL_c {α : Type} (c : Co α) (l : List α) : isL ((cL c).e l) = .ok () := nrfl rfl
@[simp] theorem pop_at {α : Type} (c : Co α) (l : List α) (v : Nat) : popV ((cL c).e l) (some (cN.e v)) = (gd (v < l.length) >>= fun _ => .ok (c.e (l[v]?.getD c.d), (cL c).e (l.eraseIdx v))) := by
  rw [cL_e, cN_e, popV]
  rw [List.length_map]
  by_cases h : v < l.length
  · rw [gd_ok h, ixOf_N _ _ h]
    dsimp only
    rw [map_getD c v l h, R.ok_bind, cL_e]
    dsimp only
    rw [map_erase]
  · rw [gd_no h, ixOf_none _ _ h]
    rfl
@[simp] theorem pop_last {α : Type} (c : Co α) (l : List α) (h : l ≠ []) : popV ((cL c).e l) none = .ok (c.e (l.getLast h), (cL c).e l.dropLast) := by
  rw [cL_e, popV]
  have e : (l.map c.e).getLast? = some (c.e (l.getLast h)) := by rw [List.getLast?_map, List.getLast?_eq_some_getLast h]; rfl
  rw [e, cL_e]
  dsimp only
  rw [List.map_dropLast]
/-! ### sorted -/
section
variable {α β γ : Type}
class Al (c : Co α) : Prop where
  al : ∀ a b, PySem.W.alike (c.e a) (c.e b) = true
  sh : (∀ a, isTup0 (c.e a) = true) ∨ (∀ a, notTup (c.e a) = true)
theorem alikeAll_map (c : Co α) [A : Al c] : ∀ l m : List α, PySem.W.alikeAll (l.map c.e) (m.map c.e) = true
  | [], _ => by rw [List.map_nil, PySem.W.alikeAll.eq_def]
  | _ :: _, [] => by rw [List.map_nil, List.map_cons, PySem.W.alikeAll.eq_def]
  | a :: l, b :: m => by rw [List.map_cons, List.map_cons, PySem.W.alikeAll, A.al, alikeAll_map c l m]; rfl
instance : Al cN := ⟨fun _ _ => rfl, .inr fun _ => rfl⟩
instance : Al cI := ⟨fun _ _ => rfl, .inr fun _ => rfl⟩
instance : Al cB := ⟨fun _ _ => rfl, .inr fun _ => rfl⟩
instance : Al cS := ⟨fun _ _ => rfl, .inr fun _ => rfl⟩
instance (c : Co α) [Al c] : Al (cT c) := ⟨fun l m => alikeAll_map c l m, .inl fun _ => rfl⟩
instance (c : Co α) [Al c] : Al (cL c) := ⟨fun l m => alikeAll_map c l m, .inr fun _ => rfl⟩
instance (c : Co α) (k : Co β) [A : Al c] [B : Al k] : Al (cP c k) := ⟨fun p q => by
  show PySem.W.alikeAll [c.e p.1, k.e p.2] [c.e q.1, k.e q.2] = true
  simp only [PySem.W.alikeAll, A.al, B.al]; rfl, .inl fun _ => rfl⟩
instance (c : Co α) (k : Co β) (t : Co γ) [A : Al c] [B : Al k] [C : Al t] : Al (c3 c k t) := ⟨fun p q => by
  show PySem.W.alikeAll [c.e p.1, k.e p.2.1, t.e p.2.2] [c.e q.1, k.e q.2.1, t.e q.2.2] = true
  simp only [PySem.W.alikeAll, A.al, B.al, C.al]; rfl, .inl fun _ => rfl⟩
variable (c : Co α)
/-- less, as the machine has it -/
def ltc (a b : α) : Bool := ltD (c.e a) (c.e b)
def insC (x : α) : List α → List α
  | [] => [x]
  | y :: ys => if ltc c y x then y :: insC x ys else x :: y :: ys
/-- sorted -/
def srt : List α → List α
  | [] => []
  | x :: xs => insC c x (srt xs)
theorem insB_map (x : α) : ∀ l : List α, isort.insB (c.e x) (l.map c.e) = (insC c x l).map c.e
  | [] => rfl
  | y :: l => by
    rw [List.map_cons, isort.insB, insC, insB_map x l]
    unfold ltc
    split <;> rfl
theorem isort_map : ∀ l : List α, isort (l.map c.e) = (srt c l).map c.e
  | [] => rfl
  | x :: l => by rw [List.map_cons, isort, isort_map l, insB_map, srt]
theorem insC_perm (x : α) : ∀ l : List α, (insC c x l).Perm (x :: l)
  | [] => .refl _
  | y :: l => by
    unfold insC
    split
    · exact ((insC_perm x l).cons y).trans (.swap x y l)
    · exact .refl _
theorem srt_perm : ∀ l : List α, (srt c l).Perm l
  | [] => .refl _
  | x :: l => (insC_perm c x _).trans ((srt_perm l).cons x)
theorem sortD_map [A : Al c] [D : Dp c 20] (l : List α) : sortD (mapE c l) = .ok ((cL c).e (srt c l)) := by
  unfold sortD
  have h1 : alikeA (mapE c l) = true := by
    unfold alikeA mapE
    rw [plainAll_map, Bool.true_and, List.all_eq_true]
    intro x hx
    obtain ⟨a, _, rfl⟩ := List.mem_map.mp hx
    rw [List.all_eq_true]
    intro y hy
    obtain ⟨b, _, rfl⟩ := List.mem_map.mp hy
    exact A.al a b
  have h2 : (mapE c l).all dOk1 = true := by
    rw [List.all_eq_true]
    intro x hx
    obtain ⟨a, _, rfl⟩ := List.mem_map.mp hx
    unfold dOk1
    exact decide_eq_true (Nat.le_trans (D.h a) (by decide))
  have h3 : ((mapE c l).all isTup0 || (mapE c l).all notTup) = true := by
    rcases A.sh with h | h
    · rw [show (mapE c l).all isTup0 = true from List.all_eq_true.mpr fun x hx => by
        obtain ⟨a, _, rfl⟩ := List.mem_map.mp hx
        exact h a]
      rfl
    · rw [show (mapE c l).all notTup = true from List.all_eq_true.mpr fun x hx => by
        obtain ⟨a, _, rfl⟩ := List.mem_map.mp hx
        exact h a, Bool.or_true]
  rw [h1, h2, h3]
  show R.ok (PyData.list (isort (l.map c.e))) = _
  rw [isort_map]
  rfl
@[simp] theorem sorted_L [Al c] [Dp c 20] (l : List α) : bltop .sorted [(cL c).e l] = .ok ((cL c).e (srt c l)) := sortD_map c l
@[simp] theorem sorted_T [Al c] [Dp c 20] (l : List α) : bltop .sorted [(cT c).e l] = .ok ((cL c).e (srt c l)) := sortD_map c l
@[simp] theorem sorted_nil : bltop .sorted [.list []] = .ok (.list []) := nrfl rfl
theorem ltc_N (a b : Nat) : ltc cN a b = decide (a < b) := by
  show decide ((a : Int) < (b : Int)) = _
  congr 1
  exact propext Int.ofNat_lt
theorem insC_N {x : Nat} : ∀ {l : List Nat}, l.Pairwise (· ≤ ·) → (insC cN x l).Pairwise (· ≤ ·)
  | [], _ => List.pairwise_singleton _ _
  | y :: l, h => by
    obtain ⟨h1, h2⟩ := List.pairwise_cons.mp h
    unfold insC
    rw [ltc_N]
    split
    · rename_i hl
      have hl := of_decide_eq_true hl
      refine List.pairwise_cons.mpr ⟨fun z hz => ?_, insC_N h2⟩
      rcases List.mem_cons.mp ((insC_perm cN x l).mem_iff.mp hz) with rfl | hz
      · omega
      · exact h1 z hz
    · rename_i hl
      have hl := of_decide_eq_false (Bool.not_eq_true _ ▸ hl)
      refine List.pairwise_cons.mpr ⟨fun z hz => ?_, h⟩
      rcases List.mem_cons.mp hz with rfl | hz
      · omega
      · have := h1 z hz
        omega
theorem srt_N : ∀ l : List Nat, (srt cN l).Pairwise (· ≤ ·)
  | [] => .nil
  | x :: l => insC_N (srt_N l)
theorem srt_asc {l : List Nat} (h : l.Nodup) : (srt cN l).Pairwise (· < ·) := by
  have h2 : (srt cN l).Nodup := (srt_perm cN l).nodup_iff.mpr h
  exact (srt_N l).imp₂ (fun a b h1 h2 => by omega) h2
theorem srt_of {l m : List Nat} (h : l.Nodup) (hm : m.Pairwise (· < ·)) (e : ∀ z, z ∈ l ↔ z ∈ m) : srt cN l = m := asc_ext (srt_asc h) hm fun z => by rw [(srt_perm cN l).mem_iff, e]
theorem lrng1_N (n : Nat) (h : n ≤ 10000000) : bltop .lrng1 [cN.e n] = .ok ((cL cN).e (List.range n)) := by
  have h2 := rng1_N n (by omega)
  show (if okRng (n : Int) = true then lstR (rangeD 0 n) else .bad) = _
  rw [okRng_N n (by omega), if_pos rfl]
  have e := rangeD_N 0 n
  rw [Nat.sub_zero, ← List.range_eq_range'] at e
  rw [show ((0 : Nat) : Int) = 0 from rfl] at e
  rw [e, lstR_m]
  rw [List.length_range]
  exact le_line n (by omega)
end
/-! ### lengths -/
section
variable {α β : Type}
@[simp] theorem ln_filter {p : α → Bool} {l : List α} (h : l.length ≤ line) : (l.filter p).length ≤ line := Nat.le_trans (List.length_filter_le _ _) h
theorem gd_fin {γ : Type} {p : Prop} (h : p) (x : R γ) : (gd p >>= fun _ => x) = x := by rw [gd_ok h]; rfl
theorem gd_fin2 {γ : Type} {p : Prop} (h : p) {x y : R γ} (e : x = y) : (gd p >>= fun _ => x) = y := by rw [gd_ok h, ← e]; rfl
end
end Ev
end

section
set_option linter.all false
set_option maxRecDepth 100000
namespace Ev.T
def d_is_integer : Def := { ps := 1, n := 1, io := [], body :=
  (.cons (.ret (.and (.blt .isInt (.cons (.var 0) .nil)) (.not (.blt .isBool (.cons (.var 0) .nil))))) .nil) }
def d_is_in : Def := { ps := 3, n := 3, io := [], body :=
  (.cons (.ret (.and (.call 34 (.cons (.var 0) .nil)) (.chain .le .le (.var 1) (.var 0) (.var 2)))) .nil) }
def d_is_list : Def := { ps := 3, n := 3, io := [], body :=
  (.cons (.ret (.and (.blt .isTup (.cons (.var 0) .nil)) (.chain .le .le (.var 1) (.blt .len (.cons (.var 0) .nil)) (.var 2)))) .nil) }
def d_is_hand : Def := { ps := 1, n := 2, io := [], body :=
  (.cons (.ite (.or (.not (.call 36 (.cons (.var 0) (.cons (.con (.int 0)) (.cons (.con (.int 8)) .nil))))) (.not (.blt .all (.cons (.comp [1] (.cons [1] (.var 1) (.expr (.var 0)) .none .nil) (.call 35 (.cons (.var 1) (.cons (.con (.int 0)) (.cons (.bin .sub (.con (.int 8)) (.con (.int 1))) .nil))))) .nil))))
    (.cons (.ret (.con (.bool false))) .nil)
    .nil)
   (.cons (.ret (.cmp .eq (.blt .list (.cons (.var 0) .nil)) (.blt .sset (.cons (.var 0) .nil)))) .nil)) }
def d_need_hands : Def := { ps := 1, n := 3, io := [], body :=
  (.cons (.ite (.not (.call 36 (.cons (.var 0) (.cons (.con (.int 1)) (.cons (.con (.int 7)) .nil)))))
    (.cons .raise .nil)
    .nil)
   (.cons (.for_ [] [1, 2] (.tup [1, 2]) (.enum (.var 0))
    (.cons (.ite (.not (.call 112 (.cons (.var 2) .nil)))
      (.cons .raise .nil)
      .nil) .nil)) .nil)) }
def d_need_person : Def := { ps := 2, n := 2, io := [], body :=
  (.cons (.ite (.not (.call 35 (.cons (.var 1) (.cons (.con (.int 0)) (.cons (.bin .sub (.blt .len (.cons (.var 0) .nil)) (.con (.int 1))) .nil)))))
    (.cons .raise .nil)
    .nil) .nil) }
def d_need_thing : Def := { ps := 2, n := 2, io := [], body :=
  (.cons (.ite (.or (.not (.call 35 (.cons (.var 1) (.cons (.con (.int 0)) (.cons (.bin .sub (.con (.int 8)) (.con (.int 1))) .nil))))) (.cmp .nin (.var 1) (.call 117 (.cons (.var 0) .nil))))
    (.cons .raise .nil)
    .nil) .nil) }
def d_things_in : Def := { ps := 1, n := 3, io := [], body :=
  (.cons (.ret (.blt .sset (.cons (.comp [1, 2] (.cons [1, 2] (.var 1) (.expr (.var 0)) .none (.cons [2] (.var 2) (.expr (.var 1)) .none .nil)) (.var 2)) .nil))) .nil) }
def d_things : Def := { ps := 1, n := 1, io := [], body :=
  (.cons (.expr (.call 113 (.cons (.var 0) .nil)))
   (.cons (.ret (.blt .tuple (.cons (.call 117 (.cons (.var 0) .nil)) .nil))) .nil)) }
def d_holders_in : Def := { ps := 2, n := 4, io := [], body :=
  (.cons (.ret (.comp [2, 3] (.cons [2, 3] (.tup [2, 3]) (.enum (.var 0)) (.some (.cmp .in_ (.var 1) (.var 3))) .nil) (.var 2))) .nil) }
def d_holders : Def := { ps := 2, n := 2, io := [], body :=
  (.cons (.expr (.call 113 (.cons (.var 0) .nil)))
   (.cons (.expr (.call 116 (.cons (.var 0) (.cons (.var 1) .nil))))
   (.cons (.ret (.blt .tuple (.cons (.call 119 (.cons (.var 0) (.cons (.var 1) .nil))) .nil))) .nil))) }
def d_shared : Def := { ps := 1, n := 3, io := [], body :=
  (.cons (.expr (.call 113 (.cons (.var 0) .nil)))
   (.cons (.asg 1 (.lst .nil))
   (.cons (.for_ [1] [2] (.var 2) (.expr (.call 117 (.cons (.var 0) .nil)))
    (.cons (.ite (.cmp .gt (.blt .len (.cons (.call 119 (.cons (.var 0) (.cons (.var 2) .nil))) .nil)) (.con (.int 1)))
      (.cons (.app 1 (.var 2)) .nil)
      .nil) .nil))
   (.cons (.ret (.blt .tuple (.cons (.var 1) .nil))) .nil)))) }
def d_spare_in : Def := { ps := 2, n := 3, io := [], body :=
  (.cons (.ret (.comp [2] (.cons [2] (.var 2) (.expr (.idx (.var 0) (.var 1))) (.some (.cmp .gt (.blt .len (.cons (.call 119 (.cons (.var 0) (.cons (.var 2) .nil))) .nil)) (.con (.int 1)))) .nil) (.var 2))) .nil) }
def d_spare : Def := { ps := 2, n := 2, io := [], body :=
  (.cons (.expr (.call 113 (.cons (.var 0) .nil)))
   (.cons (.expr (.call 115 (.cons (.var 0) (.cons (.var 1) .nil))))
   (.cons (.ret (.blt .tuple (.cons (.call 122 (.cons (.var 0) (.cons (.var 1) .nil))) .nil))) .nil))) }
def d_alone : Def := { ps := 2, n := 4, io := [], body :=
  (.cons (.expr (.call 113 (.cons (.var 0) .nil)))
   (.cons (.expr (.call 115 (.cons (.var 0) (.cons (.var 1) .nil))))
   (.cons (.asg 2 (.lst .nil))
   (.cons (.for_ [2] [3] (.var 3) (.expr (.idx (.var 0) (.var 1)))
    (.cons (.ite (.cmp .eq (.blt .len (.cons (.call 119 (.cons (.var 0) (.cons (.var 3) .nil))) .nil)) (.con (.int 1)))
      (.cons (.app 2 (.var 3)) .nil)
      .nil) .nil))
   (.cons (.ret (.blt .tuple (.cons (.var 2) .nil))) .nil))))) }
def d_count_held : Def := { ps := 1, n := 2, io := [], body :=
  (.cons (.expr (.call 113 (.cons (.var 0) .nil)))
   (.cons (.ret (.blt .sum (.cons (.comp [1] (.cons [1] (.var 1) (.expr (.var 0)) .none .nil) (.blt .len (.cons (.var 1) .nil))) .nil))) .nil)) }
def d_surplus : Def := { ps := 1, n := 2, io := [], body :=
  (.cons (.expr (.call 113 (.cons (.var 0) .nil)))
   (.cons (.ret (.bin .sub (.blt .sum (.cons (.comp [1] (.cons [1] (.var 1) (.expr (.var 0)) .none .nil) (.blt .len (.cons (.var 1) .nil))) .nil)) (.blt .len (.cons (.call 117 (.cons (.var 0) .nil)) .nil)))) .nil)) }
def d_empty_handed : Def := { ps := 1, n := 4, io := [], body :=
  (.cons (.expr (.call 113 (.cons (.var 0) .nil)))
   (.cons (.asg 1 (.lst .nil))
   (.cons (.for_ [1] [2, 3] (.tup [2, 3]) (.enum (.var 0))
    (.cons (.ite (.cmp .eq (.var 3) (.tup .nil))
      (.cons (.app 1 (.var 2)) .nil)
      .nil) .nil))
   (.cons (.ret (.blt .tuple (.cons (.var 1) .nil))) .nil)))) }
def d__law_taken : Def := { ps := 2, n := 4, io := [0], body :=
  (.cons (.ite (.cmp .gt (.idx (.var 0) (.con (.int 3))) (.con (.int 0)))
    (.cons (.asg 3 (.bin .mod (.blt .int (.cons (.idx (.var 0) (.con (.int 3))) .nil)) (.var 1)))
     (.cons (.seti 0 (.con (.int 3)) (.bin .fdiv (.idx (.var 0) (.con (.int 3))) (.var 1)))
     (.cons (.ret (.var 3)) .nil)))
    .nil)
   (.cons (.seti 0 (.con (.int 1)) (.bin .add (.idx (.var 0) (.con (.int 1))) (.con (.int 1))))
   (.cons (.ite (.cmp .gt (.idx (.var 0) (.con (.int 1))) (.blt .len (.cons (.idx (.var 0) (.con (.int 0))) .nil)))
    (.cons (.seti 0 (.con (.int 2)) (.bin .mod (.blt .int (.cons (.bin .add (.bin .mul (.idx (.var 0) (.con (.int 2))) (.con (.int 48271))) (.con (.int 11))) .nil)) (.con (.int 2147483647))))
     (.cons (.ret (.bin .mod (.blt .int (.cons (.bin .fdiv (.idx (.var 0) (.con (.int 2))) (.con (.int 7))) .nil)) (.var 1))) .nil))
    .nil)
   (.cons (.asg 2 (.idx (.idx (.var 0) (.con (.int 0))) (.bin .sub (.idx (.var 0) (.con (.int 1))) (.con (.int 1)))))
   (.cons (.seti 0 (.con (.int 2)) (.bin .mod (.blt .int (.cons (.bin .add (.bin .add (.bin .mul (.idx (.var 0) (.con (.int 2))) (.con (.int 48271))) (.var 2)) (.con (.int 11))) .nil)) (.con (.int 2147483647))))
   (.cons (.ite (.cmp .ge (.var 2) (.bin .pow (.con (.int 10)) (.con (.int 18))))
    (.cons (.seti 0 (.con (.int 3)) (.bin .fdiv (.var 2) (.var 1))) .nil)
    .nil)
   (.cons (.ret (.bin .mod (.blt .int (.cons (.var 2) .nil)) (.var 1))) .nil))))))) }
def d__law_alike : Def := { ps := 2, n := 3, io := [], body :=
  (.cons (.ite (.blt .isTL (.cons (.var 1) .nil))
    (.cons (.ite (.or (.not (.blt .isTL (.cons (.var 0) .nil))) (.cmp .ne (.blt .isList (.cons (.var 0) .nil)) (.blt .isList (.cons (.var 1) .nil))))
      (.cons (.ret (.con (.bool false))) .nil)
      .nil)
     (.cons (.ite (.cmp .ne (.blt .len (.cons (.var 0) .nil)) (.blt .len (.cons (.var 1) .nil)))
      (.cons (.ret (.con (.bool false))) .nil)
      .nil)
     (.cons (.ret (.cmp .eq (.comp [2] (.cons [2] (.var 2) (.rng1 (.blt .len (.cons (.var 1) .nil))) (.some (.not (.call 306 (.cons (.idx (.var 0) (.var 2)) (.cons (.idx (.var 1) (.var 2)) .nil))))) .nil) (.var 2)) (.lst .nil))) .nil)))
    .nil)
   (.cons (.ite (.or (.cmp .isN (.var 1) (.con .none)) (.blt .isStr (.cons (.var 1) .nil)))
    (.cons (.ret (.and (.cmp .eq (.var 0) (.var 1)) (.cmp .eq (.blt .isStr (.cons (.var 0) .nil)) (.blt .isStr (.cons (.var 1) .nil))))) .nil)
    .nil)
   (.cons (.ret (.and (.blt .isInt (.cons (.var 0) .nil)) (.and (.cmp .eq (.blt .isBool (.cons (.var 0) .nil)) (.blt .isBool (.cons (.var 1) .nil))) (.cmp .eq (.var 0) (.var 1))))) .nil))) }
def d__law_hands : Def := { ps := 3, n := 9, io := [0], body :=
  (.cons (.par [5, 6, 7] (.cons (.bin .add (.con (.int 1)) (.call 305 (.io 0 (.cons (.var 1) .nil)))) (.cons (.call 305 (.io 0 (.cons (.bin .add (.var 2) (.con (.int 1))) .nil))) (.tmp (.lst .nil) .nil))))
   (.cons (.asg 3 (.bin .add (.con (.int 1)) (.call 305 (.io 0 (.cons (.con (.int 3)) .nil)))))
   (.cons (.for_ [3, 7, 0] [4] (.var 4) (.rng1 (.var 5))
    (.cons (.app 7 (.blt .tuple (.cons (.comp [8] (.cons [8] (.var 8) (.rng1 (.var 6)) (.some (.cmp .eq (.call 305 (.io 0 (.cons (.bin .add (.var 3) (.con (.int 1))) .nil))) (.con (.int 0)))) .nil) (.var 8)) .nil))) .nil))
   (.cons (.ret (.blt .tuple (.cons (.var 7) .nil))) .nil)))) }
def d__law_holders : Def := { ps := 2, n := 3, io := [], body :=
  (.cons (.ret (.comp [2] (.cons [2] (.var 2) (.rng1 (.blt .len (.cons (.var 0) .nil))) (.some (.cmp .in_ (.var 1) (.idx (.var 0) (.var 2)))) .nil) (.var 2))) .nil) }
def d__law_things : Def := { ps := 1, n := 4, io := [], body :=
  (.cons (.asg 1 (.dict .nil))
   (.cons (.for_ [1] [2, 3] (.var 2) (.expr (.var 0))
    (.cons (.for_ [1] [3] (.var 3) (.expr (.var 2))
      (.cons (.seti 1 (.var 3) (.con (.bool true))) .nil)) .nil))
   (.cons (.ret (.blt .sorted (.cons (.blt .list (.cons (.var 1) .nil)) .nil))) .nil))) }
def d_common : Def := { ps := 3, n := 4, io := [], body :=
  (.cons (.expr (.call 113 (.cons (.var 0) .nil)))
   (.cons (.expr (.call 115 (.cons (.var 0) (.cons (.var 1) .nil))))
   (.cons (.expr (.call 115 (.cons (.var 0) (.cons (.var 2) .nil))))
   (.cons (.ret (.blt .tuple (.cons (.comp [3] (.cons [3] (.var 3) (.expr (.idx (.var 0) (.var 1))) (.some (.cmp .in_ (.var 3) (.idx (.var 0) (.var 2)))) .nil) (.var 3)) .nil))) .nil)))) }
def d_pairs_in : Def := { ps := 1, n := 5, io := [], body :=
  (.cons (.asg 1 (.lst .nil))
   (.cons (.for_ [1] [2, 3] (.var 2) (.rng1 (.blt .len (.cons (.var 0) .nil)))
    (.cons (.for_ [1] [3] (.var 3) (.rng2 (.bin .add (.var 2) (.con (.int 1))) (.blt .len (.cons (.var 0) .nil)))
      (.cons (.ite (.blt .any (.cons (.comp [4] (.cons [4] (.var 4) (.expr (.idx (.var 0) (.var 2))) .none .nil) (.cmp .in_ (.var 4) (.idx (.var 0) (.var 3)))) .nil))
        (.cons (.app 1 (.tup (.cons (.var 2) (.cons (.var 3) .nil)))) .nil)
        .nil) .nil)) .nil))
   (.cons (.ret (.var 1)) .nil))) }
def d_pairs : Def := { ps := 1, n := 1, io := [], body :=
  (.cons (.expr (.call 113 (.cons (.var 0) .nil)))
   (.cons (.ret (.blt .tuple (.cons (.call 128 (.cons (.var 0) .nil)) .nil))) .nil)) }
def d_neighbours : Def := { ps := 2, n := 5, io := [], body :=
  (.cons (.expr (.call 113 (.cons (.var 0) .nil)))
   (.cons (.expr (.call 115 (.cons (.var 0) (.cons (.var 1) .nil))))
   (.cons (.asg 2 (.lst .nil))
   (.cons (.for_ [2] [3, 4] (.tup [3, 4]) (.expr (.call 128 (.cons (.var 0) .nil)))
    (.cons (.ite (.cmp .eq (.var 3) (.var 1))
      (.cons (.app 2 (.var 4)) .nil)
      (.cons (.ite (.cmp .eq (.var 4) (.var 1))
        (.cons (.app 2 (.var 3)) .nil)
        .nil) .nil)) .nil))
   (.cons (.ret (.blt .tuple (.cons (.blt .sorted (.cons (.var 2) .nil)) .nil))) .nil))))) }
def d_groups_in : Def := { ps := 1, n := 9, io := [], body :=
  (.cons (.asg 1 (.blt .lrng1 (.cons (.blt .len (.cons (.var 0) .nil)) .nil)))
   (.cons (.for_ [1] [4, 5, 6, 7] (.tup [4, 5]) (.expr (.call 128 (.cons (.var 0) .nil)))
    (.cons (.par [6, 7] (.cons (.idx (.var 1) (.var 5)) (.cons (.idx (.var 1) (.var 4)) .nil)))
     (.cons (.asg 1 (.comp [3] (.cons [3] (.var 3) (.expr (.var 1)) .none .nil) (.ite (.cmp .eq (.var 3) (.var 6)) (.var 7) (.var 3)))) .nil)))
   (.cons (.asg 2 (.lst .nil))
   (.cons (.for_ [2, 1] [3] (.var 3) (.expr (.blt .sset (.cons (.var 1) .nil)))
    (.cons (.app 2 (.blt .tuple (.cons (.comp [8] (.cons [8] (.var 8) (.rng1 (.blt .len (.cons (.var 0) .nil))) (.some (.cmp .eq (.idx (.var 1) (.var 8)) (.var 3))) .nil) (.var 8)) .nil))) .nil))
   (.cons (.ret (.blt .sorted (.cons (.var 2) .nil))) .nil))))) }
def d_groups : Def := { ps := 1, n := 1, io := [], body :=
  (.cons (.expr (.call 113 (.cons (.var 0) .nil)))
   (.cons (.ret (.blt .tuple (.cons (.call 131 (.cons (.var 0) .nil)) .nil))) .nil)) }
def d_end_in : Def := { ps := 1, n := 1, io := [], body :=
  (.cons (.ret (.cmp .eq (.call 128 (.cons (.var 0) .nil)) (.lst .nil))) .nil) }
def d_is_end : Def := { ps := 1, n := 1, io := [], body :=
  (.cons (.expr (.call 113 (.cons (.var 0) .nil)))
   (.cons (.ret (.call 133 (.cons (.var 0) .nil))) .nil)) }
def d__law_pairs : Def := { ps := 1, n := 5, io := [], body :=
  (.cons (.asg 1 (.lst .nil))
   (.cons (.for_ [1] [2] (.var 2) (.rng1 (.blt .len (.cons (.var 0) .nil)))
    (.cons (.asg 1 (.bin .add (.var 1) (.comp [3] (.cons [3] (.var 3) (.rng2 (.bin .add (.var 2) (.con (.int 1))) (.blt .len (.cons (.var 0) .nil))) (.some (.cmp .ne (.comp [4] (.cons [4] (.var 4) (.expr (.idx (.var 0) (.var 2))) (.some (.cmp .in_ (.var 4) (.idx (.var 0) (.var 3)))) .nil) (.var 4)) (.lst .nil))) .nil) (.tup (.cons (.var 2) (.cons (.var 3) .nil)))))) .nil))
   (.cons (.ret (.var 1)) .nil))) }
def d_need_calls : Def := { ps := 2, n := 4, io := [], body :=
  (.cons (.ite (.not (.call 36 (.cons (.var 1) (.cons (.con (.int 0)) (.cons (.con (.int 60)) .nil)))))
    (.cons .raise .nil)
    .nil)
   (.cons (.for_ [] [2, 3] (.tup [2, 3]) (.enum (.var 1))
    (.cons (.ite (.not (.call 35 (.cons (.var 3) (.cons (.con (.int 0)) (.cons (.bin .sub (.blt .len (.cons (.var 0) .nil)) (.con (.int 1))) .nil)))))
      (.cons .raise .nil)
      .nil) .nil)) .nil)) }
def d_call_in : Def := { ps := 2, n := 5, io := [], body :=
  (.cons (.asg 2 (.call 122 (.cons (.var 0) (.cons (.var 1) .nil))))
   (.cons (.asg 3 (.blt .tuple (.cons (.comp [4] (.cons [4] (.var 4) (.expr (.idx (.var 0) (.var 1))) (.some (.cmp .nin (.var 4) (.var 2))) .nil) (.var 4)) .nil)))
   (.cons (.ret (.tup (.star (.slc (.var 0) .none (.some (.var 1))) (.cons (.var 3) (.star (.slc (.var 0) (.some (.bin .add (.var 1) (.con (.int 1)))) .none) .nil))))) .nil))) }
def d_call : Def := { ps := 2, n := 2, io := [], body :=
  (.cons (.expr (.call 113 (.cons (.var 0) .nil)))
   (.cons (.expr (.call 115 (.cons (.var 0) (.cons (.var 1) .nil))))
   (.cons (.ret (.call 1 (.cons (.var 0) (.cons (.var 1) .nil)))) .nil))) }
def d_movers_in : Def := { ps := 1, n := 2, io := [], body :=
  (.cons (.ret (.comp [1] (.cons [1] (.var 1) (.rng1 (.blt .len (.cons (.var 0) .nil))) (.some (.cmp .ne (.call 122 (.cons (.var 0) (.cons (.var 1) .nil))) (.lst .nil))) .nil) (.var 1))) .nil) }
def d_movers : Def := { ps := 1, n := 1, io := [], body :=
  (.cons (.expr (.call 113 (.cons (.var 0) .nil)))
   (.cons (.ret (.blt .tuple (.cons (.call 3 (.cons (.var 0) .nil)) .nil))) .nil)) }
def d_story_in : Def := { ps := 2, n := 4, io := [], body :=
  (.cons (.asg 2 (.lst (.cons (.var 0) .nil)))
   (.cons (.for_ [2] [3] (.var 3) (.expr (.var 1))
    (.cons (.app 2 (.call 1 (.cons (.idx (.var 2) (.neg (.con (.int 1)))) (.cons (.var 3) .nil)))) .nil))
   (.cons (.ret (.var 2)) .nil))) }
def d_after : Def := { ps := 2, n := 2, io := [], body :=
  (.cons (.expr (.call 113 (.cons (.var 0) .nil)))
   (.cons (.expr (.call 0 (.cons (.var 0) (.cons (.var 1) .nil))))
   (.cons (.ret (.idx (.call 5 (.cons (.var 0) (.cons (.var 1) .nil))) (.neg (.con (.int 1))))) .nil))) }
def d_story : Def := { ps := 2, n := 2, io := [], body :=
  (.cons (.expr (.call 113 (.cons (.var 0) .nil)))
   (.cons (.expr (.call 0 (.cons (.var 0) (.cons (.var 1) .nil))))
   (.cons (.ret (.call 5 (.cons (.var 0) (.cons (.var 1) .nil)))) .nil))) }
def d_still_calls : Def := { ps := 2, n := 5, io := [], body :=
  (.cons (.expr (.call 113 (.cons (.var 0) .nil)))
   (.cons (.expr (.call 0 (.cons (.var 0) (.cons (.var 1) .nil))))
   (.cons (.par [3, 4] (.cons (.call 5 (.cons (.var 0) (.cons (.var 1) .nil))) (.tmp (.lst .nil) .nil)))
   (.cons (.for_ [4] [2] (.var 2) (.rng1 (.blt .len (.cons (.var 1) .nil)))
    (.cons (.ite (.cmp .eq (.idx (.var 3) (.var 2)) (.idx (.var 3) (.bin .add (.var 2) (.con (.int 1)))))
      (.cons (.app 4 (.var 2)) .nil)
      .nil) .nil))
   (.cons (.ret (.blt .tuple (.cons (.var 4) .nil))) .nil))))) }
def d_put_away : Def := { ps := 2, n := 8, io := [], body :=
  (.cons (.expr (.call 113 (.cons (.var 0) .nil)))
   (.cons (.expr (.call 0 (.cons (.var 0) (.cons (.var 1) .nil))))
   (.cons (.par [2, 3] (.cons (.call 5 (.cons (.var 0) (.cons (.var 1) .nil))) (.tmp (.lst .nil) .nil)))
   (.cons (.for_ [3] [4, 5, 6] (.tup [4, 5]) (.enum (.var 1))
    (.cons (.asg 6 (.idx (.idx (.var 2) (.bin .add (.var 4) (.con (.int 1)))) (.var 5)))
     (.cons (.app 3 (.blt .tuple (.cons (.comp [7] (.cons [7] (.var 7) (.expr (.idx (.idx (.var 2) (.var 4)) (.var 5))) (.some (.cmp .nin (.var 7) (.var 6))) .nil) (.var 7)) .nil))) .nil)))
   (.cons (.ret (.blt .tuple (.cons (.var 3) .nil))) .nil))))) }
def d_first_calls : Def := { ps := 2, n := 4, io := [], body :=
  (.cons (.expr (.call 113 (.cons (.var 0) .nil)))
   (.cons (.expr (.call 0 (.cons (.var 0) (.cons (.var 1) .nil))))
   (.cons (.asg 2 (.lst .nil))
   (.cons (.for_ [2] [3] (.var 3) (.expr (.var 1))
    (.cons (.ite (.cmp .nin (.var 3) (.var 2))
      (.cons (.app 2 (.var 3)) .nil)
      .nil) .nil))
   (.cons (.ret (.blt .tuple (.cons (.var 2) .nil))) .nil))))) }
def d_changed : Def := { ps := 2, n := 5, io := [], body :=
  (.cons (.expr (.call 113 (.cons (.var 0) .nil)))
   (.cons (.expr (.call 0 (.cons (.var 0) (.cons (.var 1) .nil))))
   (.cons (.asg 2 (.idx (.call 5 (.cons (.var 0) (.cons (.var 1) .nil))) (.neg (.con (.int 1)))))
   (.cons (.asg 3 (.lst .nil))
   (.cons (.for_ [3] [4] (.var 4) (.rng1 (.blt .len (.cons (.var 0) .nil)))
    (.cons (.ite (.cmp .ne (.idx (.var 2) (.var 4)) (.idx (.var 0) (.var 4)))
      (.cons (.app 3 (.var 4)) .nil)
      .nil) .nil))
   (.cons (.ret (.blt .tuple (.cons (.var 3) .nil))) .nil)))))) }
def d_last_held : Def := { ps := 3, n := 5, io := [], body :=
  (.cons (.expr (.call 113 (.cons (.var 0) .nil)))
   (.cons (.expr (.call 0 (.cons (.var 0) (.cons (.var 1) .nil))))
   (.cons (.expr (.call 116 (.cons (.var 0) (.cons (.var 2) .nil))))
   (.cons (.asg 3 (.idx (.call 5 (.cons (.var 0) (.cons (.var 1) .nil))) (.neg (.con (.int 1)))))
   (.cons (.ret (.blt .tuple (.cons (.comp [4] (.cons [4] (.var 4) (.rng1 (.blt .len (.cons (.var 0) .nil))) (.some (.cmp .in_ (.var 2) (.idx (.var 3) (.var 4)))) .nil) (.var 4)) .nil))) .nil))))) }
def d_lonely_at : Def := { ps := 3, n := 6, io := [], body :=
  (.cons (.expr (.call 113 (.cons (.var 0) .nil)))
   (.cons (.expr (.call 0 (.cons (.var 0) (.cons (.var 1) .nil))))
   (.cons (.expr (.call 116 (.cons (.var 0) (.cons (.var 2) .nil))))
   (.cons (.for_ [] [3, 4] (.tup [3, 4]) (.enum (.call 5 (.cons (.var 0) (.cons (.var 1) .nil))))
    (.cons (.ite (.cmp .eq (.blt .len (.cons (.comp [5] (.cons [5] (.var 5) (.rng1 (.blt .len (.cons (.var 4) .nil))) (.some (.cmp .in_ (.var 2) (.idx (.var 4) (.var 5)))) .nil) (.var 5)) .nil)) (.con (.int 1)))
      (.cons (.ret (.bin .sub (.var 3) (.con (.int 1)))) .nil)
      .nil) .nil))
   (.cons (.ret (.con .none)) .nil))))) }
def d__law_row : Def := { ps := 3, n := 4, io := [0], body :=
  (.cons (.ret (.blt .tuple (.cons (.comp [3] (.cons [3] (.var 3) (.rng1 (.call 305 (.io 0 (.cons (.bin .add (.var 2) (.con (.int 1))) .nil)))) .none .nil) (.call 305 (.io 0 (.cons (.blt .len (.cons (.var 1) .nil)) .nil)))) .nil))) .nil) }
def d__law_call : Def := { ps := 2, n := 4, io := [], body :=
  (.cons (.asg 2 (.blt .tuple (.cons (.comp [3] (.cons [3] (.var 3) (.expr (.idx (.var 0) (.var 1))) (.some (.cmp .eq (.call 308 (.cons (.var 0) (.cons (.var 3) .nil))) (.lst (.cons (.var 1) .nil)))) .nil) (.var 3)) .nil)))
   (.cons (.ret (.bin .add (.bin .add (.slc (.var 0) .none (.some (.var 1))) (.tup (.cons (.var 2) .nil))) (.slc (.var 0) (.some (.bin .add (.var 1) (.con (.int 1)))) .none))) .nil)) }
def d__law_movers : Def := { ps := 1, n := 2, io := [], body :=
  (.cons (.ret (.comp [1] (.cons [1] (.var 1) (.rng1 (.blt .len (.cons (.var 0) .nil))) (.some (.cmp .ne (.call 313 (.cons (.var 0) (.cons (.var 1) .nil))) (.var 0))) .nil) (.var 1))) .nil) }
def d_need_order : Def := { ps := 2, n := 4, io := [], body :=
  (.cons (.asg 2 (.blt .len (.cons (.var 0) .nil)))
   (.cons (.ite (.or (.not (.call 36 (.cons (.var 1) (.cons (.var 2) (.cons (.var 2) .nil))))) (.not (.blt .all (.cons (.comp [3] (.cons [3] (.var 3) (.expr (.var 1)) .none .nil) (.call 35 (.cons (.var 3) (.cons (.con (.int 0)) (.cons (.bin .sub (.var 2) (.con (.int 1))) .nil))))) .nil))))
    (.cons .raise .nil)
    .nil)
   (.cons (.ite (.cmp .ne (.blt .sorted (.cons (.var 1) .nil)) (.blt .lrng1 (.cons (.var 2) .nil)))
    (.cons .raise .nil)
    .nil) .nil))) }
def d_end_of : Def := { ps := 2, n := 2, io := [], body :=
  (.cons (.expr (.call 113 (.cons (.var 0) .nil)))
   (.cons (.expr (.call 77 (.cons (.var 0) (.cons (.var 1) .nil))))
   (.cons (.ret (.idx (.call 5 (.cons (.var 0) (.cons (.var 1) .nil))) (.neg (.con (.int 1))))) .nil))) }
def d__law_pick : Def := { ps := 2, n := 2, io := [0], body :=
  (.cons (.ret (.idx (.var 1) (.call 305 (.io 0 (.cons (.blt .len (.cons (.var 1) .nil)) .nil))))) .nil) }
def d__law_done : Def := { ps := 2, n := 3, io := [], body :=
  (.cons (.for_ [] [2] (.var 2) (.expr (.var 1))
    (.cons (.asg 0 (.call 313 (.cons (.var 0) (.cons (.var 2) .nil)))) .nil))
   (.cons (.ret (.var 0)) .nil)) }
def d_need_people : Def := { ps := 2, n := 4, io := [], body :=
  (.cons (.asg 2 (.blt .len (.cons (.var 0) .nil)))
   (.cons (.ite (.or (.not (.call 36 (.cons (.var 1) (.cons (.con (.int 0)) (.cons (.var 2) .nil))))) (.not (.blt .all (.cons (.comp [3] (.cons [3] (.var 3) (.expr (.var 1)) .none .nil) (.call 35 (.cons (.var 3) (.cons (.con (.int 0)) (.cons (.bin .sub (.var 2) (.con (.int 1))) .nil))))) .nil))))
    (.cons .raise .nil)
    .nil)
   (.cons (.ite (.cmp .ne (.blt .list (.cons (.var 1) .nil)) (.blt .sset (.cons (.var 1) .nil)))
    (.cons .raise .nil)
    .nil) .nil))) }
def d_cover_in : Def := { ps := 2, n := 4, io := [], body :=
  (.cons (.ret (.blt .all (.cons (.comp [2, 3] (.cons [2, 3] (.tup [2, 3]) (.expr (.call 128 (.cons (.var 0) .nil))) .none .nil) (.or (.cmp .in_ (.var 2) (.var 1)) (.cmp .in_ (.var 3) (.var 1)))) .nil))) .nil) }
def d_is_cover : Def := { ps := 2, n := 2, io := [], body :=
  (.cons (.expr (.call 113 (.cons (.var 0) .nil)))
   (.cons (.expr (.call 47 (.cons (.var 0) (.cons (.var 1) .nil))))
   (.cons (.ret (.call 48 (.cons (.var 0) (.cons (.var 1) .nil)))) .nil))) }
def d_choices : Def := { ps := 1, n := 4, io := [], body :=
  (.cons (.asg 1 (.lst (.cons (.tup .nil) .nil)))
   (.cons (.for_ [1] [2] (.var 2) (.rng1 (.var 0))
    (.cons (.ext 1 (.comp [3] (.cons [3] (.var 3) (.expr (.var 1)) .none .nil) (.tup (.star (.var 3) (.cons (.var 2) .nil))))) .nil))
   (.cons (.ret (.var 1)) .nil))) }
def d_covers_in : Def := { ps := 1, n := 2, io := [], body :=
  (.cons (.ret (.blt .sorted (.cons (.comp [1] (.cons [1] (.var 1) (.expr (.call 50 (.cons (.blt .len (.cons (.var 0) .nil)) .nil))) (.some (.call 48 (.cons (.var 0) (.cons (.var 1) .nil)))) .nil) (.var 1)) .nil))) .nil) }
def d_covers : Def := { ps := 1, n := 1, io := [], body :=
  (.cons (.expr (.call 113 (.cons (.var 0) .nil)))
   (.cons (.ret (.call 51 (.cons (.var 0) .nil))) .nil)) }
def d_least_in : Def := { ps := 1, n := 4, io := [], body :=
  (.cons (.asg 1 (.call 51 (.cons (.var 0) .nil)))
   (.cons (.asg 2 (.blt .min (.cons (.comp [3] (.cons [3] (.var 3) (.expr (.var 1)) .none .nil) (.blt .len (.cons (.var 3) .nil))) .nil)))
   (.cons (.ret (.comp [3] (.cons [3] (.var 3) (.expr (.var 1)) (.some (.cmp .eq (.blt .len (.cons (.var 3) .nil)) (.var 2))) .nil) (.var 3))) .nil))) }
def d_least_covers : Def := { ps := 1, n := 1, io := [], body :=
  (.cons (.expr (.call 113 (.cons (.var 0) .nil)))
   (.cons (.ret (.call 53 (.cons (.var 0) .nil))) .nil)) }
def d_calls_to_end : Def := { ps := 1, n := 1, io := [], body :=
  (.cons (.expr (.call 113 (.cons (.var 0) .nil)))
   (.cons (.ret (.blt .len (.cons (.idx (.call 53 (.cons (.var 0) .nil)) (.con (.int 0))) .nil))) .nil)) }
def d_tight_covers : Def := { ps := 1, n := 8, io := [], body :=
  (.cons (.expr (.call 113 (.cons (.var 0) .nil)))
   (.cons (.asg 1 (.call 51 (.cons (.var 0) .nil)))
   (.cons (.asg 2 (.lst .nil))
   (.cons (.for_ [2] [3, 4] (.var 3) (.expr (.var 1))
    (.cons (.asg 4 (.comp [5] (.cons [5] (.var 5) (.expr (.var 3)) .none .nil) (.blt .tuple (.cons (.comp [6] (.cons [6] (.var 6) (.expr (.var 3)) (.some (.cmp .ne (.var 6) (.var 5))) .nil) (.var 6)) .nil))))
     (.cons (.ite (.not (.blt .any (.cons (.comp [7] (.cons [7] (.var 7) (.expr (.var 4)) .none .nil) (.cmp .in_ (.var 7) (.var 1))) .nil)))
      (.cons (.app 2 (.var 3)) .nil)
      .nil) .nil)))
   (.cons (.ret (.var 2)) .nil))))) }
def d_must_call : Def := { ps := 1, n := 5, io := [], body :=
  (.cons (.expr (.call 113 (.cons (.var 0) .nil)))
   (.cons (.asg 1 (.call 53 (.cons (.var 0) .nil)))
   (.cons (.asg 2 (.lst .nil))
   (.cons (.for_ [2] [3] (.var 3) (.rng1 (.blt .len (.cons (.var 0) .nil)))
    (.cons (.ite (.blt .all (.cons (.comp [4] (.cons [4] (.var 4) (.expr (.var 1)) .none .nil) (.cmp .in_ (.var 3) (.var 4))) .nil))
      (.cons (.app 2 (.var 3)) .nil)
      .nil) .nil))
   (.cons (.ret (.blt .tuple (.cons (.var 2) .nil))) .nil))))) }
def d_need_weights : Def := { ps := 2, n := 4, io := [], body :=
  (.cons (.ite (.not (.call 36 (.cons (.var 1) (.cons (.blt .len (.cons (.var 0) .nil)) (.cons (.blt .len (.cons (.var 0) .nil)) .nil)))))
    (.cons .raise .nil)
    .nil)
   (.cons (.for_ [] [2, 3] (.tup [2, 3]) (.enum (.var 1))
    (.cons (.ite (.not (.call 35 (.cons (.var 3) (.cons (.con (.int 0)) (.cons (.con (.int 99)) .nil)))))
      (.cons .raise .nil)
      .nil) .nil)) .nil)) }
def d_cheapest_cover : Def := { ps := 2, n := 4, io := [], body :=
  (.cons (.expr (.call 113 (.cons (.var 0) .nil)))
   (.cons (.expr (.call 58 (.cons (.var 0) (.cons (.var 1) .nil))))
   (.cons (.ret (.blt .min (.cons (.comp [2] (.cons [2] (.var 2) (.expr (.call 51 (.cons (.var 0) .nil))) .none .nil) (.tup (.cons (.blt .sum (.cons (.comp [3] (.cons [3] (.var 3) (.expr (.var 2)) .none .nil) (.idx (.var 1) (.var 3))) .nil)) (.cons (.var 2) .nil)))) .nil))) .nil))) }
def d_count_covers : Def := { ps := 1, n := 4, io := [], body :=
  (.cons (.expr (.call 113 (.cons (.var 0) .nil)))
   (.cons (.asg 1 (.comp [2] (.cons [2] (.var 2) (.expr (.call 51 (.cons (.var 0) .nil))) .none .nil) (.blt .len (.cons (.var 2) .nil))))
   (.cons (.ret (.blt .tuple (.cons (.comp [3] (.cons [3] (.var 3) (.rng1 (.bin .add (.blt .len (.cons (.var 0) .nil)) (.con (.int 1)))) .none .nil) (.meth .count (.var 1) (.cons (.var 3) .nil))) .nil))) .nil))) }
def d_apart : Def := { ps := 1, n := 4, io := [], body :=
  (.cons (.expr (.call 113 (.cons (.var 0) .nil)))
   (.cons (.asg 1 (.call 53 (.cons (.var 0) .nil)))
   (.cons (.ret (.blt .sorted (.cons (.comp [2] (.cons [2] (.var 2) (.expr (.var 1)) .none .nil) (.blt .tuple (.cons (.comp [3] (.cons [3] (.var 3) (.rng1 (.blt .len (.cons (.var 0) .nil))) (.some (.cmp .nin (.var 3) (.var 2))) .nil) (.var 3)) .nil))) .nil))) .nil))) }
def d_most_pairs : Def := { ps := 1, n := 8, io := [], body :=
  (.cons (.expr (.call 113 (.cons (.var 0) .nil)))
   (.cons (.par [1, 2] (.cons (.con (.int 0)) (.tmp (.lst (.cons (.tup (.cons (.tup .nil) (.cons (.con (.int 0)) .nil))) .nil)) .nil)))
   (.cons (.for_ [2] [3, 4, 5, 6, 7] (.tup [3, 4]) (.expr (.call 128 (.cons (.var 0) .nil)))
    (.cons (.asg 5 (.lst .nil))
     (.cons (.for_ [5] [6, 7] (.tup [6, 7]) (.expr (.var 2))
      (.cons (.ite (.and (.cmp .nin (.var 3) (.var 6)) (.cmp .nin (.var 4) (.var 6)))
        (.cons (.app 5 (.tup (.cons (.tup (.star (.var 6) (.cons (.var 3) (.cons (.var 4) .nil)))) (.cons (.bin .add (.var 7) (.con (.int 1))) .nil))))
         (.cons (.asg 1 (.blt .max2 (.cons (.var 1) (.cons (.bin .add (.var 7) (.con (.int 1))) .nil)))) .nil))
        .nil) .nil))
     (.cons (.asg 2 (.bin .add (.var 2) (.var 5))) .nil))))
   (.cons (.ret (.var 1)) .nil)))) }
def d__law_sets : Def := { ps := 1, n := 4, io := [], body :=
  (.cons (.asg 1 (.lst (.cons (.tup .nil) .nil)))
   (.cons (.for_ [1] [2] (.var 2) (.rng1 (.var 0))
    (.cons (.asg 1 (.bin .add (.var 1) (.comp [3] (.cons [3] (.var 3) (.expr (.var 1)) .none .nil) (.bin .add (.var 3) (.tup (.cons (.var 2) .nil)))))) .nil))
   (.cons (.ret (.var 1)) .nil))) }
def d_way_to_end : Def := { ps := 1, n := 1, io := [], body :=
  (.cons (.expr (.call 113 (.cons (.var 0) .nil)))
   (.cons (.ret (.idx (.call 53 (.cons (.var 0) .nil)) (.con (.int 0)))) .nil)) }
def d_linked_to : Def := { ps := 2, n := 5, io := [], body :=
  (.cons (.asg 2 (.lst .nil))
   (.cons (.for_ [2] [3, 4] (.tup [3, 4]) (.expr (.call 128 (.cons (.var 0) .nil)))
    (.cons (.ite (.cmp .in_ (.var 1) (.tup (.cons (.var 3) (.cons (.var 4) .nil))))
      (.cons (.app 2 (.bin .sub (.bin .add (.var 3) (.var 4)) (.var 1))) .nil)
      .nil) .nil))
   (.cons (.ret (.blt .sorted (.cons (.var 2) .nil))) .nil))) }
def d_link_counts : Def := { ps := 1, n := 2, io := [], body :=
  (.cons (.expr (.call 113 (.cons (.var 0) .nil)))
   (.cons (.ret (.blt .tuple (.cons (.comp [1] (.cons [1] (.var 1) (.rng1 (.blt .len (.cons (.var 0) .nil))) .none .nil) (.blt .len (.cons (.call 155 (.cons (.var 0) (.cons (.var 1) .nil))) .nil))) .nil))) .nil)) }
def d_most_linked : Def := { ps := 1, n := 3, io := [], body :=
  (.cons (.expr (.call 113 (.cons (.var 0) .nil)))
   (.cons (.unp [1, 2] (.blt .min (.cons (.comp [2] (.cons [2] (.var 2) (.rng1 (.blt .len (.cons (.var 0) .nil))) .none .nil) (.tup (.cons (.neg (.blt .len (.cons (.call 155 (.cons (.var 0) (.cons (.var 2) .nil))) .nil))) (.cons (.var 2) .nil)))) .nil)))
   (.cons (.ret (.tup (.cons (.neg (.var 1)) (.cons (.var 2) .nil)))) .nil))) }
def d_is_club : Def := { ps := 2, n := 5, io := [], body :=
  (.cons (.expr (.call 113 (.cons (.var 0) .nil)))
   (.cons (.expr (.call 47 (.cons (.var 0) (.cons (.var 1) .nil))))
   (.cons (.asg 2 (.call 128 (.cons (.var 0) .nil)))
   (.cons (.ret (.blt .all (.cons (.comp [3, 4] (.cons [3, 4] (.var 3) (.expr (.var 1)) .none (.cons [4] (.var 4) (.expr (.var 1)) (.some (.cmp .lt (.var 3) (.var 4))) .nil)) (.cmp .in_ (.tup (.cons (.var 3) (.cons (.var 4) .nil))) (.var 2))) .nil))) .nil)))) }
def d_clubs : Def := { ps := 1, n := 7, io := [], body :=
  (.cons (.expr (.call 113 (.cons (.var 0) .nil)))
   (.cons (.par [3, 2] (.cons (.call 128 (.cons (.var 0) .nil)) (.tmp (.lst (.cons (.tup .nil) .nil)) .nil)))
   (.cons (.for_ [2] [1] (.var 1) (.rng1 (.blt .len (.cons (.var 0) .nil)))
    (.cons (.ext 2 (.comp [4] (.cons [4] (.var 4) (.expr (.var 2)) (.some (.blt .all (.cons (.comp [5] (.cons [5] (.var 5) (.expr (.var 4)) .none .nil) (.cmp .in_ (.tup (.cons (.var 5) (.cons (.var 1) .nil))) (.var 3))) .nil))) .nil) (.tup (.star (.var 4) (.cons (.var 1) .nil))))) .nil))
   (.cons (.asg 2 (.comp [4] (.cons [4] (.var 4) (.expr (.var 2)) (.some (.cmp .ne (.var 4) (.tup .nil))) .nil) (.var 4)))
   (.cons (.ret (.blt .sorted (.cons (.comp [4] (.cons [4] (.var 4) (.expr (.var 2)) (.some (.not (.blt .any (.cons (.comp [6] (.cons [6] (.var 6) (.expr (.var 2)) .none .nil) (.call 160 (.cons (.var 4) (.cons (.var 6) .nil)))) .nil)))) .nil) (.var 4)) .nil))) .nil))))) }
def d_is_part : Def := { ps := 2, n := 3, io := [], body :=
  (.cons (.ret (.and (.cmp .lt (.blt .len (.cons (.var 0) .nil)) (.blt .len (.cons (.var 1) .nil))) (.blt .all (.cons (.comp [2] (.cons [2] (.var 2) (.expr (.var 0)) .none .nil) (.cmp .in_ (.var 2) (.var 1))) .nil)))) .nil) }
def d_greatest_club : Def := { ps := 1, n := 3, io := [], body :=
  (.cons (.unp [1, 2] (.blt .min (.cons (.comp [2] (.cons [2] (.var 2) (.expr (.call 159 (.cons (.var 0) .nil))) .none .nil) (.tup (.cons (.neg (.blt .len (.cons (.var 2) .nil))) (.cons (.var 2) .nil)))) .nil)))
   (.cons (.ret (.tup (.cons (.neg (.var 1)) (.cons (.var 2) .nil)))) .nil)) }
def d_splitters : Def := { ps := 1, n := 6, io := [], body :=
  (.cons (.expr (.call 113 (.cons (.var 0) .nil)))
   (.cons (.par [2, 3] (.tmp (.lst .nil) (.cons (.blt .len (.cons (.call 131 (.cons (.var 0) .nil)) .nil)) .nil)))
   (.cons (.for_ [2] [1, 4, 5] (.var 1) (.rng1 (.blt .len (.cons (.var 0) .nil)))
    (.cons (.asg 4 (.bin .add (.slc (.var 0) .none (.some (.var 1))) (.slc (.var 0) (.some (.bin .add (.var 1) (.con (.int 1)))) .none)))
     (.cons (.asg 5 (.cmp .eq (.call 155 (.cons (.var 0) (.cons (.var 1) .nil))) (.lst .nil)))
     (.cons (.ite (.and (.cmp .gt (.blt .len (.cons (.var 0) .nil)) (.con (.int 1))) (.cmp .gt (.blt .len (.cons (.call 131 (.cons (.var 4) .nil)) .nil)) (.bin .sub (.var 3) (.blt .int (.cons (.var 5) .nil)))))
      (.cons (.app 2 (.var 1)) .nil)
      .nil) .nil))))
   (.cons (.ret (.blt .tuple (.cons (.var 2) .nil))) .nil)))) }
def d_key_things : Def := { ps := 1, n := 7, io := [], body :=
  (.cons (.expr (.call 113 (.cons (.var 0) .nil)))
   (.cons (.par [2, 3] (.tmp (.lst .nil) (.cons (.blt .len (.cons (.call 131 (.cons (.var 0) .nil)) .nil)) .nil)))
   (.cons (.for_ [2] [1, 4] (.var 1) (.expr (.call 117 (.cons (.var 0) .nil)))
    (.cons (.asg 4 (.comp [5] (.cons [5] (.var 5) (.expr (.var 0)) .none .nil) (.blt .tuple (.cons (.comp [6] (.cons [6] (.var 6) (.expr (.var 5)) (.some (.cmp .ne (.var 6) (.var 1))) .nil) (.var 6)) .nil))))
     (.cons (.ite (.cmp .gt (.blt .len (.cons (.call 131 (.cons (.var 4) .nil)) .nil)) (.var 3))
      (.cons (.app 2 (.var 1)) .nil)
      .nil) .nil)))
   (.cons (.ret (.blt .tuple (.cons (.var 2) .nil))) .nil)))) }
def d_is_tree : Def := { ps := 1, n := 1, io := [], body :=
  (.cons (.expr (.call 113 (.cons (.var 0) .nil)))
   (.cons (.ret (.and (.cmp .eq (.blt .len (.cons (.call 131 (.cons (.var 0) .nil)) .nil)) (.con (.int 1))) (.cmp .eq (.blt .len (.cons (.call 128 (.cons (.var 0) .nil)) .nil)) (.bin .sub (.blt .len (.cons (.var 0) .nil)) (.con (.int 1)))))) .nil)) }
def d_link_things : Def := { ps := 1, n := 5, io := [], body :=
  (.cons (.expr (.call 113 (.cons (.var 0) .nil)))
   (.cons (.asg 1 (.lst .nil))
   (.cons (.for_ [1] [2, 3] (.tup [2, 3]) (.expr (.call 128 (.cons (.var 0) .nil)))
    (.cons (.app 1 (.tup (.cons (.tup (.cons (.var 2) (.cons (.var 3) .nil))) (.cons (.blt .tuple (.cons (.comp [4] (.cons [4] (.var 4) (.expr (.idx (.var 0) (.var 2))) (.some (.cmp .in_ (.var 4) (.idx (.var 0) (.var 3)))) .nil) (.var 4)) .nil)) .nil)))) .nil))
   (.cons (.ret (.blt .tuple (.cons (.var 1) .nil))) .nil)))) }
def d_popular : Def := { ps := 1, n := 6, io := [], body :=
  (.cons (.expr (.call 113 (.cons (.var 0) .nil)))
   (.cons (.asg 1 (.comp [5] (.cons [5] (.var 5) (.expr (.call 117 (.cons (.var 0) .nil))) .none .nil) (.tup (.cons (.blt .len (.cons (.call 119 (.cons (.var 0) (.cons (.var 5) .nil))) .nil)) (.cons (.var 5) .nil)))))
   (.cons (.asg 2 (.ite (.cmp .ne (.var 1) (.lst .nil)) (.blt .max (.cons (.comp [4, 5] (.cons [4, 5] (.tup [4, 5]) (.expr (.var 1)) .none .nil) (.var 4)) .nil)) (.con (.int 0))))
   (.cons (.asg 3 (.lst .nil))
   (.cons (.for_ [3] [4, 5] (.tup [4, 5]) (.expr (.var 1))
    (.cons (.ite (.cmp .eq (.var 4) (.var 2))
      (.cons (.app 3 (.var 5)) .nil)
      .nil) .nil))
   (.cons (.ret (.blt .tuple (.cons (.var 3) .nil))) .nil)))))) }
def d__law_groups : Def := { ps := 1, n := 8, io := [], body :=
  (.cons (.par [1, 2] (.tmp (.blt .lrng1 (.cons (.blt .len (.cons (.var 0) .nil)) .nil)) (.cons (.call 311 (.cons (.var 0) .nil)) .nil)))
   (.cons (.for_ [1] [3, 4, 5, 6] (.tup [3, 4]) (.expr (.var 2))
    (.cons (.par [5, 6] (.cons (.idx (.var 1) (.var 4)) (.cons (.idx (.var 1) (.var 3)) .nil)))
     (.cons (.asg 1 (.comp [7] (.cons [7] (.var 7) (.expr (.var 1)) .none .nil) (.ite (.cmp .eq (.var 7) (.var 5)) (.var 6) (.var 7)))) .nil)))
   (.cons (.ret (.blt .lset (.cons (.var 1) .nil))) .nil))) }
def d__law_close : Def := { ps := 2, n := 4, io := [], body :=
  (.cons (.for_ [] [2] (.var 2) (.expr (.var 1))
    (.cons (.ite (.cmp .ne (.comp [3] (.cons [3] (.var 3) (.expr (.var 1)) (.some (.and (.cmp .lt (.var 2) (.var 3)) (.cmp .nin (.tup (.cons (.var 2) (.cons (.var 3) .nil))) (.var 0)))) .nil) (.var 3)) (.lst .nil))
      (.cons (.ret (.con (.bool false))) .nil)
      .nil) .nil))
   (.cons (.ret (.con (.bool true))) .nil)) }
def d_colourings : Def := { ps := 2, n := 10, io := [], body :=
  (.cons (.asg 2 (.lst (.cons (.tup .nil) .nil)))
   (.cons (.asg 3 (.call 128 (.cons (.var 0) .nil)))
   (.cons (.for_ [2] [4, 5, 6, 7] (.var 4) (.rng1 (.blt .len (.cons (.var 0) .nil)))
    (.cons (.asg 5 (.lst .nil))
     (.cons (.for_ [5] [6, 7] (.var 6) (.expr (.var 2))
      (.cons (.for_ [5] [7] (.var 7) (.rng1 (.var 1))
        (.cons (.ite (.blt .all (.cons (.comp [8, 9] (.cons [8, 9] (.tup [8, 9]) (.expr (.var 3)) (.some (.cmp .eq (.var 9) (.var 4))) .nil) (.cmp .ne (.idx (.var 6) (.var 8)) (.var 7))) .nil))
          (.cons (.app 5 (.tup (.star (.var 6) (.cons (.var 7) .nil)))) .nil)
          .nil) .nil)) .nil))
     (.cons (.move 2 5) .nil))))
   (.cons (.ret (.var 2)) .nil)))) }
def d_least_colours : Def := { ps := 1, n := 2, io := [], body :=
  (.cons (.expr (.call 113 (.cons (.var 0) .nil)))
   (.cons (.asg 1 (.con (.int 1)))
   (.cons (.whl [] [] (.cmp .eq (.call 165 (.cons (.var 0) (.cons (.var 1) .nil))) (.lst .nil))
    (.cons (.aug 1 .add (.con (.int 1))) .nil))
   (.cons (.ret (.var 1)) .nil)))) }
def d_count_colourings : Def := { ps := 2, n := 2, io := [], body :=
  (.cons (.expr (.call 113 (.cons (.var 0) .nil)))
   (.cons (.ite (.not (.call 35 (.cons (.var 1) (.cons (.con (.int 0)) (.cons (.con (.int 4)) .nil)))))
    (.cons .raise .nil)
    .nil)
   (.cons (.ret (.blt .len (.cons (.call 165 (.cons (.var 0) (.cons (.var 1) .nil))) .nil))) .nil))) }
def d_together_in : Def := { ps := 2, n := 7, io := [], body :=
  (.cons (.asg 2 (.lst .nil))
   (.cons (.for_ [2] [3, 4, 5] (.tup [3, 4]) (.enum (.var 0))
    (.cons (.asg 5 (.ite (.cmp .in_ (.var 3) (.var 1)) (.call 122 (.cons (.var 0) (.cons (.var 3) .nil))) (.lst .nil)))
     (.cons (.app 2 (.blt .tuple (.cons (.comp [6] (.cons [6] (.var 6) (.expr (.var 4)) (.some (.cmp .nin (.var 6) (.var 5))) .nil) (.var 6)) .nil))) .nil)))
   (.cons (.ret (.blt .tuple (.cons (.var 2) .nil))) .nil))) }
def d_together : Def := { ps := 2, n := 2, io := [], body :=
  (.cons (.expr (.call 113 (.cons (.var 0) .nil)))
   (.cons (.expr (.call 47 (.cons (.var 0) (.cons (.var 1) .nil))))
   (.cons (.ret (.call 259 (.cons (.var 0) (.cons (.var 1) .nil)))) .nil))) }
def d_lost_things : Def := { ps := 2, n := 5, io := [], body :=
  (.cons (.expr (.call 113 (.cons (.var 0) .nil)))
   (.cons (.expr (.call 47 (.cons (.var 0) (.cons (.var 1) .nil))))
   (.cons (.asg 2 (.call 117 (.cons (.call 259 (.cons (.var 0) (.cons (.var 1) .nil))) .nil)))
   (.cons (.asg 3 (.lst .nil))
   (.cons (.for_ [3] [4] (.var 4) (.expr (.call 117 (.cons (.var 0) .nil)))
    (.cons (.ite (.cmp .nin (.var 4) (.var 2))
      (.cons (.app 3 (.var 4)) .nil)
      .nil) .nil))
   (.cons (.ret (.blt .tuple (.cons (.var 3) .nil))) .nil)))))) }
def d_safe_in : Def := { ps := 2, n := 2, io := [], body :=
  (.cons (.ret (.cmp .eq (.call 117 (.cons (.call 259 (.cons (.var 0) (.cons (.var 1) .nil))) .nil)) (.call 117 (.cons (.var 0) .nil)))) .nil) }
def d_is_safe : Def := { ps := 2, n := 2, io := [], body :=
  (.cons (.expr (.call 113 (.cons (.var 0) .nil)))
   (.cons (.expr (.call 47 (.cons (.var 0) (.cons (.var 1) .nil))))
   (.cons (.ret (.call 262 (.cons (.var 0) (.cons (.var 1) .nil)))) .nil))) }
def d_safe_sets : Def := { ps := 1, n := 2, io := [], body :=
  (.cons (.expr (.call 113 (.cons (.var 0) .nil)))
   (.cons (.ret (.blt .sorted (.cons (.comp [1] (.cons [1] (.var 1) (.expr (.call 50 (.cons (.blt .len (.cons (.var 0) .nil)) .nil))) (.some (.call 262 (.cons (.var 0) (.cons (.var 1) .nil)))) .nil) (.var 1)) .nil))) .nil)) }
def d_most_safe : Def := { ps := 1, n := 3, io := [], body :=
  (.cons (.expr (.call 113 (.cons (.var 0) .nil)))
   (.cons (.unp [1, 2] (.blt .min (.cons (.comp [2] (.cons [2] (.var 2) (.expr (.call 50 (.cons (.blt .len (.cons (.var 0) .nil)) .nil))) (.some (.call 262 (.cons (.var 0) (.cons (.var 2) .nil)))) .nil) (.tup (.cons (.neg (.blt .len (.cons (.var 2) .nil))) (.cons (.var 2) .nil)))) .nil)))
   (.cons (.ret (.tup (.cons (.neg (.var 1)) (.cons (.var 2) .nil)))) .nil))) }
def d_same_as_row : Def := { ps := 2, n := 4, io := [], body :=
  (.cons (.expr (.call 113 (.cons (.var 0) .nil)))
   (.cons (.expr (.call 47 (.cons (.var 0) (.cons (.var 1) .nil))))
   (.cons (.asg 2 (.var 0))
   (.cons (.for_ [] [3] (.var 3) (.expr (.var 1))
    (.cons (.asg 2 (.call 259 (.cons (.var 2) (.cons (.tup (.cons (.var 3) .nil)) .nil)))) .nil))
   (.cons (.ret (.cmp .eq (.var 2) (.call 259 (.cons (.var 0) (.cons (.var 1) .nil))))) .nil))))) }
def d_peaceful : Def := { ps := 2, n := 4, io := [], body :=
  (.cons (.expr (.call 113 (.cons (.var 0) .nil)))
   (.cons (.expr (.call 47 (.cons (.var 0) (.cons (.var 1) .nil))))
   (.cons (.ret (.not (.blt .any (.cons (.comp [2, 3] (.cons [2, 3] (.tup [2, 3]) (.expr (.call 128 (.cons (.var 0) .nil))) .none .nil) (.and (.cmp .in_ (.var 2) (.var 1)) (.cmp .in_ (.var 3) (.var 1)))) .nil)))) .nil))) }
def d_risky_things : Def := { ps := 2, n := 6, io := [], body :=
  (.cons (.expr (.call 113 (.cons (.var 0) .nil)))
   (.cons (.expr (.call 47 (.cons (.var 0) (.cons (.var 1) .nil))))
   (.cons (.asg 2 (.lst .nil))
   (.cons (.for_ [2] [3, 4] (.var 3) (.expr (.call 117 (.cons (.var 0) .nil)))
    (.cons (.asg 4 (.call 119 (.cons (.var 0) (.cons (.var 3) .nil))))
     (.cons (.ite (.and (.cmp .gt (.blt .len (.cons (.var 4) .nil)) (.con (.int 1))) (.blt .all (.cons (.comp [5] (.cons [5] (.var 5) (.expr (.var 4)) .none .nil) (.cmp .in_ (.var 5) (.var 1))) .nil)))
      (.cons (.app 2 (.var 3)) .nil)
      .nil) .nil)))
   (.cons (.ret (.blt .tuple (.cons (.var 2) .nil))) .nil))))) }
def d__law_once : Def := { ps := 2, n := 3, io := [], body :=
  (.cons (.ret (.blt .tuple (.cons (.comp [2] (.cons [2] (.var 2) (.rng1 (.blt .len (.cons (.var 0) .nil))) .none .nil) (.ite (.cmp .in_ (.var 2) (.var 1)) (.idx (.call 313 (.cons (.var 0) (.cons (.var 2) .nil))) (.var 2)) (.idx (.var 0) (.var 2)))) .nil))) .nil) }
def d_leave : Def := { ps := 2, n := 2, io := [], body :=
  (.cons (.expr (.call 113 (.cons (.var 0) .nil)))
   (.cons (.expr (.call 115 (.cons (.var 0) (.cons (.var 1) .nil))))
   (.cons (.ite (.cmp .eq (.blt .len (.cons (.var 0) .nil)) (.con (.int 1)))
    (.cons .raise .nil)
    .nil)
   (.cons (.ret (.bin .add (.slc (.var 0) .none (.some (.var 1))) (.slc (.var 0) (.some (.bin .add (.var 1) (.con (.int 1)))) .none))) .nil)))) }
def d_come : Def := { ps := 2, n := 2, io := [], body :=
  (.cons (.expr (.call 113 (.cons (.var 0) .nil)))
   (.cons (.ite (.or (.cmp .eq (.blt .len (.cons (.var 0) .nil)) (.con (.int 7))) (.not (.call 112 (.cons (.var 1) .nil))))
    (.cons .raise .nil)
    .nil)
   (.cons (.ret (.tup (.star (.var 0) (.cons (.var 1) .nil)))) .nil))) }
def d_lost_by_leaving : Def := { ps := 2, n := 5, io := [], body :=
  (.cons (.expr (.call 113 (.cons (.var 0) .nil)))
   (.cons (.expr (.call 115 (.cons (.var 0) (.cons (.var 1) .nil))))
   (.cons (.asg 2 (.comp [3, 4] (.cons [3, 4] (.var 3) (.rng1 (.blt .len (.cons (.var 0) .nil))) (.some (.cmp .ne (.var 3) (.var 1))) (.cons [4] (.var 4) (.expr (.idx (.var 0) (.var 3))) .none .nil)) (.var 4)))
   (.cons (.ret (.blt .tuple (.cons (.comp [4] (.cons [4] (.var 4) (.expr (.idx (.var 0) (.var 1))) (.some (.cmp .nin (.var 4) (.var 2))) .nil) (.var 4)) .nil))) .nil)))) }
def d_drop : Def := { ps := 2, n := 4, io := [], body :=
  (.cons (.expr (.call 113 (.cons (.var 0) .nil)))
   (.cons (.expr (.call 116 (.cons (.var 0) (.cons (.var 1) .nil))))
   (.cons (.ret (.blt .tuple (.cons (.comp [2] (.cons [2] (.var 2) (.expr (.var 0)) .none .nil) (.blt .tuple (.cons (.comp [3] (.cons [3] (.var 3) (.expr (.var 2)) (.some (.cmp .ne (.var 3) (.var 1))) .nil) (.var 3)) .nil))) .nil))) .nil))) }
def d_give : Def := { ps := 3, n := 3, io := [], body :=
  (.cons (.expr (.call 113 (.cons (.var 0) .nil)))
   (.cons (.expr (.call 115 (.cons (.var 0) (.cons (.var 1) .nil))))
   (.cons (.ite (.not (.call 35 (.cons (.var 2) (.cons (.con (.int 0)) (.cons (.bin .sub (.con (.int 8)) (.con (.int 1))) .nil)))))
    (.cons .raise .nil)
    .nil)
   (.cons (.ret (.tup (.star (.slc (.var 0) .none (.some (.var 1))) (.cons (.blt .tuple (.cons (.blt .sset (.cons (.lst (.star (.idx (.var 0) (.var 1)) (.cons (.var 2) .nil))) .nil)) .nil)) (.star (.slc (.var 0) (.some (.bin .add (.var 1) (.con (.int 1)))) .none) .nil))))) .nil)))) }
def d_part : Def := { ps := 2, n := 3, io := [], body :=
  (.cons (.expr (.call 113 (.cons (.var 0) .nil)))
   (.cons (.expr (.call 47 (.cons (.var 0) (.cons (.var 1) .nil))))
   (.cons (.ite (.cmp .eq (.var 1) (.tup .nil))
    (.cons .raise .nil)
    .nil)
   (.cons (.ret (.blt .tuple (.cons (.comp [2] (.cons [2] (.var 2) (.expr (.var 1)) .none .nil) (.idx (.var 0) (.var 2))) .nil))) .nil)))) }
def d_things_part : Def := { ps := 2, n := 4, io := [], body :=
  (.cons (.expr (.call 113 (.cons (.var 0) .nil)))
   (.cons (.ite (.not (.call 112 (.cons (.var 1) .nil)))
    (.cons .raise .nil)
    .nil)
   (.cons (.ret (.blt .tuple (.cons (.comp [2] (.cons [2] (.var 2) (.expr (.var 0)) .none .nil) (.blt .tuple (.cons (.comp [3] (.cons [3] (.var 3) (.expr (.var 2)) (.some (.cmp .in_ (.var 3) (.var 1))) .nil) (.var 3)) .nil))) .nil))) .nil))) }
def d_merged : Def := { ps := 3, n := 6, io := [], body :=
  (.cons (.expr (.call 113 (.cons (.var 0) .nil)))
   (.cons (.expr (.call 115 (.cons (.var 0) (.cons (.var 1) .nil))))
   (.cons (.expr (.call 115 (.cons (.var 0) (.cons (.var 2) .nil))))
   (.cons (.par [4, 5] (.cons (.blt .min2 (.cons (.var 1) (.cons (.var 2) .nil))) (.cons (.blt .max2 (.cons (.var 1) (.cons (.var 2) .nil))) .nil)))
   (.cons (.ite (.cmp .eq (.var 4) (.var 5))
    (.cons (.ret (.var 0)) .nil)
    .nil)
   (.cons (.asg 3 (.blt .tuple (.cons (.blt .sset (.cons (.lst (.star (.idx (.var 0) (.var 4)) (.star (.idx (.var 0) (.var 5)) .nil))) .nil)) .nil)))
   (.cons (.ret (.tup (.star (.slc (.var 0) .none (.some (.var 4))) (.cons (.var 3) (.star (.slc (.var 0) (.some (.bin .add (.var 4) (.con (.int 1)))) (.some (.var 5))) (.star (.slc (.var 0) (.some (.bin .add (.var 5) (.con (.int 1)))) .none) .nil)))))) .nil))))))) }
def d_restricted : Def := { ps := 2, n := 4, io := [], body :=
  (.cons (.expr (.call 113 (.cons (.var 0) .nil)))
   (.cons (.expr (.call 115 (.cons (.var 0) (.cons (.var 1) .nil))))
   (.cons (.ret (.blt .tuple (.cons (.comp [2] (.cons [2] (.var 2) (.expr (.var 0)) .none .nil) (.blt .tuple (.cons (.comp [3] (.cons [3] (.var 3) (.expr (.var 2)) (.some (.cmp .in_ (.var 3) (.idx (.var 0) (.var 1)))) .nil) (.var 3)) .nil))) .nil))) .nil))) }
def d__law_order : Def := { ps := 2, n := 5, io := [0], body :=
  (.cons (.par [3, 4] (.tmp (.blt .lrng1 (.cons (.var 1) .nil)) (.tmp (.lst .nil) .nil)))
   (.cons (.for_ [3, 4, 0] [2] (.var 2) (.rng1 (.var 1))
    (.cons (.app 4 (.pop 3 (.some (.call 305 (.io 0 (.cons (.blt .len (.cons (.var 3) .nil)) .nil)))))) .nil))
   (.cons (.ret (.blt .tuple (.cons (.var 4) .nil))) .nil))) }
end Ev.T
namespace Ev
open T
def tbl : List (Nat × Def) := [
(34, d_is_integer),
(35, d_is_in),
(36, d_is_list),
(112, d_is_hand),
(113, d_need_hands),
(115, d_need_person),
(116, d_need_thing),
(117, d_things_in),
(118, d_things),
(119, d_holders_in),
(120, d_holders),
(121, d_shared),
(122, d_spare_in),
(123, d_spare),
(124, d_alone),
(125, d_count_held),
(126, d_surplus),
(135, d_empty_handed),
(305, d__law_taken),
(306, d__law_alike),
(307, d__law_hands),
(308, d__law_holders),
(309, d__law_things),
(127, d_common),
(128, d_pairs_in),
(129, d_pairs),
(130, d_neighbours),
(131, d_groups_in),
(132, d_groups),
(133, d_end_in),
(134, d_is_end),
(311, d__law_pairs),
(0, d_need_calls),
(1, d_call_in),
(2, d_call),
(3, d_movers_in),
(4, d_movers),
(5, d_story_in),
(6, d_after),
(7, d_story),
(8, d_still_calls),
(9, d_put_away),
(10, d_first_calls),
(11, d_changed),
(12, d_last_held),
(13, d_lonely_at),
(312, d__law_row),
(313, d__law_call),
(314, d__law_movers),
(77, d_need_order),
(78, d_end_of),
(315, d__law_pick),
(316, d__law_done),
(47, d_need_people),
(48, d_cover_in),
(49, d_is_cover),
(50, d_choices),
(51, d_covers_in),
(52, d_covers),
(53, d_least_in),
(54, d_least_covers),
(55, d_calls_to_end),
(56, d_tight_covers),
(57, d_must_call),
(58, d_need_weights),
(59, d_cheapest_cover),
(63, d_count_covers),
(64, d_apart),
(65, d_most_pairs),
(319, d__law_sets),
(60, d_way_to_end),
(155, d_linked_to),
(156, d_link_counts),
(157, d_most_linked),
(158, d_is_club),
(159, d_clubs),
(160, d_is_part),
(161, d_greatest_club),
(162, d_splitters),
(163, d_key_things),
(164, d_is_tree),
(168, d_link_things),
(170, d_popular),
(328, d__law_groups),
(329, d__law_close),
(165, d_colourings),
(166, d_least_colours),
(167, d_count_colourings),
(259, d_together_in),
(260, d_together),
(261, d_lost_things),
(262, d_safe_in),
(263, d_is_safe),
(264, d_safe_sets),
(265, d_most_safe),
(268, d_same_as_row),
(269, d_peaceful),
(271, d_risky_things),
(330, d__law_once),
(23, d_leave),
(24, d_come),
(25, d_lost_by_leaving),
(26, d_drop),
(27, d_give),
(28, d_part),
(29, d_things_part),
(31, d_merged),
(280, d_restricted),
(335, d__law_order)]
def PM : Tab := ⟨fun f => (tbl.find? fun e => Nat.beq e.1 f).map (·.2), fun _ => "", fun _ => none⟩
theorem p_is_integer : PM 34 = some d_is_integer := rfl
theorem p_is_in : PM 35 = some d_is_in := rfl
theorem p_is_list : PM 36 = some d_is_list := rfl
theorem p_is_hand : PM 112 = some d_is_hand := rfl
theorem p_need_hands : PM 113 = some d_need_hands := rfl
theorem p_need_person : PM 115 = some d_need_person := rfl
theorem p_need_thing : PM 116 = some d_need_thing := rfl
theorem p_things_in : PM 117 = some d_things_in := rfl
theorem p_things : PM 118 = some d_things := rfl
theorem p_holders_in : PM 119 = some d_holders_in := rfl
theorem p_holders : PM 120 = some d_holders := rfl
theorem p_shared : PM 121 = some d_shared := rfl
theorem p_spare_in : PM 122 = some d_spare_in := rfl
theorem p_spare : PM 123 = some d_spare := rfl
theorem p_alone : PM 124 = some d_alone := rfl
theorem p_count_held : PM 125 = some d_count_held := rfl
theorem p_surplus : PM 126 = some d_surplus := rfl
theorem p_empty_handed : PM 135 = some d_empty_handed := rfl
theorem p__law_taken : PM 305 = some d__law_taken := rfl
theorem p__law_alike : PM 306 = some d__law_alike := rfl
theorem p__law_hands : PM 307 = some d__law_hands := rfl
theorem p__law_holders : PM 308 = some d__law_holders := rfl
theorem p__law_things : PM 309 = some d__law_things := rfl
theorem p_common : PM 127 = some d_common := rfl
theorem p_pairs_in : PM 128 = some d_pairs_in := rfl
theorem p_pairs : PM 129 = some d_pairs := rfl
theorem p_neighbours : PM 130 = some d_neighbours := rfl
theorem p_groups_in : PM 131 = some d_groups_in := rfl
theorem p_groups : PM 132 = some d_groups := rfl
theorem p_end_in : PM 133 = some d_end_in := rfl
theorem p_is_end : PM 134 = some d_is_end := rfl
theorem p__law_pairs : PM 311 = some d__law_pairs := rfl
theorem p_need_calls : PM 0 = some d_need_calls := rfl
theorem p_call_in : PM 1 = some d_call_in := rfl
theorem p_call : PM 2 = some d_call := rfl
theorem p_movers_in : PM 3 = some d_movers_in := rfl
theorem p_movers : PM 4 = some d_movers := rfl
theorem p_story_in : PM 5 = some d_story_in := rfl
theorem p_after : PM 6 = some d_after := rfl
theorem p_story : PM 7 = some d_story := rfl
theorem p_still_calls : PM 8 = some d_still_calls := rfl
theorem p_put_away : PM 9 = some d_put_away := rfl
theorem p_first_calls : PM 10 = some d_first_calls := rfl
theorem p_changed : PM 11 = some d_changed := rfl
theorem p_last_held : PM 12 = some d_last_held := rfl
theorem p_lonely_at : PM 13 = some d_lonely_at := rfl
theorem p__law_row : PM 312 = some d__law_row := rfl
theorem p__law_call : PM 313 = some d__law_call := rfl
theorem p__law_movers : PM 314 = some d__law_movers := rfl
theorem p_need_order : PM 77 = some d_need_order := rfl
theorem p_end_of : PM 78 = some d_end_of := rfl
theorem p__law_pick : PM 315 = some d__law_pick := rfl
theorem p__law_done : PM 316 = some d__law_done := rfl
theorem p_need_people : PM 47 = some d_need_people := rfl
theorem p_cover_in : PM 48 = some d_cover_in := rfl
theorem p_is_cover : PM 49 = some d_is_cover := rfl
theorem p_choices : PM 50 = some d_choices := rfl
theorem p_covers_in : PM 51 = some d_covers_in := rfl
theorem p_covers : PM 52 = some d_covers := rfl
theorem p_least_in : PM 53 = some d_least_in := rfl
theorem p_least_covers : PM 54 = some d_least_covers := rfl
theorem p_calls_to_end : PM 55 = some d_calls_to_end := rfl
theorem p_tight_covers : PM 56 = some d_tight_covers := rfl
theorem p_must_call : PM 57 = some d_must_call := rfl
theorem p_need_weights : PM 58 = some d_need_weights := rfl
theorem p_cheapest_cover : PM 59 = some d_cheapest_cover := rfl
theorem p_count_covers : PM 63 = some d_count_covers := rfl
theorem p_apart : PM 64 = some d_apart := rfl
theorem p_most_pairs : PM 65 = some d_most_pairs := rfl
theorem p__law_sets : PM 319 = some d__law_sets := rfl
theorem p_way_to_end : PM 60 = some d_way_to_end := rfl
theorem p_linked_to : PM 155 = some d_linked_to := rfl
theorem p_link_counts : PM 156 = some d_link_counts := rfl
theorem p_most_linked : PM 157 = some d_most_linked := rfl
theorem p_is_club : PM 158 = some d_is_club := rfl
theorem p_clubs : PM 159 = some d_clubs := rfl
theorem p_is_part : PM 160 = some d_is_part := rfl
theorem p_greatest_club : PM 161 = some d_greatest_club := rfl
theorem p_splitters : PM 162 = some d_splitters := rfl
theorem p_key_things : PM 163 = some d_key_things := rfl
theorem p_is_tree : PM 164 = some d_is_tree := rfl
theorem p_link_things : PM 168 = some d_link_things := rfl
theorem p_popular : PM 170 = some d_popular := rfl
theorem p__law_groups : PM 328 = some d__law_groups := rfl
theorem p__law_close : PM 329 = some d__law_close := rfl
theorem p_colourings : PM 165 = some d_colourings := rfl
theorem p_least_colours : PM 166 = some d_least_colours := rfl
theorem p_count_colourings : PM 167 = some d_count_colourings := rfl
theorem p_together_in : PM 259 = some d_together_in := rfl
theorem p_together : PM 260 = some d_together := rfl
theorem p_lost_things : PM 261 = some d_lost_things := rfl
theorem p_safe_in : PM 262 = some d_safe_in := rfl
theorem p_is_safe : PM 263 = some d_is_safe := rfl
theorem p_safe_sets : PM 264 = some d_safe_sets := rfl
theorem p_most_safe : PM 265 = some d_most_safe := rfl
theorem p_same_as_row : PM 268 = some d_same_as_row := rfl
theorem p_peaceful : PM 269 = some d_peaceful := rfl
theorem p_risky_things : PM 271 = some d_risky_things := rfl
theorem p__law_once : PM 330 = some d__law_once := rfl
theorem p_leave : PM 23 = some d_leave := rfl
theorem p_come : PM 24 = some d_come := rfl
theorem p_lost_by_leaving : PM 25 = some d_lost_by_leaving := rfl
theorem p_drop : PM 26 = some d_drop := rfl
theorem p_give : PM 27 = some d_give := rfl
theorem p_part : PM 28 = some d_part := rfl
theorem p_things_part : PM 29 = some d_things_part := rfl
theorem p_merged : PM 31 = some d_merged := rfl
theorem p_restricted : PM 280 = some d_restricted := rfl
theorem p__law_order : PM 335 = some d__law_order := rfl
end Ev
end

section
set_option linter.all false
set_option autoImplicit false
set_option maxRecDepth 10000
/-! Pa: hands. -/
namespace Ev
open T
/-- a hand, hands -/
structure Hd (h : List Nat) : Prop where
  asc : h.Pairwise (· < ·)
  lt : ∀ t ∈ h, t < 8
structure Ok (hs : Hands) : Prop where
  pos : 0 < hs.length
  le : hs.length ≤ 7
  hd : ∀ h ∈ hs, Hd h
theorem Hd.len {h : List Nat} (H : Hd h) : h.length ≤ 8 := asc_len H.asc H.lt
section
variable {k : Nat}
theorem w_is_integer (hk : 1 ≤ k) (n : Nat) : callD PM k 34 [cN.e n] = .ok (.bool true, []) := by
  obtain ⟨j, rfl⟩ : ∃ j, k = j + 1 := ⟨k - 1, by omega⟩
  rw [call_s p_is_integer rfl]
  simp [d_is_integer]
theorem w_is_in (hk : 2 ≤ k) (n a b : Nat) : callD PM k 35 [cN.e n, cN.e a, cN.e b] = .ok (.bool (decide (a ≤ n ∧ n ≤ b)), []) := by
  obtain ⟨j, rfl⟩ : ∃ j, k = j + 2 := ⟨k - 2, by omega⟩
  rw [call_s p_is_in rfl]
  simp [d_is_in, w_is_integer]
theorem w_is_list {α : Type} (c : Co α) (hk : 1 ≤ k) (l : List α) (a b : Nat) : callD PM k 36 [(cT c).e l, cN.e a, cN.e b] = .ok (.bool (decide (a ≤ l.length ∧ l.length ≤ b)), []) := by
  obtain ⟨j, rfl⟩ : ∃ j, k = j + 1 := ⟨k - 1, by omega⟩
  rw [call_s p_is_list rfl]
  simp [d_is_list]
theorem w_is_hand (hk : 3 ≤ k) {h : List Nat} (H : Hd h) : callD PM k 112 [(cT cN).e h] = .ok (.bool true, []) := by
  obtain ⟨j, rfl⟩ : ∃ j, k = j + 3 := ⟨k - 3, by omega⟩
  have hl := H.len
  have h1 : h.length ≤ line := by unfold line; omega
  have h2 : (h.all fun x => decide (x ≤ 7)) = true := by
    rw [List.all_eq_true]
    intro x hx
    have := H.lt x hx
    simp
    omega
  have h3 : h.length ≤ 1000 := by omega
  have h4 : h.length < 64 := by omega
  rw [call_s p_is_hand rfl]
  simp [d_is_hand, w_is_list, w_is_in, hl, h1, setN_id H.asc, h3, h4, h2]
/-! ### what hands have -/
def holdN (hs : Hands) (t : Nat) : List Nat := (List.range hs.length).filter fun p => decide (t ∈ hs[p]?.getD [])
def thingsN (hs : Hands) : List Nat := setN hs.flatten
def spareN (hs : Hands) (p : Nat) : List Nat := (hs[p]?.getD []).filter fun t => decide (1 < (holdN hs t).length)
def callN (hs : Hands) (p : Nat) : Hands := hs.set p ((hs[p]?.getD []).filter fun t => decide (t ∉ spareN hs p))
def moversN (hs : Hands) : List Nat := (List.range hs.length).filter fun p => decide (spareN hs p ≠ [])
/-- the hands behind a row -/
def afterN (hs : Hands) (ps : List Nat) : Hands := ps.foldl callN hs
/-- .. ahead of and behind each call -/
def storyN (hs : Hands) : List Nat → List Hands
  | [] => [hs]
  | p :: ps => hs :: storyN (callN hs p) ps
theorem getD_mem {α : Type} {l : List α} {n : Nat} {d : α} (h : n < l.length) : l[n]?.getD d ∈ l := by
  rw [getD_in h]
  exact List.getElem_mem h
theorem Ok.at {hs : Hands} (H : Ok hs) {p : Nat} (hp : p < hs.length) : Hd (hs[p]?.getD []) := H.hd _ (getD_mem hp)
theorem line_of {n : Nat} (h : n ≤ 16777215) : n ≤ line := le_line n h
theorem Ok.line {hs : Hands} (H : Ok hs) : hs.length ≤ line := line_of (by have := H.le; omega)
theorem Hd.line {h : List Nat} (H : Hd h) : h.length ≤ line := line_of (by have := H.len; omega)
theorem flat_len {hs : Hands} (H : ∀ h ∈ hs, Hd h) : hs.flatten.length ≤ 8 * hs.length := by
  induction hs with
  | nil => exact Nat.zero_le _
  | cons h hs ih =>
    have := (H h List.mem_cons_self).len
    have := ih fun x hx => H x (List.mem_cons_of_mem _ hx)
    rw [List.flatten_cons, List.length_append, List.length_cons]
    omega
theorem Ok.le9 {hs : Hands} (H : Ok hs) : hs.length ≤ big9 := le_big9 (by have := H.le; omega)
theorem Ok.ln {hs : Hands} (H : Ok hs) {p : Nat} (hp : p < hs.length) : hs[p].length ≤ Ev.line := Hd.line (H.hd _ (List.getElem_mem hp))
theorem Ok.flat {hs : Hands} (H : Ok hs) : hs.flatten.length ≤ 56 := by
  have := flat_len H.hd
  have := H.le
  omega
theorem mem_things {hs : Hands} {t : Nat} : t ∈ thingsN hs ↔ ∃ h ∈ hs, t ∈ h := by
  unfold thingsN
  rw [mem_setN, List.mem_flatten]
theorem things_asc (hs : Hands) : (thingsN hs).Pairwise (· < ·) := setN_asc _
theorem Ok.things {hs : Hands} (H : Ok hs) : Hd (thingsN hs) := ⟨things_asc hs, fun t ht => by
  obtain ⟨h, hh, ht⟩ := mem_things.mp ht
  exact (H.hd h hh).lt t ht⟩
theorem hold_len (hs : Hands) (t : Nat) : (holdN hs t).length ≤ hs.length := by
  unfold holdN
  exact Nat.le_trans (List.length_filter_le _ _) (by rw [List.length_range]; exact Nat.le_refl _)
theorem mem_hold {hs : Hands} {t p : Nat} : p ∈ holdN hs t ↔ p < hs.length ∧ t ∈ hs[p]?.getD [] := by
  unfold holdN
  simp
theorem enumN_eq {α : Type} (d : α) (l : List α) : enumN l = (List.range l.length).map fun i => (i, l[i]?.getD d) := by
  refine List.ext_getElem (by simp [enumN]) fun i h1 h2 => ?_
  have hi : i < l.length := by simpa [enumN] using h1
  simp [enumN, hi]
theorem w_need_hands (hk : 4 ≤ k) {hs : Hands} (H : Ok hs) : callD PM k 113 [cH.e hs] = .ok (.none, []) := by
  obtain ⟨j, rfl⟩ : ∃ j, k = j + 4 := ⟨k - 4, by omega⟩
  have h1 := H.pos
  have h2 := H.le
  rw [call_s p_need_hands rfl]
  simp [d_need_hands, w_is_list, h2, Nat.succ_le_iff.mpr h1, ss_for]
  rw [enumN_eq ([] : List Nat), forF_keep]
  · simp
  · intro x hx
    obtain ⟨i, hi, rfl⟩ := List.mem_map.mp hx
    have hd := H.at (List.mem_range.mp hi)
    simp [w_is_hand _ hd]
theorem w_need_person (hk : 3 ≤ k) {hs : Hands} {p : Nat} (hp : p < hs.length) : callD PM k 115 [cH.e hs, cN.e p] = .ok (.none, []) := by
  obtain ⟨j, rfl⟩ : ∃ j, k = j + 3 := ⟨k - 3, by omega⟩
  have h1 : 1 ≤ hs.length := by omega
  have h2 : p ≤ hs.length - 1 := by omega
  rw [call_s p_need_person rfl]
  simp [d_need_person, w_is_in, h1, h2]
theorem w_things_in (hk : 1 ≤ k) {hs : Hands} (H : Ok hs) : callD PM k 117 [cH.e hs] = .ok ((cL cN).e (thingsN hs), []) := by
  obtain ⟨j, rfl⟩ : ∃ j, k = j + 1 := ⟨k - 1, by omega⟩
  have h1 := H.flat
  have h2 : hs.flatten.length ≤ line := line_of (by omega)
  have h3 := H.things.len
  have h4 : (setN hs.flatten).length < 64 := by unfold thingsN at h3; omega
  have h5 : hs.flatten.length ≤ 1000 := by omega
  have e : hs.flatMap (fun x => x) = hs.flatten := by simp
  rw [call_s p_things_in rfl]
  simp [d_things_in, List.flatMap_id', ← List.length_flatten, h2, h4, h5, thingsN]
theorem w_holders_in (hk : 1 ≤ k) {hs : Hands} (H : Ok hs) (t : Nat) : callD PM k 119 [cH.e hs, cN.e t] = .ok ((cL cN).e (holdN hs t), []) := by
  obtain ⟨j, rfl⟩ : ∃ j, k = j + 1 := ⟨k - 1, by omega⟩
  rw [call_s p_holders_in rfl]
  simp [d_holders_in, enumN_eq ([] : List Nat), List.filter_map, Function.comp_def, holdN, H.line]
theorem w_spare_in (hk : 2 ≤ k) {hs : Hands} (H : Ok hs) {p : Nat} (hp : p < hs.length) : callD PM k 122 [cH.e hs, cN.e p] = .ok ((cL cN).e (spareN hs p), []) := by
  obtain ⟨j, rfl⟩ : ∃ j, k = j + 2 := ⟨k - 2, by omega⟩
  rw [call_s p_spare_in rfl]
  simp [d_spare_in, w_holders_in _ H, hp, spareN, H.ln hp]
theorem w_call_in (hk : 3 ≤ k) {hs : Hands} (H : Ok hs) {p : Nat} (hp : p < hs.length) : callD PM k 1 [cH.e hs, cN.e p] = .ok (cH.e (callN hs p), []) := by
  obtain ⟨j, rfl⟩ : ∃ j, k = j + 3 := ⟨k - 3, by omega⟩
  rw [call_s p_call_in rfl]
  have h1 : min p hs.length ≤ line := Nat.le_trans (Nat.min_le_right _ _) H.line
  have h2 : hs.length ≤ line + (p + 1) := Nat.le_trans H.line (Nat.le_add_right _ _)
  have h3 : min p hs.length + (hs.length - (p + 1) + 1) ≤ line := by
    have := H.le
    refine line_of ?_
    omega
  simp [d_call_in, w_spare_in _ H hp, hp, callN, H.ln hp, h1, h2, h3, List.set_eq_take_append_cons_drop]
theorem w_movers_in (hk : 3 ≤ k) {hs : Hands} (H : Ok hs) : callD PM k 3 [cH.e hs] = .ok ((cL cN).e (moversN hs), []) := by
  obtain ⟨j, rfl⟩ : ∃ j, k = j + 3 := ⟨k - 3, by omega⟩
  rw [call_s p_movers_in rfl]
  simp [d_movers_in, moversN, H.line, H.le9]
  rw [loopW_congr rfl fun x hx => by
    rw [w_spare_in (by omega) H (List.mem_range.mp hx)]]
  simp [H.line]
/-! ### calls keep hands -/
theorem Hd.filter {h : List Nat} (H : Hd h) (q : Nat → Bool) : Hd (h.filter q) := ⟨H.asc.filter q, fun t ht => H.lt t (List.mem_filter.mp ht).1⟩
theorem Hd.nil : Hd [] := ⟨.nil, fun t ht => by cases ht⟩
@[simp] theorem call_len (hs : Hands) (p : Nat) : (callN hs p).length = hs.length := by simp [callN]
theorem Ok.getD {hs : Hands} (H : Ok hs) (p : Nat) : Hd (hs[p]?.getD []) := by
  by_cases hp : p < hs.length
  · exact H.at hp
  · rw [List.getElem?_eq_none (by omega)]; exact Hd.nil
theorem Ok.call {hs : Hands} (H : Ok hs) (p : Nat) : Ok (callN hs p) where
  pos := by rw [call_len]; exact H.pos
  le := by rw [call_len]; exact H.le
  hd := fun h hh => by
    rcases List.mem_or_eq_of_mem_set hh with h1 | rfl
    · exact H.hd h h1
    · exact (H.getD p).filter _
theorem after_snoc (hs : Hands) (ps : List Nat) (p : Nat) : afterN hs (ps ++ [p]) = callN (afterN hs ps) p := by simp [afterN]
@[simp] theorem after_len (hs : Hands) (ps : List Nat) : (afterN hs ps).length = hs.length := by
  induction ps generalizing hs with
  | nil => rfl
  | cons p ps ih => rw [afterN, List.foldl_cons]; exact (ih (callN hs p)).trans (call_len hs p)
theorem Ok.after {hs : Hands} (H : Ok hs) (ps : List Nat) : Ok (afterN hs ps) := by
  induction ps generalizing hs with
  | nil => exact H
  | cons p ps ih => exact ih (H.call p)
@[simp] theorem story_len (hs : Hands) (ps : List Nat) : (storyN hs ps).length = ps.length + 1 := by
  induction ps generalizing hs with
  | nil => rfl
  | cons p ps ih => rw [storyN, List.length_cons, ih]; rfl
theorem story_ne (hs : Hands) (ps : List Nat) : storyN hs ps ≠ [] := by cases ps <;> simp [storyN]
theorem story_last (hs : Hands) (ps : List Nat) (h : storyN hs ps ≠ []) : (storyN hs ps).getLast h = afterN hs ps := by
  induction ps generalizing hs with
  | nil => rfl
  | cons p ps ih =>
    simp only [storyN]
    rw [List.getLast_cons (story_ne _ _), ih]
    rfl
theorem story_snoc (hs : Hands) (ps : List Nat) (p : Nat) : storyN hs (ps ++ [p]) = storyN hs ps ++ [callN (afterN hs ps) p] := by
  induction ps generalizing hs with
  | nil => rfl
  | cons q ps ih =>
    show hs :: storyN (callN hs q) (ps ++ [p]) = hs :: storyN (callN hs q) ps ++ [callN (afterN hs (q :: ps)) p]
    rw [ih]
    rfl
/-- a row of people -/
def Row (n : Nat) (ps : List Nat) : Prop := ps.length ≤ 60 ∧ ∀ p ∈ ps, p < n
theorem Row.line {n : Nat} {ps : List Nat} (h : Row n ps) : ps.length ≤ line := line_of (by have := h.1; omega)
theorem story_ok {hs : Hands} (H : Ok hs) (ps : List Nat) : ∀ x ∈ storyN hs ps, Ok x := by
  induction ps generalizing hs with
  | nil => intro x hx; rw [List.mem_singleton.mp hx]; exact H
  | cons p ps ih =>
    intro x hx
    rcases List.mem_cons.mp hx with rfl | hx
    · exact H
    · exact ih (H.call p) x hx
theorem w_need_calls (hk : 3 ≤ k) {hs : Hands} (H : Ok hs) {ps : List Nat} (hp : Row hs.length ps) : callD PM k 0 [cH.e hs, (cT cN).e ps] = .ok (.none, []) := by
  obtain ⟨j, rfl⟩ : ∃ j, k = j + 3 := ⟨k - 3, by omega⟩
  have h0 := H.pos
  have h1 : 1 ≤ hs.length := h0
  have h2 := hp.1
  rw [call_s p_need_calls rfl]
  simp [d_need_calls, w_is_list, h2]
  rw [enumN_eq (0 : Nat), forF_keep]
  · simp
  · intro x hx
    obtain ⟨i, hi, rfl⟩ := List.mem_map.mp hx
    have hi := List.mem_range.mp hi
    have hd : ps[i] < hs.length := hp.2 _ (List.getElem_mem hi)
    have hd2 : ps[i] ≤ hs.length - 1 := by omega
    simp [w_is_in, h1, hi, hd2]
theorem foldl_snoc {α : Type} : ∀ (l d : List α), l.foldl (fun d p => d ++ [p]) d = d ++ l
  | [], d => by simp
  | x :: l, d => by rw [List.foldl_cons, foldl_snoc l]; simp
theorem w_story_in (hk : 4 ≤ k) {hs : Hands} (H : Ok hs) {ps : List Nat} (hp : Row hs.length ps) : callD PM k 5 [cH.e hs, (cT cN).e ps] = .ok ((cL cH).e (storyN hs ps), []) := by
  obtain ⟨j, rfl⟩ : ∃ j, k = j + 4 := ⟨k - 4, by omega⟩
  rw [call_s p_story_in rfl]
  simp [d_story_in]
  refine forF_bind cN (fun done => [some (cH.e hs), some ((cT cN).e ps), some ((cL cH).e (storyN hs done)), none]) (fun done p => done ++ [p]) (fun n done => done.length = n) [] rfl rfl (fun n done p hpm hn h1 => ⟨.inl ?_, by simp [h1]⟩) fun h1 => ?_
  · have h2 := hp.2 p hpm
    have h3 : p < (afterN hs done).length := by rw [after_len]; exact h2
    have h4 : done.length + 1 < line := by have := hp.1; unfold line; omega
    simp [story_ne, story_last, w_call_in _ (H.after done) h3, story_snoc, h4]
  · rw [foldl_snoc, List.nil_append]; simp
theorem w_after (hk : 5 ≤ k) {hs : Hands} (H : Ok hs) {ps : List Nat} (hp : Row hs.length ps) : callD PM k 6 [cH.e hs, (cT cN).e ps] = .ok (cH.e (afterN hs ps), []) := by
  obtain ⟨j, rfl⟩ : ∃ j, k = j + 5 := ⟨k - 5, by omega⟩
  rw [call_s p_after rfl]
  simp [d_after, w_need_hands _ H, w_need_calls _ H hp, w_story_in _ H hp, story_ne, story_last]
theorem w_story (hk : 5 ≤ k) {hs : Hands} (H : Ok hs) {ps : List Nat} (hp : Row hs.length ps) : callD PM k 7 [cH.e hs, (cT cN).e ps] = .ok ((cL cH).e (storyN hs ps), []) := by
  obtain ⟨j, rfl⟩ : ∃ j, k = j + 5 := ⟨k - 5, by omega⟩
  rw [call_s p_story rfl]
  simp [d_story, w_need_hands _ H, w_need_calls _ H hp, w_story_in _ H hp]
theorem w_things (hk : 5 ≤ k) {hs : Hands} (H : Ok hs) : callD PM k 118 [cH.e hs] = .ok ((cT cN).e (thingsN hs), []) := by
  obtain ⟨j, rfl⟩ : ∃ j, k = j + 5 := ⟨k - 5, by omega⟩
  rw [call_s p_things rfl]
  simp [d_things, w_need_hands _ H, w_things_in _ H]
theorem w_need_thing (hk : 4 ≤ k) {hs : Hands} (H : Ok hs) {t : Nat} (ht : t ∈ thingsN hs) : callD PM k 116 [cH.e hs, cN.e t] = .ok (.none, []) := by
  obtain ⟨j, rfl⟩ : ∃ j, k = j + 4 := ⟨k - 4, by omega⟩
  have h1 : t ≤ 7 := by have := H.things.lt t ht; omega
  rw [call_s p_need_thing rfl]
  simp [d_need_thing, w_is_in, h1, w_things_in _ H, ht]
def lastN (hs : Hands) (ps : List Nat) (t : Nat) : List Nat := holdN (afterN hs ps) t
theorem w_last_held (hk : 5 ≤ k) {hs : Hands} (H : Ok hs) {ps : List Nat} (hp : Row hs.length ps) {t : Nat} (ht : t ∈ thingsN hs) : callD PM k 12 [cH.e hs, (cT cN).e ps, cN.e t] = .ok ((cT cN).e (lastN hs ps t), []) := by
  obtain ⟨j, rfl⟩ : ∃ j, k = j + 5 := ⟨k - 5, by omega⟩
  rw [call_s p_last_held rfl]
  simp [d_last_held, w_need_hands _ H, w_need_calls _ H hp, w_need_thing _ H ht, w_story_in _ H hp, story_ne, story_last, H.le9]
  simp [H.line, lastN, holdN]
theorem w_need_order (hk : 3 ≤ k) {hs : Hands} (H : Ok hs) {ps : List Nat} (hp : ps.Perm (List.range hs.length)) : callD PM k 77 [cH.e hs, (cT cN).e ps] = .ok (.none, []) := by
  obtain ⟨j, rfl⟩ : ∃ j, k = j + 3 := ⟨k - 3, by omega⟩
  rw [call_s p_need_order rfl]
  have h0 := H.pos
  have h1 : 1 ≤ hs.length := h0
  have h2 : ps.length = hs.length := by rw [hp.length_eq, List.length_range]
  have h3 : ∀ p, p ∈ ps ↔ p < hs.length := fun p => by rw [hp.mem_iff, List.mem_range]
  have h4 : (ps.all fun p => decide (p ≤ hs.length - 1)) = true := by
    rw [List.all_eq_true]
    intro p hp
    have := (h3 p).mp hp
    simp
    omega
  have h5 : srt cN ps = List.range hs.length := srt_of (hp.nodup_iff.mpr List.nodup_range) List.pairwise_lt_range fun z => by rw [h3, List.mem_range]
  have h6 : hs.length ≤ 10000000 := by have := H.le; omega
  simp [d_need_order, w_is_list, w_is_in, h2, h1, H.line, h4, h5, lrng1_N _ h6]
/-- some things alone -/
def partN (hs : Hands) (some : List Nat) : Hands := hs.map fun h => h.filter fun t => decide (t ∈ some)
theorem Ok.part {hs : Hands} (H : Ok hs) (ts : List Nat) : Ok (partN hs ts) where
  pos := by unfold partN; rw [List.length_map]; exact H.pos
  le := by unfold partN; rw [List.length_map]; exact H.le
  hd := fun h hh => by
    obtain ⟨g, hg, rfl⟩ := List.mem_map.mp hh
    exact (H.hd g hg).filter _
theorem w_things_part (hk : 5 ≤ k) {hs : Hands} (H : Ok hs) {ts : List Nat} (ht : Hd ts) : callD PM k 29 [cH.e hs, (cT cN).e ts] = .ok (cH.e (partN hs ts), []) := by
  obtain ⟨j, rfl⟩ : ∃ j, k = j + 5 := ⟨k - 5, by omega⟩
  rw [call_s p_things_part rfl]
  simp [d_things_part, w_need_hands _ H, w_is_hand _ ht]
  refine gd_fin2 (fun h hh => ln_filter (H.hd h hh).line) (gd_fin2 H.line ?_)
  rfl
def putN (hs : Hands) : List Nat → List (List Nat)
  | [] => []
  | p :: ps => ((hs[p]?.getD []).filter fun t => decide (t ∉ (callN hs p)[p]?.getD [])) :: putN (callN hs p) ps
theorem take_snoc {α : Type} (l : List α) {n : Nat} (h : n < l.length) : l.take (n + 1) = l.take n ++ [l[n]] := by
  rw [List.take_add_one, List.getElem?_eq_getElem h]
  rfl
theorem put_snoc (hs : Hands) (ps : List Nat) (p : Nat) : putN hs (ps ++ [p]) = putN hs ps ++ [((afterN hs ps)[p]?.getD []).filter fun t => decide (t ∉ (callN (afterN hs ps) p)[p]?.getD [])] := by
  induction ps generalizing hs with
  | nil => rfl
  | cons q ps ih =>
    show _ :: putN (callN hs q) (ps ++ [p]) = _ :: putN (callN hs q) ps ++ _
    rw [ih]
    rfl
@[simp] theorem put_len (hs : Hands) (ps : List Nat) : (putN hs ps).length = ps.length := by
  induction ps generalizing hs with
  | nil => rfl
  | cons q ps ih => rw [putN, List.length_cons, ih, List.length_cons]
theorem put_ok {hs : Hands} (H : Ok hs) (ps : List Nat) : ∀ x ∈ putN hs ps, Hd x := by
  induction ps generalizing hs with
  | nil => intro x hx; cases hx
  | cons p ps ih =>
    intro x hx
    rcases List.mem_cons.mp hx with rfl | hx
    · exact (H.getD p).filter _
    · exact ih (H.call p) x hx
theorem story_at (hs : Hands) (ps : List Nat) (i : Nat) (h : i ≤ ps.length) : (storyN hs ps)[i]? = some (afterN hs (ps.take i)) := by
  induction ps generalizing hs i with
  | nil =>
    have : i = 0 := by simpa using h
    subst this
    rfl
  | cons p ps ih =>
    cases i with
    | zero => rfl
    | succ i => exact ih (callN hs p) i (by simpa using h)
theorem story_get (hs : Hands) (ps : List Nat) (i : Nat) (h : i < (storyN hs ps).length) : (storyN hs ps)[i] = afterN hs (ps.take i) := by
  have h2 : i ≤ ps.length := by rw [story_len] at h; omega
  have e := story_at hs ps i h2
  rw [List.getElem?_eq_getElem h] at e
  exact Option.some.inj e
theorem w_put_away (hk : 5 ≤ k) {hs : Hands} (H : Ok hs) {ps : List Nat} (hp : Row hs.length ps) : callD PM k 9 [cH.e hs, (cT cN).e ps] = .ok ((cT (cT cN)).e (putN hs ps), []) := by
  obtain ⟨j, rfl⟩ : ∃ j, k = j + 5 := ⟨k - 5, by omega⟩
  rw [call_s p_put_away rfl]
  simp [d_put_away, w_need_hands _ H, w_need_calls _ H hp, w_story_in _ H hp]
  rw [enumN_eq (0 : Nat)]
  refine forF_idxB (cP cN cN) (fun n => [some (cH.e hs), some ((cT cN).e ps), some ((cL cH).e (storyN hs ps)), some ((cL (cT cN)).e (putN hs (ps.take n))), none, none, none, none]) rfl (fun n hn => ?_) ?_
  · have hn : n < ps.length := by simpa using hn
    have h1 : ps[n] < hs.length := hp.2 _ (List.getElem_mem hn)
    have h2 : (afterN hs (ps.take n)).length = hs.length := after_len _ _
    have h3 : ps[n] < (afterN hs (ps.take n)).length := by rw [h2]; exact h1
    have h4 : (afterN hs (ps.take n))[ps[n]].length ≤ line := (H.after _).ln h3
    have h5 : (ps.take n).length < line := by rw [List.length_take]; have := hp.1; unfold line; omega
    have h6 : (afterN hs (ps.take (n + 1))) = callN (afterN hs (ps.take n)) ps[n] := by rw [take_snoc _ hn, after_snoc]
    have h7 : min n ps.length < line := by have := hp.1; unfold line; omega
    have h8 : n < ps.length + 1 := by omega
    simp [hn, h8, story_get, h1, h4, h7]
    simp only [take_snoc _ hn, after_snoc, put_snoc]
    simp [h3, h1]
  · simp
theorem w_end_of (hk : 5 ≤ k) {hs : Hands} (H : Ok hs) {ps : List Nat} (hp : ps.Perm (List.range hs.length)) : callD PM k 78 [cH.e hs, (cT cN).e ps] = .ok (cH.e (afterN hs ps), []) := by
  obtain ⟨j, rfl⟩ : ∃ j, k = j + 5 := ⟨k - 5, by omega⟩
  have hr : Row hs.length ps := ⟨by rw [hp.length_eq, List.length_range]; have := H.le; omega, fun p h => List.mem_range.mp (hp.mem_iff.mp h)⟩
  rw [call_s p_end_of rfl]
  simp [d_end_of, w_need_hands _ H, w_need_order _ H hp, w_story_in _ H hr, story_ne, story_last]
theorem w_restricted (hk : 5 ≤ k) {hs : Hands} (H : Ok hs) {p : Nat} (hp : p < hs.length) : callD PM k 280 [cH.e hs, cN.e p] = .ok (cH.e (partN hs hs[p]), []) := by
  obtain ⟨j, rfl⟩ : ∃ j, k = j + 5 := ⟨k - 5, by omega⟩
  rw [call_s p_restricted rfl]
  simp [d_restricted, w_need_hands _ H, w_need_person _ hp, hp]
  refine gd_fin2 (fun h hh => ln_filter (H.hd h hh).line) (gd_fin2 H.line ?_)
  rfl
/-- something in common -/
def shareN (hs : Hands) (a b : Nat) : Bool := (hs[a]?.getD []).any fun t => decide (t ∈ hs[b]?.getD [])
def pairF (hs : Hands) (a : Nat) (n : Nat) : List (Nat × Nat) := ((List.range' (a + 1) n).filter fun b => shareN hs a b).map fun b => (a, b)
def pairsN (hs : Hands) : List (Nat × Nat) := (List.range hs.length).flatMap fun a => pairF hs a (hs.length - (a + 1))
theorem pairF_len (hs : Hands) (a n : Nat) : (pairF hs a n).length ≤ n := by
  unfold pairF
  rw [List.length_map]
  exact Nat.le_trans (List.length_filter_le _ _) (by rw [List.length_range']; exact Nat.le_refl _)
theorem flat_le {α β : Type} (f : α → List β) (m : Nat) : ∀ l : List α, (∀ x ∈ l, (f x).length ≤ m) → (l.flatMap f).length ≤ l.length * m
  | [], _ => Nat.zero_le _
  | x :: l, h => by
    have h1 := h x List.mem_cons_self
    have h2 := flat_le f m l fun y hy => h y (List.mem_cons_of_mem _ hy)
    rw [List.flatMap_cons, List.length_append, List.length_cons, Nat.succ_mul]
    omega
theorem pairF_snoc (hs : Hands) (a n : Nat) : pairF hs a (n + 1) = pairF hs a n ++ if shareN hs a (a + 1 + n) = true then [(a, a + 1 + n)] else [] := by
  unfold pairF
  rw [List.range'_concat, List.filter_append, List.map_append]
  congr 1
  simp only [Nat.one_mul]
  by_cases h : shareN hs a (a + 1 + n) = true
  · rw [List.filter_cons_of_pos h, if_pos h]; rfl
  · rw [List.filter_cons_of_neg h, if_neg h]; rfl
theorem w_pairs_in (hk : 1 ≤ k) {hs : Hands} (H : Ok hs) : callD PM k 128 [cH.e hs] = .ok ((cL (cP cN cN)).e (pairsN hs), []) := by
  obtain ⟨j, rfl⟩ : ∃ j, k = j + 1 := ⟨k - 1, by omega⟩
  rw [call_s p_pairs_in rfl]
  have hl := H.le
  simp [d_pairs_in, H.le9]
  refine forF_rng (fun n => [some (cH.e hs), some ((cL (cP cN cN)).e ((List.range n).flatMap fun a => pairF hs a (hs.length - (a + 1)))), none, none, none]) rfl (fun n hn => ?_) ?_
  · have h1 : n + 1 ≤ big9 := le_big9 (by omega)
    have hb : ((List.range n).flatMap fun a => pairF hs a (hs.length - (a + 1))).length ≤ 49 := by
      refine Nat.le_trans (flat_le _ 7 _ fun a _ => Nat.le_trans (pairF_len ..) (by omega)) ?_
      rw [List.length_range]
      omega
    simp [H.le9, h1]
    refine forF_rng' (fun m => [some (cH.e hs), some ((cL (cP cN cN)).e (((List.range n).flatMap fun a => pairF hs a (hs.length - (a + 1))) ++ pairF hs n m)), some (cN.e n), none, none]) (by simp [pairF]) (fun m hm => ?_) ?_
    · have h2 : n + 1 + m < hs.length := by omega
      have h3 : hs[n].length ≤ line := H.ln hn
      have h4 := pairF_len hs n m
      have h5 : (((List.range n).flatMap fun a => pairF hs a (hs.length - (a + 1))) ++ pairF hs n m).length < line := by rw [List.length_append]; exact lt_line (by omega)
      have h6 := h5
      rw [List.length_append, List.length_flatMap] at h6
      rw [pairF_snoc]
      cases hc : shareN hs n (n + 1 + m) with
      | true =>
        have hc2 : (hs[n].any fun x => decide (x ∈ hs[n + 1 + m])) = true := by simpa only [shareN, List.getElem?_eq_getElem hn, List.getElem?_eq_getElem h2, Option.getD_some] using hc
        simp [hn, h2, h3, hc2, h6]
      | false =>
        have hc2 : (hs[n].any fun x => decide (x ∈ hs[n + 1 + m])) = false := by simpa only [shareN, List.getElem?_eq_getElem hn, List.getElem?_eq_getElem h2, Option.getD_some] using hc
        simp [hn, h2, h3, hc2]
    · simp [List.range_succ]
  · simp [pairsN]
theorem pairs_len (hs : Hands) (h : hs.length ≤ 7) : (pairsN hs).length ≤ 49 := by
  unfold pairsN
  refine Nat.le_trans (flat_le _ 7 _ fun a _ => Nat.le_trans (pairF_len ..) (by omega)) ?_
  rw [List.length_range]
  omega
theorem w_pairs (hk : 5 ≤ k) {hs : Hands} (H : Ok hs) : callD PM k 129 [cH.e hs] = .ok ((cT (cP cN cN)).e (pairsN hs), []) := by
  obtain ⟨j, rfl⟩ : ∃ j, k = j + 5 := ⟨k - 5, by omega⟩
  rw [call_s p_pairs rfl]
  simp [d_pairs, w_need_hands _ H, w_pairs_in _ H]
end
/-! ### things alone -/
theorem part_at (hs : Hands) (S : List Nat) (p : Nat) : (partN hs S)[p]?.getD [] = (hs[p]?.getD []).filter fun t => decide (t ∈ S) := by
  unfold partN
  rw [List.getElem?_map]
  cases hs[p]? <;> rfl
@[simp] theorem part_len (hs : Hands) (S : List Nat) : (partN hs S).length = hs.length := by unfold partN; rw [List.length_map]
theorem hold_part {hs : Hands} {S : List Nat} {t : Nat} (h : t ∈ S) : holdN (partN hs S) t = holdN hs t := by
  unfold holdN
  rw [part_len]
  refine List.filter_congr fun p _ => ?_
  rw [part_at]
  simp [h]
theorem spare_part {hs : Hands} {S : List Nat} (p : Nat) : spareN (partN hs S) p = (spareN hs p).filter fun t => decide (t ∈ S) := by
  unfold spareN
  rw [part_at, List.filter_filter, List.filter_filter]
  refine List.filter_congr fun t _ => ?_
  by_cases h : t ∈ S
  · rw [hold_part h]; simp [h]
  · simp [h]
theorem call_part (hs : Hands) (S : List Nat) (p : Nat) : callN (partN hs S) p = partN (callN hs p) S := by
  unfold callN
  rw [part_at, spare_part]
  unfold partN
  rw [List.map_set]
  congr 1
  rw [List.filter_filter, List.filter_filter]
  refine List.filter_congr fun t _ => ?_
  by_cases h : t ∈ S <;> simp [h]
theorem after_part (hs : Hands) (S ps : List Nat) : afterN (partN hs S) ps = partN (afterN hs ps) S := by
  induction ps generalizing hs with
  | nil => rfl
  | cons p ps ih =>
    show afterN (callN (partN hs S) p) ps = partN (afterN (callN hs p) ps) S
    rw [call_part, ih]
theorem story_part (hs : Hands) (S ps : List Nat) : storyN (partN hs S) ps = (storyN hs ps).map fun h => partN h S := by
  induction ps generalizing hs with
  | nil => rfl
  | cons p ps ih => rw [storyN, storyN, List.map_cons, call_part, ih]
theorem put_part (hs : Hands) (S ps : List Nat) : putN (partN hs S) ps = (putN hs ps).map fun l => l.filter fun t => decide (t ∈ S) := by
  induction ps generalizing hs with
  | nil => rfl
  | cons p ps ih =>
    rw [putN, putN, List.map_cons, call_part, ih, part_at, part_at]
    congr 1
    rw [List.filter_filter, List.filter_filter]
    refine List.filter_congr fun t _ => ?_
    by_cases h : t ∈ S <;> simp [h]
theorem things_part (hs : Hands) (S : List Nat) : thingsN (partN hs S) = (thingsN hs).filter fun t => decide (t ∈ S) := by
  refine asc_ext (things_asc _) ((things_asc _).filter _) fun t => ?_
  rw [mem_things, List.mem_filter, mem_things]
  unfold partN
  constructor
  · rintro ⟨h, hh, ht⟩
    obtain ⟨g, hg, rfl⟩ := List.mem_map.mp hh
    obtain ⟨h1, h2⟩ := List.mem_filter.mp ht
    exact ⟨⟨g, hg, h1⟩, h2⟩
  · rintro ⟨⟨g, hg, h1⟩, h2⟩
    exact ⟨_, List.mem_map_of_mem hg, List.mem_filter.mpr ⟨h1, h2⟩⟩
theorem last_part {hs : Hands} {ps : List Nat} {t : Nat} : lastN (partN hs [t]) ps t = lastN hs ps t := by
  unfold lastN
  rw [after_part, hold_part (by simp)]
theorem mem_pairs {hs : Hands} {a b : Nat} : (a, b) ∈ pairsN hs ↔ a < b ∧ b < hs.length ∧ shareN hs a b = true := by
  unfold pairsN pairF
  simp only [List.mem_flatMap, List.mem_range, List.mem_map, List.mem_filter, List.mem_range', Prod.mk.injEq]
  constructor
  · rintro ⟨x, hx, y, ⟨⟨i, hi, rfl⟩, h2⟩, rfl, rfl⟩
    exact ⟨by omega, by omega, h2⟩
  · rintro ⟨h1, h2, h3⟩
    exact ⟨a, by omega, b, ⟨⟨b - (a + 1), by omega, by omega⟩, h3⟩, rfl, rfl⟩
theorem share_iff {hs : Hands} {a b : Nat} : shareN hs a b = true ↔ ∃ t, t ∈ hs[a]?.getD [] ∧ t ∈ hs[b]?.getD [] := by
  unfold shareN
  rw [List.any_eq_true]
  simp
theorem pairs_part {hs : Hands} {S : List Nat} {p : Nat × Nat} (h : p ∈ pairsN (partN hs S)) : p ∈ pairsN hs := by
  obtain ⟨a, b⟩ := p
  rw [mem_pairs] at h ⊢
  rw [part_len, share_iff] at h
  obtain ⟨h1, h2, t, h3, h4⟩ := h
  rw [part_at] at h3 h4
  exact ⟨h1, h2, share_iff.mpr ⟨t, (List.mem_filter.mp h3).1, (List.mem_filter.mp h4).1⟩⟩
end Ev
end

section
set_option linter.all false
set_option autoImplicit false
set_option maxRecDepth 10000
/-! Pd: draws. -/
namespace Ev
open T
open PySem (Str PyData)
/-- a law's row: script, place, mixed number, a great cell's rest -/
def RowOk (r : AV) : Prop := ∃ (ns : List Int) (i s t : Int), r = .list [.list (ns.map .int), .int i, .int s, .int t] ∧ ns.length ≤ 63 ∧ 0 ≤ i ∧ 0 ≤ s ∧ s < 2147483647
section
variable {k : Nat}
theorem fmodN (x : Int) {m : Nat} (h : 0 < m) : ∃ v : Nat, v < m ∧ x.fmod (m : Int) = (v : Int) := by
  have h1 := Int.fmod_nonneg_of_pos x (b := (m : Int)) (by omega)
  have h2 := Int.fmod_lt_of_pos x (b := (m : Int)) (by omega)
  exact ⟨(x.fmod m).toNat, by omega, by omega⟩
theorem mod_Z (x : Int) {m : Nat} (h : 0 < m) : binop .mod (.int x) (.int (m : Int)) = .ok (.int (x.fmod m)) := by
  rw [binop, decide_eq_true (by omega)]
  rfl
theorem div_Z (x : Int) {m : Nat} (h : 0 < m) (h2 : m < 1073741824) : binop .fdiv (.int x) (.int (m : Int)) = .ok (.int (x.fdiv m)) := by
  rw [binop, decide_eq_true (by omega), decide_eq_true (by omega)]
  rfl
theorem mul_Z (x y : Int) (h : smallI x = true) : binop .mul (.int x) (.int y) = .ok (.int (x * y)) := by
  rw [binop, h]
  rfl
theorem lt_Z (x y : Int) : cmpop .gt (.int x) (.int y) = .ok (.bool (decide (y < x))) := cmp_gt x y
theorem ge_Z (x y : Int) : cmpop .ge (.int x) (.int y) = .ok (.bool (decide (y ≤ x))) := cmp_ge x y
theorem i4_0 (a b c d : AV) : idxop (.list [a, b, c, d]) (.int 0) = .ok a := rfl
theorem i4_1 (a b c d : AV) : idxop (.list [a, b, c, d]) (.int 1) = .ok b := rfl
theorem i4_2 (a b c d : AV) : idxop (.list [a, b, c, d]) (.int 2) = .ok c := rfl
theorem i4_3 (a b c d : AV) : idxop (.list [a, b, c, d]) (.int 3) = .ok d := rfl
theorem s4_1 (a b c d v : AV) : setV (.list [a, b, c, d]) (.int 1) v = .ok (.list [a, v, c, d]) := rfl
theorem s4_2 (a b c d v : AV) : setV (.list [a, b, c, d]) (.int 2) v = .ok (.list [a, b, v, d]) := rfl
theorem s4_3 (a b c d v : AV) : setV (.list [a, b, c, d]) (.int 3) v = .ok (.list [a, b, c, v]) := rfl
theorem fin_l (v : AV) (xs : List AV) (env : Env) : finD [0] (.rt v (some (.list xs) :: env)) = .ok (v, [.list xs]) := rfl
theorem int_i (x : Int) : bltop .int [.int x] = .ok (.int x) := rfl
theorem len_i (ns : List Int) : bltop .len [.list (ns.map .int)] = .ok (.int (ns.length : Int)) := by rw [bltop, List.length_map]
theorem pow_i : binop .pow (.int 10) (.int 18) = .ok (.int 1000000000000000000) := by
  rw [binop]
  simp [smallI, big, -il_1, -il_10, -il_18]
theorem mod_p (x : Int) : binop .mod (.int x) (.int 2147483647) = .ok (.int (x.fmod 2147483647)) := rfl
theorem div_7 (x : Int) : binop .fdiv (.int x) (.int 7) = .ok (.int (x.fdiv 7)) := rfl
theorem idx_ns (ns : List Int) (i : Int) (h : 0 ≤ i) (h2 : i < ns.length) : ∃ c, idxop (.list (ns.map .int)) (.int i) = .ok (.int c) := by
  obtain ⟨n, rfl⟩ := Int.eq_ofNat_of_zero_le h
  have hn : n < ns.length := by omega
  refine ⟨ns[n], ?_⟩
  rw [idxop, List.length_map, ixOf_N _ _ hn]
  dsimp only
  rw [List.getElem?_map, List.getElem?_eq_getElem hn]
  rfl
theorem taken_ok (hk : 1 ≤ k) {r : AV} (hr : RowOk r) {m : Nat} (h0 : 0 < m) (h1 : m < 1073741824) : ∃ (v : Nat) (r' : AV), v < m ∧ RowOk r' ∧ callD PM k 305 [r, cN.e m] = .ok (cN.e v, [r']) := by
  obtain ⟨j, rfl⟩ : ∃ j, k = j + 1 := ⟨k - 1, by omega⟩
  obtain ⟨ns, i, s, t, rfl, hn, hi, hs, hs2⟩ := hr
  have hsm : smallI s = true := by
    unfold smallI big
    rw [decide_eq_true (by omega), decide_eq_true (by omega)]
    rfl
  rw [call_s p__law_taken rfl, cN_e]
  have ms : ∀ x : Int, 0 ≤ x.fmod 2147483647 ∧ x.fmod 2147483647 < 2147483647 := fun x => ⟨Int.fmod_nonneg_of_pos x (by omega), Int.fmod_lt_of_pos x (by omega)⟩
  by_cases ht : 0 < t
  · obtain ⟨v, hv, ev⟩ := fmodN t h0
    refine ⟨v, .list [.list (ns.map .int), .int i, .int s, .int (t.fdiv m)], hv, ⟨ns, i, s, _, rfl, hn, hi, hs, hs2⟩, ?_⟩
    rw [cN_e, ← ev]
    simp [d__law_taken, -il_0, -il_1, -il_2, -il_3, -il_7, -il_10, -il_11, -il_18, -il_48271, -il_2147483647, -int_cast, i4_0, i4_1, i4_2, i4_3, s4_1, s4_2, s4_3, fin_l, int_i, lt_Z, ht, mod_Z _ h0, div_Z _ h0 h1]
  · by_cases hlen : (ns.length : Int) < i + 1
    · obtain ⟨v, hv, ev⟩ := fmodN (((s * 48271 + 11).fmod 2147483647).fdiv 7) h0
      refine ⟨v, .list [.list (ns.map .int), .int (i + 1), .int ((s * 48271 + 11).fmod 2147483647), .int t], hv, ⟨ns, _, _, _, rfl, hn, by omega, (ms _).1, (ms _).2⟩, ?_⟩
      rw [cN_e, ← ev]
      simp [d__law_taken, -il_0, -il_1, -il_2, -il_3, -il_7, -il_10, -il_11, -il_18, -il_48271, -il_2147483647, -int_cast, i4_0, i4_1, i4_2, i4_3, s4_1, s4_2, s4_3, fin_l, int_i, lt_Z, ht, mod_Z _ h0, hlen, len_i, mul_Z _ _ hsm, mod_p, div_7]
    · obtain ⟨c, ec⟩ := idx_ns ns i hi (by omega)
      have ec2 : idxop (.list (ns.map .int)) (.int (i + 1 - 1)) = .ok (.int c) := by rw [show i + 1 - 1 = i by omega]; exact ec
      obtain ⟨v, hv, ev⟩ := fmodN c h0
      by_cases hc : (1000000000000000000 : Int) ≤ c
      · refine ⟨v, .list [.list (ns.map .int), .int (i + 1), .int ((s * 48271 + c + 11).fmod 2147483647), .int (c.fdiv m)], hv, ⟨ns, _, _, _, rfl, hn, by omega, (ms _).1, (ms _).2⟩, ?_⟩
        rw [cN_e, ← ev]
        simp [d__law_taken, -il_0, -il_1, -il_2, -il_3, -il_7, -il_10, -il_11, -il_18, -il_48271, -il_2147483647, -int_cast, i4_0, i4_1, i4_2, i4_3, s4_1, s4_2, s4_3, fin_l, int_i, lt_Z, ge_Z, ht, mod_Z _ h0, div_Z _ h0 h1, hlen, len_i, mul_Z _ _ hsm, mod_p, div_7, ec, pow_i, hc]
      · refine ⟨v, .list [.list (ns.map .int), .int (i + 1), .int ((s * 48271 + c + 11).fmod 2147483647), .int t], hv, ⟨ns, _, _, _, rfl, hn, by omega, (ms _).1, (ms _).2⟩, ?_⟩
        rw [cN_e, ← ev]
        simp [d__law_taken, -il_0, -il_1, -il_2, -il_3, -il_7, -il_10, -il_11, -il_18, -il_48271, -il_2147483647, -int_cast, i4_0, i4_1, i4_2, i4_3, s4_1, s4_2, s4_3, fin_l, int_i, lt_Z, ge_Z, ht, mod_Z _ h0, div_Z _ h0 h1, hlen, len_i, mul_Z _ _ hsm, mod_p, div_7, ec, pow_i, hc]
theorem RowOk.mu {r : AV} : RowOk r → mutA r = true := fun ⟨_, _, _, _, e, _⟩ => by rw [e]; rfl
theorem taken_Ex {γ : Type} {K : AV × List AV → R γ} {p : γ → Prop} (hk : 1 ≤ k) {r : AV} (hr : RowOk r) {m : Nat} (h0 : 0 < m) (h1 : m < 1073741824) (h : ∀ v r', v < m → RowOk r' → Ex (K (cN.e v, [r'])) p) : Ex (callD PM k 305 [r, cN.e m] >>= K) p := by
  obtain ⟨v, r', hv, hr', e⟩ := taken_ok hk hr h0 h1
  rw [e, R.ok_bind]
  exact h v r' hv hr'
theorem fin_io {v r : AV} {env : Env} (h : mutA r = true) : finD [0] (.rt v (some r :: env)) = .ok (v, [r]) := by
  show (outsOf (some r :: env) [0] >>= fun os => R.ok (v, os)) = _
  have e : outsOf (some r :: env) [0] = .ok [r] := by
    show (if mutA r = true then R.ok (r :: []) else .bad) = _
    rw [if_pos h]
  rw [e]
  rfl
/-- drawn hands: of at most so many people, of things below a number -/
structure Drawn (np nk : Nat) (hs : Hands) : Prop where
  pos : 0 < hs.length
  le : hs.length ≤ np
  hd : ∀ h ∈ hs, h.Pairwise (· < ·) ∧ ∀ t ∈ h, t < nk
theorem Drawn.ok {np nk : Nat} {hs : Hands} (h : Drawn np nk hs) (h1 : np ≤ 7) (h2 : nk ≤ 8) : Ok hs := ⟨h.pos, Nat.le_trans h.le h1, fun x hx => ⟨(h.hd x hx).1, fun t ht => Nat.lt_of_lt_of_le ((h.hd x hx).2 t ht) h2⟩⟩
theorem sel_asc {n : Nat} {sel : List Nat} (h : sel.Sublist (List.range n)) : sel.Pairwise (· < ·) ∧ ∀ t ∈ sel, t < n := ⟨List.pairwise_lt_range.sublist h, fun t ht => List.mem_range.mp (h.subset ht)⟩
theorem hands_Ex {γ : Type} {K : AV × List AV → R γ} {p : γ → Prop} (hk : 2 ≤ k) {r : AV} (hr : RowOk r) {np nk : Nat} (h0 : 0 < np) (h1 : np ≤ 7) (h2 : nk ≤ 8)
    (h : ∀ hs r', Drawn np nk hs → RowOk r' → Ex (K (cH.e hs, [r'])) p) : Ex (callD PM k 307 [r, cN.e np, cN.e nk] >>= K) p := by
  obtain ⟨j, rfl⟩ : ∃ j, k = j + 2 := ⟨k - 2, by omega⟩
  rw [call_s p__law_hands rfl]
  simp [d__law_hands, tmpL_mu hr.mu]
  refine taken_Ex (by omega) hr h0 (by omega) fun m r1 hm hr1 => ?_
  simp [tmpL_mu hr1.mu]
  refine taken_Ex (by omega) hr1 (by omega) (by omega) fun sz r2 hsz hr2 => ?_
  simp [tmpL_mu hr2.mu]
  refine taken_Ex (by omega) hr2 (by omega) (by omega) fun ra r3 hra hr3 => ?_
  have g1 : 1 + m ≤ big9 := le_big9 (by omega)
  simp [g1]
  refine forF_Ex cN (σ := AV × Hands) (fun q => [some q.1, some (cN.e np), some (cN.e nk), some (cN.e (1 + ra)), none, some (cN.e (1 + m)), some (cN.e sz), some ((cL (cT cN)).e q.2), none]) (fun n q => RowOk q.1 ∧ q.2.length = n ∧ ∀ h ∈ q.2, h.Pairwise (· < ·) ∧ ∀ t ∈ h, t < nk) (r3, []) rfl ⟨hr3, rfl, fun h hh => by cases hh⟩ ?_ ?_
  · rintro n hn x hx ⟨r4, found⟩ ⟨hr4, hl, hf⟩ p' hp'
    rw [List.length_range] at hn
    have g2 : sz ≤ big9 := le_big9 (by omega)
    simp [g2]
    refine pick_Ex cN cN (σ := AV × Option AV) (fun q => [some q.1, some (cN.e np), some (cN.e nk), some (cN.e (1 + ra)), some (cN.e x), some (cN.e (1 + m)), some (cN.e sz), some ((cL (cT cN)).e found), q.2]) (fun q => RowOk q.1) (fun t => t) (r4, none) rfl hr4 ?_ ?_
    · rintro t ht ⟨r5, o⟩ hr5 p2 hy hn
      simp [tmpL_mu (RowOk.mu hr5)]
      refine taken_Ex (by omega) hr5 (by omega) (by omega) fun v r6 hv hr6 => ?_
      simp
      by_cases hv0 : v = 0
      · simp [hv0]
        exact hy (r6, _) hr6
      · simp [hv0]
        exact hn (r6, _) hr6
    · rintro sel ⟨r5, o⟩ hr5 hsub
      rw [List.map_id'] at hsub
      have g3 : sel.length ≤ line := line_of (by have := hsub.length_le; rw [List.length_range] at this; omega)
      have g4 : found.length < line := by have : found.length = n := hl; unfold line; omega
      simp [g3, g4]
      refine hp' (r5, found ++ [sel]) ⟨hr5, ?_, fun h hh => ?_⟩
      · show (found ++ [sel]).length = n + 1
        rw [List.length_append, show found.length = n from hl]
        rfl
      · rcases List.mem_append.mp hh with hh | hh
        · exact hf h hh
        · rw [List.mem_singleton.mp hh]
          exact ⟨List.pairwise_lt_range.sublist hsub, fun t ht => by have := List.mem_range.mp (hsub.subset ht); omega⟩
  · rintro ⟨r4, found⟩ ⟨hr4, hl, hf⟩
    rw [List.length_range] at hl
    simp [fin_io (RowOk.mu hr4)]
    exact h found r4 ⟨by rw [hl]; omega, by rw [hl]; omega, hf⟩ hr4
theorem row_Ex {γ : Type} {K : AV × List AV → R γ} {p : γ → Prop} (hk : 2 ≤ k) {r : AV} (hr : RowOk r) {hs : Hands} (H : Ok hs) {n : Nat} (hn : n ≤ 60)
    (h : ∀ ps r', ps.length ≤ n → (∀ q ∈ ps, q < hs.length) → RowOk r' → Ex (K ((cT cN).e ps, [r'])) p) : Ex (callD PM k 312 [r, cH.e hs, cN.e n] >>= K) p := by
  obtain ⟨j, rfl⟩ : ∃ j, k = j + 2 := ⟨k - 2, by omega⟩
  rw [call_s p__law_row rfl]
  simp [d__law_row, tmpL_mu hr.mu]
  refine taken_Ex (by omega) hr (by omega) (by omega) fun m r1 hm hr1 => ?_
  have g1 : m ≤ big9 := le_big9 (by omega)
  simp [g1]
  refine each_Ex cN cN (σ := AV × Option AV) (fun q => [some q.1, some (cH.e hs), some (cN.e n), q.2]) (fun q => RowOk q.1) (fun _ y => y < hs.length) (r1, none) rfl hr1 ?_ ?_
  · rintro t ht ⟨r5, o⟩ hr5 p2 hy
    simp [tmpL_mu (RowOk.mu hr5)]
    refine taken_Ex (by omega) hr5 H.pos (by have := H.le; omega) fun v r6 hv hr6 => ?_
    simp
    exact hy v (r6, _) hr6 hv
  · rintro ys ⟨r5, o⟩ hr5 hl hG
    rw [List.length_range] at hl
    have g2 : ys.length ≤ line := line_of (by omega)
    simp [g2, fin_io (RowOk.mu hr5)]
    refine h ys r5 (by omega) (fun q hq => ?_) hr5
    obtain ⟨i, hi, rfl⟩ := List.getElem_of_mem hq
    exact hG ((List.range m)[i]'(by rw [List.length_range]; omega), ys[i]) (by
      rw [List.mem_iff_getElem]
      exact ⟨i, by rw [List.length_zip, List.length_range]; omega, by simp⟩)
theorem erase_perm {α : Type} : ∀ {l : List α} {v : Nat} (h : v < l.length), (l[v] :: l.eraseIdx v).Perm l
  | x :: l, 0, _ => .refl _
  | x :: l, v + 1, h => by
    have h : v < l.length := by simpa using h
    show (l[v] :: x :: l.eraseIdx v).Perm (x :: l)
    exact (List.Perm.swap x l[v] _).trans ((erase_perm h).cons x)
theorem order_Ex {γ : Type} {K : AV × List AV → R γ} {p : γ → Prop} (hk : 2 ≤ k) {r : AV} (hr : RowOk r) {n : Nat} (hn : n ≤ 60)
    (h : ∀ ps r', ps.Perm (List.range n) → RowOk r' → Ex (K ((cT cN).e ps, [r'])) p) : Ex (callD PM k 335 [r, cN.e n] >>= K) p := by
  obtain ⟨j, rfl⟩ : ∃ j, k = j + 2 := ⟨k - 2, by omega⟩
  rw [call_s p__law_order rfl]
  have g1 : n ≤ big9 := le_big9 (by omega)
  simp [d__law_order, lrng1_N n (by omega), g1]
  refine forF_Ex cN (σ := AV × List Nat × List Nat) (fun q => [some q.1, some (cN.e n), none, some ((cL cN).e q.2.1), some ((cL cN).e q.2.2)]) (fun m q => RowOk q.1 ∧ (q.2.2 ++ q.2.1).Perm (List.range n) ∧ q.2.2.length = m) (r, List.range n, []) rfl ⟨hr, .refl _, rfl⟩ ?_ ?_
  · rintro m hm x hx ⟨r4, left, found⟩ ⟨hr4, hp, hl⟩ p' hp'
    rw [List.length_range] at hm
    have hl : found.length = m := hl
    have hp : (found ++ left).Perm (List.range n) := hp
    have hlen : found.length + left.length = n := by rw [← List.length_append, hp.length_eq, List.length_range]
    simp [tmpL_mu (RowOk.mu hr4)]
    refine taken_Ex (by omega) hr4 (m := left.length) (by omega) (by omega) fun v r6 hv hr6 => ?_
    have g2 : found.length < line := by unfold line; omega
    simp [hv, g2]
    refine hp' (r6, left.eraseIdx v, found ++ [left[v]]) ⟨hr6, ?_, ?_⟩
    · show ((found ++ [left[v]]) ++ left.eraseIdx v).Perm (List.range n)
      rw [List.append_assoc]
      exact ((erase_perm hv).append_left found).trans hp
    · show (found ++ [left[v]]).length = m + 1
      rw [List.length_append, hl]
      rfl
  · rintro ⟨r4, left, found⟩ ⟨hr4, hp, hl⟩
    rw [List.length_range] at hl
    simp [fin_io (RowOk.mu hr4)]
    have hlen : found.length + left.length = n := by
      have := hp.length_eq
      rw [List.length_append, List.length_range] at this
      exact this
    have h0 : left = [] := List.eq_nil_of_length_eq_zero (by have : found.length = n := hl; omega)
    subst h0
    refine h found r4 ?_ hr4
    rw [← List.append_nil found]
    exact hp
end
end Ev
end

section
set_option linter.all false
set_option autoImplicit false
/-! Ma: rows by the order of first calls. -/
namespace Ev
/-- a call, as the holders of one thing see it -/
def stepH (L : List Nat) (p : Nat) : List Nat := if p ∈ L ∧ 1 < L.length then L.filter fun q => decide (q ≠ p) else L
theorem hold_nodup (hs : Hands) (t : Nat) : (holdN hs t).Nodup := List.nodup_range.filter _
theorem hold_asc (hs : Hands) (t : Nat) : (holdN hs t).Pairwise (· < ·) := List.pairwise_lt_range.filter _
theorem call_at (hs : Hands) (p q : Nat) : (callN hs p)[q]?.getD [] = if q = p then (hs[p]?.getD []).filter fun t => decide (t ∉ spareN hs p) else hs[q]?.getD [] := by
  unfold callN
  by_cases h : q = p
  · subst h
    rw [if_pos rfl]
    by_cases hq : q < hs.length
    · simp [hq]
    · rw [List.getElem?_eq_none (by rw [List.length_set]; omega), List.getElem?_eq_none (by omega)]; rfl
  · rw [if_neg h, List.getElem?_set_ne (fun z => h z.symm)]
theorem mem_spare {hs : Hands} {p t : Nat} : t ∈ spareN hs p ↔ t ∈ hs[p]?.getD [] ∧ 1 < (holdN hs t).length := by
  unfold spareN
  rw [List.mem_filter, decide_eq_true_iff]
theorem lt_of_mem_at {hs : Hands} {p t : Nat} (h : t ∈ hs[p]?.getD []) : p < hs.length := by
  by_cases hp : p < hs.length
  · exact hp
  · rw [List.getElem?_eq_none (by omega)] at h; cases h
theorem hold_call (hs : Hands) (p t : Nat) : holdN (callN hs p) t = stepH (holdN hs t) p := by
  unfold stepH
  by_cases h : p ∈ holdN hs t ∧ 1 < (holdN hs t).length
  · rw [if_pos h]
    refine asc_ext (hold_asc _ _) ((hold_asc _ _).filter _) fun q => ?_
    rw [mem_hold, call_len, call_at, List.mem_filter, mem_hold, decide_eq_true_iff]
    have hp := (mem_hold.mp h.1).2
    by_cases hq : q = p
    · subst hq
      rw [if_pos rfl, List.mem_filter, decide_eq_true_iff, mem_spare]
      constructor
      · rintro ⟨_, _, h2⟩
        exact absurd ⟨hp, h.2⟩ h2
      · rintro ⟨_, h2⟩
        exact absurd rfl h2
    · rw [if_neg hq]
      exact ⟨fun z => ⟨z, hq⟩, fun z => z.1⟩
  · rw [if_neg h]
    refine asc_ext (hold_asc _ _) (hold_asc _ _) fun q => ?_
    rw [mem_hold, call_len, call_at, mem_hold]
    by_cases hq : q = p
    · subst hq
      rw [if_pos rfl, List.mem_filter, decide_eq_true_iff, mem_spare]
      constructor
      · rintro ⟨h1, h2, _⟩
        exact ⟨h1, h2⟩
      · rintro ⟨h1, h2⟩
        exact ⟨h1, h2, fun z => h ⟨mem_hold.mpr ⟨h1, h2⟩, z.2⟩⟩
    · rw [if_neg hq]
theorem hold_after (hs : Hands) (ps : List Nat) (t : Nat) : holdN (afterN hs ps) t = ps.foldl stepH (holdN hs t) := by
  induction ps generalizing hs with
  | nil => rfl
  | cons p ps ih =>
    show holdN (afterN (callN hs p) ps) t = _
    rw [ih, hold_call]
    rfl
/-- the people of a row in the order of their first calls -/
def firstsN : List Nat → List Nat
  | [] => []
  | p :: ps => p :: (firstsN ps).filter fun q => decide (q ≠ p)
@[simp] theorem mem_firsts {p : Nat} : ∀ {ps : List Nat}, p ∈ firstsN ps ↔ p ∈ ps
  | [] => Iff.rfl
  | q :: ps => by
    rw [firstsN, List.mem_cons, List.mem_filter, mem_firsts, List.mem_cons, decide_eq_true_iff]
    by_cases h : p = q <;> simp [h]
theorem firsts_nodup : ∀ ps : List Nat, (firstsN ps).Nodup
  | [] => List.nodup_nil
  | p :: ps => by
    rw [firstsN, List.nodup_cons, List.mem_filter]
    exact ⟨fun h => by simpa using h.2, (firsts_nodup ps).filter _⟩
theorem firsts_of_nodup : ∀ {ps : List Nat}, ps.Nodup → firstsN ps = ps
  | [], _ => rfl
  | p :: ps, h => by
    obtain ⟨h1, h2⟩ := List.nodup_cons.mp h
    rw [firstsN, firsts_of_nodup h2, List.filter_eq_self.mpr]
    intro q hq
    rw [decide_eq_true_iff]
    rintro rfl
    exact h1 hq
theorem firsts_idem (ps : List Nat) : firstsN (firstsN ps) = firstsN ps := firsts_of_nodup (firsts_nodup ps)
/-- who holds a thing in the end -/
def dueN (L ps : List Nat) : List Nat :=
  if (L.filter fun q => decide (q ∉ ps)) = [] then ((firstsN ps).filter fun q => decide (q ∈ L)).getLast?.toList else L.filter fun q => decide (q ∉ ps)
theorem due_step {L : List Nat} (hL : L ≠ []) (hn : L.Nodup) (p : Nat) (ps : List Nat) : dueN L (p :: ps) = dueN (stepH L p) ps := by
  unfold stepH
  by_cases hp : p ∈ L
  · by_cases h1 : 1 < L.length
    · rw [if_pos ⟨hp, h1⟩]
      have e1 : (L.filter fun q => decide (q ∉ p :: ps)) = (L.filter fun q => decide (q ≠ p)).filter fun q => decide (q ∉ ps) := by
        rw [List.filter_filter]
        refine List.filter_congr fun q _ => ?_
        by_cases h : q = p <;> simp [h]
      unfold dueN
      rw [e1]
      split
      · rename_i he
        have hne : ∃ q, q ∈ L ∧ q ≠ p := by
          cases L with
          | nil => exact absurd rfl hL
          | cons a L =>
            cases L with
            | nil => simp at h1
            | cons b L =>
              by_cases ha : a = p
              · refine ⟨b, by simp, ?_⟩
                rintro rfl
                rw [ha] at hn
                simp at hn
              · exact ⟨a, by simp, ha⟩
        obtain ⟨q, hq, hqp⟩ := hne
        have hqs : q ∈ ps := by
          have := List.filter_eq_nil_iff.mp he q (List.mem_filter.mpr ⟨hq, by simpa using hqp⟩)
          simpa using this
        have e2 : ((firstsN (p :: ps)).filter fun q => decide (q ∈ L)) = p :: (firstsN ps).filter fun q => decide (q ∈ L.filter fun q => decide (q ≠ p)) := by
          rw [firstsN, List.filter_cons_of_pos (by simpa using hp), List.filter_filter]
          congr 1
          refine List.filter_congr fun r _ => ?_
          by_cases h : r = p <;> simp [h]
        rw [e2]
        have hm : q ∈ (firstsN ps).filter fun q => decide (q ∈ L.filter fun q => decide (q ≠ p)) := by
          rw [List.mem_filter, mem_firsts]
          exact ⟨hqs, by simp [hq, hqp]⟩
        generalize (firstsN ps).filter (fun q => decide (q ∈ L.filter fun q => decide (q ≠ p))) = M at hm ⊢
        cases M with
        | nil => cases hm
        | cons a M => rw [List.getLast?_cons_cons]
      · rfl
    · rw [if_neg fun z => h1 z.2]
      have e : L = [p] := by
        cases L with
        | nil => exact absurd rfl hL
        | cons a L =>
          cases L with
          | nil => rw [List.mem_singleton.mp hp]
          | cons b L => simp at h1
      subst e
      have e2 : ∀ M : List Nat, M.Nodup → p ∈ M → ((M.filter fun q => decide (q ∈ [p])).getLast?.toList) = [p] := by
        intro M hM hpM
        have : (M.filter fun q => decide (q ∈ [p])) = [p] := by
          induction M with
          | nil => cases hpM
          | cons a M ih =>
            obtain ⟨n1, n2⟩ := List.nodup_cons.mp hM
            by_cases ha : a = p
            · subst ha
              rw [List.filter_cons_of_pos (by simp), List.filter_eq_nil_iff.mpr]
              intro b hb
              simp
              rintro rfl
              exact n1 hb
            · rw [List.filter_cons_of_neg (by simpa using ha)]
              exact ih n2 ((List.mem_cons.mp hpM).resolve_left fun z => ha z.symm)
        rw [this]
        rfl
      unfold dueN
      rw [if_pos (by simp), e2 _ (firsts_nodup _) (by simp)]
      by_cases hps : p ∈ ps
      · rw [if_pos (by simp [hps]), e2 _ (firsts_nodup _) (by simpa using hps)]
      · rw [if_neg (by simp [hps])]
        simp [hps]
  · rw [if_neg fun z => hp z.1]
    have e1 : (L.filter fun q => decide (q ∉ p :: ps)) = L.filter fun q => decide (q ∉ ps) := by
      refine List.filter_congr fun q hq => ?_
      have : q ≠ p := by rintro rfl; exact hp hq
      simp [this]
    have e2 : ((firstsN (p :: ps)).filter fun q => decide (q ∈ L)) = (firstsN ps).filter fun q => decide (q ∈ L) := by
      rw [firstsN, List.filter_cons_of_neg (by simpa using hp), List.filter_filter]
      refine List.filter_congr fun r _ => ?_
      by_cases h : r = p <;> simp [h, hp]
    unfold dueN
    rw [e1, e2]
theorem stepH_ok {L : List Nat} (hL : L ≠ []) (hn : L.Nodup) (p : Nat) : stepH L p ≠ [] ∧ (stepH L p).Nodup := by
  unfold stepH
  split
  · rename_i h
    refine ⟨fun z => ?_, hn.filter _⟩
    have : ∀ q ∈ L, q = p := fun q hq => by
      have := List.filter_eq_nil_iff.mp z q hq
      simpa using this
    cases L with
    | nil => exact hL rfl
    | cons a L =>
      cases L with
      | nil => have h2 := h.2; simp at h2
      | cons b L =>
        have ha := this a (by simp)
        have hb := this b (by simp)
        rw [ha, hb] at hn
        simp at hn
  · exact ⟨hL, hn⟩
theorem due_fold : ∀ (ps : List Nat) {L : List Nat}, L ≠ [] → L.Nodup → ps.foldl stepH L = dueN L ps
  | [], L, hL, _ => by
    unfold dueN
    have : (L.filter fun q => decide (q ∉ ([] : List Nat))) = L := List.filter_eq_self.mpr fun q _ => by simp
    rw [this, if_neg hL]
    rfl
  | p :: ps, L, hL, hn => by
    obtain ⟨h1, h2⟩ := stepH_ok hL hn p
    rw [List.foldl_cons, due_fold ps h1 h2, due_step hL hn]
/-- the holders behind a row -/
theorem hold_due {hs : Hands} {t : Nat} (ht : holdN hs t ≠ []) (ps : List Nat) : holdN (afterN hs ps) t = dueN (holdN hs t) ps := by
  rw [hold_after, due_fold ps ht (hold_nodup hs t)]
theorem firsts_snoc (ps : List Nat) (p : Nat) : firstsN (ps ++ [p]) = if p ∈ ps then firstsN ps else firstsN ps ++ [p] := by
  induction ps with
  | nil => rfl
  | cons q ps ih =>
    show q :: (firstsN (ps ++ [p])).filter _ = _
    rw [ih]
    by_cases h : p ∈ ps
    · rw [if_pos h, if_pos (List.mem_cons_of_mem _ h)]
      rfl
    · rw [if_neg h, List.filter_append]
      by_cases hq : p = q
      · subst hq
        rw [if_pos List.mem_cons_self]
        simp [firstsN]
      · rw [if_neg (by simp [h, hq])]
        simp [firstsN, hq]
theorem firsts_row {n : Nat} {ps : List Nat} (h : Row n ps) : Row n (firstsN ps) := by
  refine ⟨?_, fun p hp => h.2 p (mem_firsts.mp hp)⟩
  refine Nat.le_trans ?_ h.1
  have : ∀ ps : List Nat, (firstsN ps).length ≤ ps.length := by
    intro ps
    induction ps with
    | nil => exact Nat.le_refl _
    | cons p ps ih =>
      rw [firstsN, List.length_cons, List.length_cons]
      have := List.length_filter_le (fun q => decide (q ≠ p)) (firstsN ps)
      omega
  exact this ps
theorem drop_last {α : Type} (l : List α) : l.drop (l.length - 1) = l.getLast?.toList := by
  by_cases h : l = []
  · subst h; rfl
  · rw [List.getLast?_eq_some_getLast h]
    have e := List.dropLast_concat_getLast h
    have hl := List.length_pos_iff.mpr h
    conv => lhs; rw [← e]
    rw [List.length_append, List.length_dropLast, List.length_singleton, List.drop_append_of_le_length (by rw [List.length_dropLast]; omega)]
    rw [List.drop_of_length_le (by rw [List.length_dropLast]; omega)]
    rfl
/-- a person holds behind a row what was held and is kept -/
theorem after_hand (hs : Hands) (ps : List Nat) (p : Nat) : (afterN hs ps)[p]?.getD [] = (hs[p]?.getD []).filter fun t => decide (p ∈ holdN (afterN hs ps) t) := by
  induction ps generalizing hs with
  | nil =>
    refine (List.filter_eq_self.mpr fun t ht => ?_).symm
    rw [decide_eq_true_iff]
    exact mem_hold.mpr ⟨lt_of_mem_at ht, ht⟩
  | cons q ps ih =>
    show (afterN (callN hs q) ps)[p]?.getD [] = (hs[p]?.getD []).filter fun t => decide (p ∈ holdN (afterN (callN hs q) ps) t)
    rw [ih, call_at]
    split
    · rename_i h
      subst h
      rw [List.filter_filter]
      refine List.filter_congr fun t ht => ?_
      by_cases hk : p ∈ holdN (afterN (callN hs p) ps) t
      · have h1 := (mem_hold.mp hk).2
        rw [ih] at h1
        have h2 := (List.mem_filter.mp h1).1
        rw [call_at, if_pos rfl] at h2
        have h3 := (List.mem_filter.mp h2).2
        simp [hk]
        simpa using h3
      · simp [hk]
    · rfl
theorem ext_hands {a b : Hands} (hl : a.length = b.length) (h : ∀ p : Nat, (a[p]? : Option (List Nat)).getD [] = (b[p]? : Option (List Nat)).getD []) : a = b := by
  refine List.ext_getElem hl fun i h1 h2 => ?_
  have := h i
  rw [List.getElem?_eq_getElem h1, List.getElem?_eq_getElem h2] at this
  exact this
theorem hold_ne {hs : Hands} {t : Nat} : holdN hs t ≠ [] ↔ t ∈ thingsN hs := by
  rw [mem_things]
  constructor
  · intro h
    obtain ⟨p, hp⟩ := List.exists_mem_of_ne_nil _ h
    obtain ⟨h1, h2⟩ := mem_hold.mp hp
    rw [List.getElem?_eq_getElem h1] at h2
    exact ⟨_, List.getElem_mem h1, h2⟩
  · rintro ⟨h, hh, ht⟩ z
    obtain ⟨p, hp, rfl⟩ := List.getElem_of_mem hh
    have : p ∈ holdN hs t := mem_hold.mpr ⟨hp, by rw [List.getElem?_eq_getElem hp]; exact ht⟩
    rw [z] at this
    cases this
/-- two rows that lead to the same holders lead to the same hands -/
theorem after_same {hs : Hands} {ps qs : List Nat} (h : ∀ t ∈ thingsN hs, holdN (afterN hs ps) t = holdN (afterN hs qs) t) : afterN hs ps = afterN hs qs := by
  refine ext_hands (by rw [after_len, after_len]) fun p => ?_
  rw [after_hand, after_hand]
  refine List.filter_congr fun t ht => ?_
  have hp := lt_of_mem_at ht
  rw [List.getElem?_eq_getElem hp] at ht
  rw [h t (mem_things.mpr ⟨_, List.getElem_mem hp, ht⟩)]
theorem due_firsts (L ps : List Nat) : dueN L (firstsN ps) = dueN L ps := by
  unfold dueN
  rw [firsts_idem]
  simp only [mem_firsts]
theorem after_firsts (hs : Hands) (ps : List Nat) : afterN hs (firstsN ps) = afterN hs ps := after_same fun t ht => by
  rw [hold_due (hold_ne.mpr ht), hold_due (hold_ne.mpr ht), due_firsts]
theorem fold_ne (ps : List Nat) {L : List Nat} (hL : L ≠ []) (hn : L.Nodup) : ps.foldl stepH L ≠ [] := by
  induction ps generalizing L with
  | nil => exact hL
  | cons p ps ih => exact ih (stepH_ok hL hn p).1 (stepH_ok hL hn p).2
theorem things_after (hs : Hands) (ps : List Nat) : thingsN (afterN hs ps) = thingsN hs := by
  refine asc_ext (things_asc _) (things_asc _) fun t => ?_
  constructor
  · intro h
    obtain ⟨p, hp⟩ := List.exists_mem_of_ne_nil _ (hold_ne.mpr h)
    have h1 := (mem_hold.mp hp).2
    rw [after_hand] at h1
    exact hold_ne.mp (List.ne_nil_of_mem (mem_hold.mpr ⟨lt_of_mem_at (List.mem_filter.mp h1).1, (List.mem_filter.mp h1).1⟩))
  · intro h
    rw [← hold_ne, hold_after]
    exact fold_ne ps (hold_ne.mpr h) (hold_nodup _ _)
theorem due_called {L ps : List Nat} {p : Nat} (hp : p ∈ ps) (h : p ∈ dueN L ps) : dueN L ps = [p] := by
  unfold dueN at h ⊢
  split at h
  · rename_i he
    rw [if_pos he]
    generalize (firstsN ps).filter (fun q => decide (q ∈ L)) = M at h ⊢
    cases hM : M.getLast? with
    | none => rw [hM] at h; cases h
    | some a => rw [hM] at h; rw [List.mem_singleton.mp h]; rfl
  · rename_i he
    have := (List.mem_filter.mp h).2
    simp [hp] at this
/-- who was called holds what is left alone -/
theorem called_alone {hs : Hands} {ps : List Nat} {p t : Nat} (hp : p ∈ ps) (ht : t ∈ (afterN hs ps)[p]?.getD []) : holdN (afterN hs ps) t = [p] := by
  have h1 : p ∈ holdN (afterN hs ps) t := mem_hold.mpr ⟨lt_of_mem_at ht, ht⟩
  have h2 : t ∈ thingsN hs := by rw [← things_after hs ps]; exact hold_ne.mp (List.ne_nil_of_mem h1)
  rw [hold_due (hold_ne.mpr h2)] at h1 ⊢
  exact due_called hp h1
theorem called_still {hs : Hands} {ps : List Nat} {p : Nat} (hp : p ∈ ps) : callN (afterN hs ps) p = afterN hs ps := by
  refine ext_hands (call_len _ _) fun q => ?_
  rw [call_at]
  split
  · rename_i h
    subst h
    refine List.filter_eq_self.mpr fun t ht => ?_
    rw [decide_eq_true_iff, mem_spare]
    rintro ⟨_, h2⟩
    rw [called_alone hp ht] at h2
    simp at h2
  · rfl
/-- who put something away -/
def changedN (hs : Hands) (ps : List Nat) : List Nat := (List.range hs.length).filter fun p => decide ((afterN hs ps)[p]?.getD [] ≠ hs[p]?.getD [])
theorem changed_firsts {hs : Hands} {ps : List Nat} {p : Nat} (h : p ∈ changedN hs ps) : p ∈ ps := by
  unfold changedN at h
  obtain ⟨h1, h2⟩ := List.mem_filter.mp h
  by_cases hp : p ∈ ps
  · exact hp
  · refine absurd ?_ (of_decide_eq_true h2)
    clear h h1 h2
    induction ps generalizing hs with
    | nil => rfl
    | cons q ps ih =>
      show (afterN (callN hs q) ps)[p]?.getD [] = _
      rw [ih (fun z => hp (List.mem_cons_of_mem _ z)), call_at, if_neg]
      rintro rfl
      exact hp List.mem_cons_self
section
open T
variable {k : Nat}
theorem w_call (hk : 5 ≤ k) {hs : Hands} (H : Ok hs) {p : Nat} (hp : p < hs.length) : callD PM k 2 [cH.e hs, cN.e p] = .ok (cH.e (callN hs p), []) := by
  obtain ⟨j, rfl⟩ : ∃ j, k = j + 5 := ⟨k - 5, by omega⟩
  rw [call_s p_call rfl]
  simp [d_call, w_need_hands _ H, w_need_person _ hp, w_call_in _ H hp]
theorem w_first_calls (hk : 5 ≤ k) {hs : Hands} (H : Ok hs) {ps : List Nat} (hp : Row hs.length ps) : callD PM k 10 [cH.e hs, (cT cN).e ps] = .ok ((cT cN).e (firstsN ps), []) := by
  obtain ⟨j, rfl⟩ : ∃ j, k = j + 5 := ⟨k - 5, by omega⟩
  rw [call_s p_first_calls rfl]
  simp [d_first_calls, w_need_hands _ H, w_need_calls _ H hp]
  refine forF_idxB cN (fun n => [some (cH.e hs), some ((cT cN).e ps), some ((cL cN).e (firstsN (ps.take n))), none]) rfl (fun n hn => ?_) ?_
  · have hr : Row hs.length (ps.take n) := ⟨by rw [List.length_take]; have := hp.1; omega, fun q hq => hp.2 q (List.mem_of_mem_take hq)⟩
    have h1 : (firstsN (ps.take n)).length < line := lt_line (by have := (firsts_row hr).1; omega)
    rw [take_snoc _ hn, firsts_snoc]
    by_cases hm : ps[n] ∈ ps.take n
    · simp [hm, h1]
    · simp [hm, h1]
  · simp
theorem w_changed (hk : 5 ≤ k) {hs : Hands} (H : Ok hs) {ps : List Nat} (hp : Row hs.length ps) : callD PM k 11 [cH.e hs, (cT cN).e ps] = .ok ((cT cN).e (changedN hs ps), []) := by
  obtain ⟨j, rfl⟩ : ∃ j, k = j + 5 := ⟨k - 5, by omega⟩
  rw [call_s p_changed rfl]
  simp [d_changed, w_need_hands _ H, w_need_calls _ H hp, w_story_in _ H hp, story_ne, story_last, H.le9]
  refine forF_rng (fun n => [some (cH.e hs), some ((cT cN).e ps), some (cH.e (afterN hs ps)), some ((cL cN).e ((List.range n).filter fun p => decide ((afterN hs ps)[p]?.getD [] ≠ hs[p]?.getD []))), none]) rfl (fun n hn => ?_) ?_
  · have h1 : ((List.range n).filter fun p => decide ((afterN hs ps)[p]?.getD [] ≠ hs[p]?.getD [])).length < line := by
      have := List.length_filter_le (fun p => decide ((afterN hs ps)[p]?.getD [] ≠ hs[p]?.getD [])) (List.range n)
      rw [List.length_range] at this
      exact lt_line (by have := H.le; omega)
    have h2 : n < (afterN hs ps).length := by rw [after_len]; exact hn
    rw [List.range_succ, List.filter_append]
    by_cases hm : (afterN hs ps)[n] = hs[n]
    · simp [hn, hm]
    · simp at h1
      simp [hn, hm, h1]
  · simp [changedN]
theorem w__law_holders (hk : 1 ≤ k) {hs : Hands} (H : Ok hs) (t : Nat) : callD PM k 308 [cH.e hs, cN.e t] = .ok ((cL cN).e (holdN hs t), []) := by
  obtain ⟨j, rfl⟩ : ∃ j, k = j + 1 := ⟨k - 1, by omega⟩
  rw [call_s p__law_holders rfl]
  simp [d__law_holders, H.le9]
  refine gd_fin2 (ln_filter (by rw [List.length_range]; exact H.line)) rfl
end
end Ev
end

section
set_option linter.all false
set_option autoImplicit false
set_option maxRecDepth 10000
/-! Mb: more of hands: alone, holders, count_held, surplus, empty_handed, drop, leave. -/
namespace Ev
open T
theorem foldl_filter {α δ : Type} (p : α → Bool) (g : α → δ) : ∀ (l : List α) (acc : List δ), l.foldl (fun acc x => if p x then acc ++ [g x] else acc) acc = acc ++ (l.filter p).map g
  | [], acc => by simp
  | x :: l, acc => by
    rw [List.foldl_cons, foldl_filter p g l]
    cases h : p x <;> simp [List.filter_cons, h]
/-- a loop that takes up some -/
theorem forF_filter {α δ β : Type} (c : Co α) {f : AV → Env → R Fl} {l : List α} {env : Env} {K : Fl → R β} {X : R β} (E : List δ → Env) (g : α → δ) (p : α → Bool) (he : env = E []) (hl : l.length ≤ line)
    (h : ∀ x ∈ l, ∀ acc : List δ, acc.length < line → f (c.e x) (E acc) = .ok (.nx (E (if p x then acc ++ [g x] else acc))))
    (hX : K (.nx (E ((l.filter p).map g))) = X) : (forF f (mapE c l) env >>= K) = X := by
  refine forF_bind c E (fun acc x => if p x then acc ++ [g x] else acc) (fun n acc => acc.length ≤ n) [] he (Nat.le_refl _) (fun n acc x hx hn hI => ?_) fun _ => ?_
  · refine ⟨.inl (h x hx acc (by omega)), ?_⟩
    by_cases hp : p x = true
    · rw [if_pos hp, List.length_append]; exact Nat.add_le_add_right hI 1
    · rw [if_neg hp]; omega
  · rw [foldl_filter]; exact hX
@[simp] theorem cat_T {α : Type} (c : Co α) (a b : List α) : binop .add ((cT c).e a) ((cT c).e b) = (gd (a.length + b.length ≤ line) >>= fun _ => .ok ((cT c).e (a ++ b))) := by
  rw [cT_e, cT_e, cT_e, List.map_append]
  show tupR _ = _
  unfold tupR gd
  simp only [List.length_append, List.length_map]
  split <;> rfl
@[simp] theorem cat_L {α : Type} (c : Co α) (a b : List α) : binop .add ((cL c).e a) ((cL c).e b) = (gd (a.length + b.length ≤ line) >>= fun _ => .ok ((cL c).e (a ++ b))) := by
  rw [cL_e, cL_e, cL_e, List.map_append]
  show lstR _ = _
  unfold lstR gd
  simp only [List.length_append, List.length_map]
  split <;> rfl
section
variable {k : Nat}
def aloneN (hs : Hands) (p : Nat) : List Nat := (hs[p]?.getD []).filter fun t => decide ((holdN hs t).length = 1)
def countN (hs : Hands) : Nat := (hs.map List.length).sum
def emptyN (hs : Hands) : List Nat := (List.range hs.length).filter fun p => decide (hs[p]?.getD [] = [])
def dropN (hs : Hands) (t : Nat) : Hands := hs.map fun h => h.filter fun x => decide (x ≠ t)
def leaveN (hs : Hands) (p : Nat) : Hands := hs.take p ++ hs.drop (p + 1)
theorem w_holders (hk : 5 ≤ k) {hs : Hands} (H : Ok hs) {t : Nat} (ht : t ∈ thingsN hs) : callD PM k 120 [cH.e hs, cN.e t] = .ok ((cT cN).e (holdN hs t), []) := by
  obtain ⟨j, rfl⟩ : ∃ j, k = j + 5 := ⟨k - 5, by omega⟩
  rw [call_s p_holders rfl]
  simp [d_holders, w_need_hands _ H, w_need_thing _ H ht, w_holders_in _ H]
theorem w_alone (hk : 5 ≤ k) {hs : Hands} (H : Ok hs) {p : Nat} (hp : p < hs.length) : callD PM k 124 [cH.e hs, cN.e p] = .ok ((cT cN).e (aloneN hs p), []) := by
  obtain ⟨j, rfl⟩ : ∃ j, k = j + 5 := ⟨k - 5, by omega⟩
  rw [call_s p_alone rfl]
  simp [d_alone, w_need_hands _ H, w_need_person _ hp, hp]
  refine forF_filter cN (fun acc => [some (cH.e hs), some (cN.e p), some ((cL cN).e acc), none]) id (fun t => decide ((holdN hs t).length = 1)) rfl (H.ln hp) (fun t ht acc ha => ?_) ?_
  · by_cases h : (holdN hs t).length = 1
    · simp [w_holders_in _ H, h, ha]
    · simp [w_holders_in _ H, h, ha]
  · simp [aloneN, hp]
theorem w_count_held (hk : 5 ≤ k) {hs : Hands} (H : Ok hs) : callD PM k 125 [cH.e hs] = .ok (cN.e (countN hs), []) := by
  obtain ⟨j, rfl⟩ : ∃ j, k = j + 5 := ⟨k - 5, by omega⟩
  rw [call_s p_count_held rfl]
  simp [d_count_held, w_need_hands _ H]
  exact gd_fin2 H.line rfl
theorem w_surplus (hk : 5 ≤ k) {hs : Hands} (H : Ok hs) : callD PM k 126 [cH.e hs] = .ok (.int ((countN hs : Int) - (thingsN hs).length), []) := by
  obtain ⟨j, rfl⟩ : ∃ j, k = j + 5 := ⟨k - 5, by omega⟩
  rw [call_s p_surplus rfl]
  simp [d_surplus, w_need_hands _ H, w_things_in _ H]
  refine gd_fin2 H.line ?_
  rw [sub_NI]
  rfl
theorem w_empty_handed (hk : 5 ≤ k) {hs : Hands} (H : Ok hs) : callD PM k 135 [cH.e hs] = .ok ((cT cN).e (emptyN hs), []) := by
  obtain ⟨j, rfl⟩ : ∃ j, k = j + 5 := ⟨k - 5, by omega⟩
  rw [call_s p_empty_handed rfl]
  simp [d_empty_handed, w_need_hands _ H]
  refine forF_filter (cP cN (cT cN)) (fun acc => [some (cH.e hs), some ((cL cN).e acc), none, none]) Prod.fst (fun x => decide (x.2 = [])) rfl (by simpa [enumN] using H.line) (fun x hx acc ha => ?_) ?_
  · obtain ⟨i, h⟩ := x
    by_cases hh : h = []
    · simp [hh, ha]
    · simp [hh, ha]
  · rw [enumN_eq ([] : List Nat), List.filter_map, List.map_map]
    have e : ((Prod.fst : Nat × List Nat → Nat) ∘ fun i => (i, hs[i]?.getD [])) = id := rfl
    rw [e]
    simp [emptyN, Function.comp_def]
theorem w_drop (hk : 5 ≤ k) {hs : Hands} (H : Ok hs) {t : Nat} (ht : t ∈ thingsN hs) : callD PM k 26 [cH.e hs, cN.e t] = .ok (cH.e (dropN hs t), []) := by
  obtain ⟨j, rfl⟩ : ∃ j, k = j + 5 := ⟨k - 5, by omega⟩
  rw [call_s p_drop rfl]
  simp [d_drop, w_need_hands _ H, w_need_thing _ H ht]
  refine gd_fin2 (fun x hx => ln_filter (H.hd x hx).line) (gd_fin2 H.line ?_)
  simp [dropN]
theorem w_leave (hk : 5 ≤ k) {hs : Hands} (H : Ok hs) {p : Nat} (hp : p < hs.length) (h2 : 1 < hs.length) : callD PM k 23 [cH.e hs, cN.e p] = .ok (cH.e (leaveN hs p), []) := by
  obtain ⟨j, rfl⟩ : ∃ j, k = j + 5 := ⟨k - 5, by omega⟩
  rw [call_s p_leave rfl]
  simp [d_leave, w_need_hands _ H, w_need_person _ hp]
  have e : ¬ hs.length = 1 := by omega
  simp [e]
  have := H.le
  refine gd_fin2 (line_of (by omega)) rfl
/-- people -/
structure Ppl (n : Nat) (ps : List Nat) : Prop where
  asc : ps.Pairwise (· < ·)
  lt : ∀ q ∈ ps, q < n
theorem Ppl.len {n : Nat} {ps : List Nat} (h : Ppl n ps) : ps.length ≤ n := asc_len h.asc h.lt
theorem nin_nil (x : Nat) : cmpop .nin (cN.e x) (.list []) = .ok (.bool true) := nrfl rfl
theorem filt_all {α : Type} (l : List α) : l.filter (fun _ => true) = l := List.filter_eq_self.mpr fun _ _ => rfl
theorem w_need_people (hk : 3 ≤ k) {hs : Hands} (H : Ok hs) {ps : List Nat} (hp : Ppl hs.length ps) : callD PM k 47 [cH.e hs, (cT cN).e ps] = .ok (.none, []) := by
  obtain ⟨j, rfl⟩ : ∃ j, k = j + 3 := ⟨k - 3, by omega⟩
  have h0 := hp.len
  have h1 := H.le
  have h2 := H.pos
  have h3 : ps.length ≤ line := line_of (by omega)
  have h4 : (ps.all fun x => decide (x ≤ hs.length - 1)) = true := by
    rw [List.all_eq_true]
    intro x hx
    have := hp.lt x hx
    simp
    omega
  have h5 : ps.length ≤ 1000 := by omega
  have h6 : ps.length < 64 := by omega
  have h7 : 1 ≤ hs.length := h2
  rw [call_s p_need_people rfl]
  simp [d_need_people, w_is_list, w_is_in, h0, h3, h4, h5, h6, h7, setN_id hp.asc]
def togetherN (hs : Hands) (ps : List Nat) : Hands := (enumN hs).map fun x => x.2.filter fun t => !decide (t ∈ if x.1 ∈ ps then spareN hs x.1 else [])
theorem w_together_in (hk : 3 ≤ k) {hs : Hands} (H : Ok hs) (ps : List Nat) : callD PM k 259 [cH.e hs, (cT cN).e ps] = .ok (cH.e (togetherN hs ps), []) := by
  obtain ⟨j, rfl⟩ : ∃ j, k = j + 3 := ⟨k - 3, by omega⟩
  rw [call_s p_together_in rfl]
  simp [d_together_in]
  refine forF_filter (cP cN (cT cN)) (fun acc => [some (cH.e hs), some ((cT cN).e ps), some ((cL (cT cN)).e acc), none, none, none, none]) (fun x => x.2.filter fun t => !decide (t ∈ if x.1 ∈ ps then spareN hs x.1 else [])) (fun _ => true) rfl (by simpa [enumN] using H.line) (fun x hx acc ha => ?_) ?_
  · rw [enumN_eq ([] : List Nat)] at hx
    obtain ⟨i, hi, rfl⟩ := List.mem_map.mp hx
    have hi := List.mem_range.mp hi
    have hl := H.ln hi
    by_cases h : i ∈ ps
    · simp [h, ha, hi, w_spare_in _ H]
      exact gd_fin2 (ln_filter hl) rfl
    · simp [h, ha, hi, nin_nil, filt_all]
      exact gd_fin2 hl rfl
  · simp [togetherN, filt_all]
theorem w_together (hk : 5 ≤ k) {hs : Hands} (H : Ok hs) {ps : List Nat} (hp : Ppl hs.length ps) : callD PM k 260 [cH.e hs, (cT cN).e ps] = .ok (cH.e (togetherN hs ps), []) := by
  obtain ⟨j, rfl⟩ : ∃ j, k = j + 5 := ⟨k - 5, by omega⟩
  rw [call_s p_together rfl]
  simp [d_together, w_need_hands _ H, w_need_people _ H hp, w_together_in _ H]
@[simp] theorem together_len (hs : Hands) (ps : List Nat) : (togetherN hs ps).length = hs.length := by simp [togetherN, enumN]
theorem Ok.together {hs : Hands} (H : Ok hs) (ps : List Nat) : Ok (togetherN hs ps) := ⟨by rw [together_len]; exact H.pos, by rw [together_len]; exact H.le, fun h hh => by
  unfold togetherN at hh
  obtain ⟨x, hx, rfl⟩ := List.mem_map.mp hh
  rw [enumN_eq ([] : List Nat)] at hx
  obtain ⟨i, hi, rfl⟩ := List.mem_map.mp hx
  exact (H.at (List.mem_range.mp hi)).filter _⟩
def lostN (hs : Hands) (ps : List Nat) : List Nat := (thingsN hs).filter fun t => decide (t ∉ thingsN (togetherN hs ps))
def riskyN (hs : Hands) (ps : List Nat) : List Nat := (thingsN hs).filter fun t => decide (1 < (holdN hs t).length ∧ ∀ q ∈ holdN hs t, q ∈ ps)
theorem w_lost_things (hk : 5 ≤ k) {hs : Hands} (H : Ok hs) {ps : List Nat} (hp : Ppl hs.length ps) : callD PM k 261 [cH.e hs, (cT cN).e ps] = .ok ((cT cN).e (lostN hs ps), []) := by
  obtain ⟨j, rfl⟩ : ∃ j, k = j + 5 := ⟨k - 5, by omega⟩
  rw [call_s p_lost_things rfl]
  simp [d_lost_things, w_need_hands _ H, w_need_people _ H hp, w_together_in _ H, w_things_in _ H, w_things_in _ (H.together ps)]
  refine forF_filter cN (fun acc => [some (cH.e hs), some ((cT cN).e ps), some ((cL cN).e (thingsN (togetherN hs ps))), some ((cL cN).e acc), none]) id (fun t => decide (t ∉ thingsN (togetherN hs ps))) rfl H.things.line (fun t ht acc ha => ?_) ?_
  · by_cases h : t ∈ thingsN (togetherN hs ps)
    · simp [h, ha]
    · simp [h, ha]
  · simp [lostN]
theorem w_risky_things (hk : 5 ≤ k) {hs : Hands} (H : Ok hs) {ps : List Nat} (hp : Ppl hs.length ps) : callD PM k 271 [cH.e hs, (cT cN).e ps] = .ok ((cT cN).e (riskyN hs ps), []) := by
  obtain ⟨j, rfl⟩ : ∃ j, k = j + 5 := ⟨k - 5, by omega⟩
  rw [call_s p_risky_things rfl]
  simp [d_risky_things, w_need_hands _ H, w_need_people _ H hp, w_things_in _ H]
  refine forF_filter cN (fun acc => [some (cH.e hs), some ((cT cN).e ps), some ((cL cN).e acc), none, none, none]) id (fun t => decide (1 < (holdN hs t).length ∧ ∀ q ∈ holdN hs t, q ∈ ps)) rfl H.things.line (fun t ht acc ha => ?_) ?_
  · have g : (holdN hs t).length ≤ line := ln_filter (by rw [List.length_range]; exact H.line)
    by_cases h : 1 < (holdN hs t).length
    · simp [w_holders_in _ H, h, ha, g]
      by_cases h2 : ∀ q, q ∈ holdN hs t → q ∈ ps
      · rw [if_pos h2, if_pos h2]
      · rw [if_neg h2, if_neg h2]
    · simp [w_holders_in _ H, h, ha, g]
  · simp [riskyN]
theorem min2_N (m n : Nat) : bltop .min2 [cN.e m, cN.e n] = .ok (cN.e (min m n)) := by
  show R.ok (PySem.PyData.int (if (n : Int) < m then (n : Int) else m)) = R.ok (PySem.PyData.int ((min m n : Nat) : Int))
  congr 2
  split <;> omega
theorem max2_N (m n : Nat) : bltop .max2 [cN.e m, cN.e n] = .ok (cN.e (max m n)) := by
  show R.ok (PySem.PyData.int (if (m : Int) < n then (n : Int) else m)) = R.ok (PySem.PyData.int ((max m n : Nat) : Int))
  congr 2
  split <;> omega
theorem cut_both (l : List AV) (a b : Nat) : cutL l (some (a : Int)) (some (b : Int)) = (l.drop a).take (b - a) := by
  unfold cutL slIx
  dsimp only
  rw [if_neg (by omega), if_neg (by omega), Int.toNat_natCast, Int.toNat_natCast]
  rcases Nat.le_total a l.length with h | h
  · rw [show Nat.min a l.length = a from Nat.min_eq_left h]
    rcases Nat.le_total b l.length with g | g
    · rw [show Nat.min b l.length = b from Nat.min_eq_left g]
    · rw [show Nat.min b l.length = l.length from Nat.min_eq_right g, List.take_of_length_le (by rw [List.length_drop]; exact Nat.le_refl _), List.take_of_length_le (by rw [List.length_drop]; omega)]
  · rw [show Nat.min a l.length = l.length from Nat.min_eq_right h, List.drop_length, List.drop_of_length_le h, List.take_nil, List.take_nil]
@[simp] theorem sl_Tboth {α : Type} (c : Co α) (l : List α) (a b : Nat) : sliV ((cT c).e l) (some (cN.e a)) (some (cN.e b)) = .ok ((cT c).e ((l.drop a).take (b - a))) := by
  show R.ok (PySem.PyData.tuple (cutL (l.map c.e) (some (a : Int)) (some (b : Int)))) = _
  rw [cut_both, ← List.map_drop, ← List.map_take]
  rfl
@[simp] theorem sl_Lboth {α : Type} (c : Co α) (l : List α) (a b : Nat) : sliV ((cL c).e l) (some (cN.e a)) (some (cN.e b)) = .ok ((cL c).e ((l.drop a).take (b - a))) := by
  show R.ok (PySem.PyData.list (cutL (l.map c.e) (some (a : Int)) (some (b : Int)))) = _
  rw [cut_both, ← List.map_drop, ← List.map_take]
  rfl
def mergedN (hs : Hands) (p q : Nat) : Hands := if p = q then hs else hs.take (min p q) ++ setN (hs[min p q]?.getD [] ++ hs[max p q]?.getD []) :: ((hs.drop (min p q + 1)).take (max p q - (min p q + 1)) ++ hs.drop (max p q + 1))
theorem w_merged (hk : 5 ≤ k) {hs : Hands} (H : Ok hs) {p q : Nat} (hp : p < hs.length) (hq : q < hs.length) : callD PM k 31 [cH.e hs, cN.e p, cN.e q] = .ok (cH.e (mergedN hs p q), []) := by
  obtain ⟨j, rfl⟩ : ∃ j, k = j + 5 := ⟨k - 5, by omega⟩
  rw [call_s p_merged rfl]
  simp [d_merged, w_need_hands _ H, w_need_person _ hp, w_need_person _ hq, min2_N, max2_N]
  by_cases h : p = q
  · subst h
    simp [mergedN]
  · have h1 : ¬ min p q = max p q := by omega
    have h2 : min p q < hs.length := by omega
    have h3 : max p q < hs.length := by omega
    have h4 := H.ln h2
    have h5 := H.ln h3
    have h6 := (H.hd _ (List.getElem_mem h2)).len
    have h7 := (H.hd _ (List.getElem_mem h3)).len
    have h8 := H.le
    have h9 : (setN (hs[min p q] ++ hs[max p q])).length < 64 := by
      have := asc_len (setN_asc (hs[min p q] ++ hs[max p q])) (n := 8) fun t ht => by
        rcases List.mem_append.mp (mem_setN.mp ht) with g | g
        · exact (H.hd _ (List.getElem_mem h2)).lt t g
        · exact (H.hd _ (List.getElem_mem h3)).lt t g
      omega
    simp [h1, h2, h3, h4, h5, h9]
    refine gd_fin2 (line_of (by omega)) (gd_fin2 (by omega) (gd_fin2 (Nat.le_trans H.line (Nat.le_add_right _ _)) (gd_fin2 (line_of (by omega)) (gd_fin2 (line_of (by omega)) (gd_fin2 (line_of (by omega)) ?_)))))
    simp [mergedN, h, h2, h3]
theorem loopW_flat {α : Type} (F : α → List AV) : ∀ l : List α, loopW (fun x => R.ok (F x)) l = R.ok (l.flatMap F)
  | [] => rfl
  | x :: l => by rw [loopW, loopW_flat F l]; rfl
theorem flatMap_mapE {α : Type} (p : Nat) (c : Co α) (g : Nat → List α) (l : List Nat) : (l.flatMap fun x => if x = p then [] else mapE c (g x)) = mapE c (l.flatMap fun x => if x = p then [] else g x) := by
  induction l with
  | nil => rfl
  | cons x l ih =>
    rw [List.flatMap_cons, List.flatMap_cons, ih, mapE, mapE, mapE, List.map_append]
    split <;> rfl
theorem flatMap_le {α β : Type} {b : Nat} {g : α → List β} : ∀ {l : List α}, (∀ x ∈ l, (g x).length ≤ b) → (l.flatMap g).length ≤ b * l.length
  | [], _ => Nat.zero_le _
  | x :: l, h => by
    have h1 := h x List.mem_cons_self
    have h2 := flatMap_le (l := l) fun y hy => h y (List.mem_cons_of_mem _ hy)
    rw [List.flatMap_cons, List.length_append, List.length_cons, Nat.mul_add]
    omega
def lostByN (hs : Hands) (p : Nat) : List Nat := (hs[p]?.getD []).filter fun t => decide (∀ q, q < hs.length → q ≠ p → t ∉ hs[q]?.getD [])
theorem w_lost_by_leaving (hk : 5 ≤ k) {hs : Hands} (H : Ok hs) {p : Nat} (hp : p < hs.length) : callD PM k 25 [cH.e hs, cN.e p] = .ok ((cT cN).e (lostByN hs p), []) := by
  obtain ⟨j, rfl⟩ : ∃ j, k = j + 5 := ⟨k - 5, by omega⟩
  rw [call_s p_lost_by_leaving rfl]
  have hl : ((List.range hs.length).flatMap fun x => if x = p then [] else hs[x]?.getD []).length ≤ line := by
    refine line_of (Nat.le_trans (flatMap_le (b := 8) fun x hx => ?_) (by have := H.le; rw [List.length_range]; omega))
    split
    · exact Nat.zero_le _
    · exact (H.at (List.mem_range.mp hx)).len
  simp [d_lost_by_leaving, w_need_hands _ H, w_need_person _ hp, H.le9, loopW_flat]
  rw [flatMap_mapE]
  simp [hl, hp]
  refine gd_fin2 (fun x hx _ => hx) (gd_fin2 (by simpa using hl) (gd_fin2 (ln_filter (H.ln hp)) ?_))
  simp [lostByN, hp]
end
end Ev
end

section
set_option linter.all false
set_option autoImplicit false
set_option maxRecDepth 10000
/-! Mc: how much is held. -/
namespace Ev
open T
theorem insN_len {x : Nat} : ∀ {l : List Nat}, l.Pairwise (· < ·) → (insN x l).length = if x ∈ l then l.length else l.length + 1
  | [], _ => rfl
  | y :: l, h => by
    obtain ⟨h1, h2⟩ := List.pairwise_cons.mp h
    have ih := insN_len (x := x) h2
    unfold insN
    by_cases g : y < x
    · rw [if_pos g, List.length_cons, ih]
      by_cases m : x ∈ l
      · rw [if_pos m, if_pos (List.mem_cons_of_mem _ m), List.length_cons]
      · rw [if_neg m, if_neg (by simp; exact ⟨by omega, m⟩), List.length_cons]
    · rw [if_neg g]
      by_cases e : x = y
      · rw [if_pos e, if_pos (by simp [e])]
      · rw [if_neg e, if_neg ?_]
        · rfl
        · intro m
          rcases List.mem_cons.mp m with m | m
          · exact e m
          · have := h1 x m; omega
theorem setN_len : ∀ l : List Nat, (setN l).length ≤ l.length
  | [] => Nat.le_refl _
  | x :: l => by
    rw [setN, insN_len (setN_asc l), List.length_cons]
    have := setN_len l
    split <;> omega
theorem setN_full : ∀ {l : List Nat}, (setN l).length = l.length ↔ l.Nodup
  | [] => by simp [setN]
  | x :: l => by
    rw [setN, insN_len (setN_asc l), List.length_cons, List.nodup_cons, ← setN_full (l := l)]
    have := setN_len l
    by_cases m : x ∈ l
    · rw [if_pos (mem_setN.mpr m)]
      exact ⟨fun h => by omega, fun h => absurd m h.1⟩
    · rw [if_neg fun h => m (mem_setN.mp h)]
      exact ⟨fun h => ⟨m, by omega⟩, fun h => by omega⟩
theorem count_flat (hs : Hands) : countN hs = hs.flatten.length := by
  unfold countN
  rw [List.length_flatten]
theorem things_le (hs : Hands) : (thingsN hs).length ≤ countN hs := by
  rw [count_flat]
  exact setN_len _
theorem count_call (hs : Hands) (p : Nat) : countN (callN hs p) ≤ countN hs := by
  by_cases hp : p < hs.length
  · unfold countN callN
    rw [List.map_set]
    have h1 : ((hs[p]?.getD []).filter fun t => decide (t ∉ spareN hs p)).length ≤ (hs[p]?.getD []).length := List.length_filter_le _ _
    rw [getD_in hp] at h1 ⊢
    have e : (hs.map List.length) = (hs.map List.length).set p hs[p].length := by
      refine List.ext_getElem (by simp) fun i a b => ?_
      rw [List.getElem_set]
      split
      · rename_i h; subst h; simp
      · rfl
    have h2 : ∀ (l : List Nat) (i a b : Nat), a ≤ b → (l.set i a).sum ≤ (l.set i b).sum := by
      intro l
      induction l with
      | nil => intro i a b h; simp
      | cons x l ih =>
        intro i a b h
        cases i with
        | zero => simp; omega
        | succ i => have := ih i a b h; simp; omega
    calc _ ≤ ((hs.map List.length).set p hs[p].length).sum := h2 _ _ _ _ h1
      _ = _ := by rw [← e]
  · unfold callN
    rw [List.set_eq_of_length_le (by omega)]
    exact Nat.le_refl _
theorem flat_nodup {hs : Hands} (hd : ∀ h ∈ hs, Hd h) (h1 : ∀ t, (holdN hs t).length ≤ 1) : hs.flatten.Nodup := by
  refine List.pairwise_flatten.mpr ⟨fun l hl => (hd l hl).asc.imp fun h => Nat.ne_of_lt h, ?_⟩
  rw [List.pairwise_iff_getElem]
  intro i j hi hj hij t h2 u h3 e
  subst e
  have a : i ∈ holdN hs t := mem_hold.mpr ⟨hi, by rw [getD_in hi]; exact h2⟩
  have b : j ∈ holdN hs t := mem_hold.mpr ⟨hj, by rw [getD_in hj]; exact h3⟩
  have c := h1 t
  match hL : holdN hs t, a, b, c with
  | [x], a, b, _ =>
    rw [List.mem_singleton] at a b
    omega
theorem hold_one {hs : Hands} (h : hs.flatten.Nodup) (t : Nat) : (holdN hs t).length ≤ 1 := by
  have h := List.pairwise_flatten.mp h
  rw [List.pairwise_iff_getElem] at h
  refine Nat.le_of_not_lt fun hl => ?_
  have hn := hold_nodup hs t
  match hL : holdN hs t, hl with
  | x :: y :: r, _ =>
    have hx : x ∈ holdN hs t := by rw [hL]; simp
    have hy : y ∈ holdN hs t := by rw [hL]; simp
    rw [hL] at hn
    have hxy : x ≠ y := fun e => by subst e; simp at hn
    obtain ⟨a1, a2⟩ := mem_hold.mp hx
    obtain ⟨b1, b2⟩ := mem_hold.mp hy
    rw [getD_in a1] at a2
    rw [getD_in b1] at b2
    rcases Nat.lt_or_gt_of_ne hxy with g | g
    · exact h.2 x y a1 b1 g t a2 t b2 rfl
    · exact h.2 y x b1 a1 g t b2 t a2 rfl
theorem count_one {hs : Hands} (hd : ∀ h ∈ hs, Hd h) (h1 : ∀ t, (holdN hs t).length ≤ 1) : countN hs = (thingsN hs).length := by
  rw [count_flat]
  exact (setN_full.mpr (flat_nodup hd h1)).symm
theorem one_count {hs : Hands} (h : countN hs = (thingsN hs).length) (t : Nat) : (holdN hs t).length ≤ 1 := by
  rw [count_flat] at h
  exact hold_one (setN_full.mp h.symm) t
theorem spare_none {hs : Hands} (h1 : ∀ t, (holdN hs t).length ≤ 1) (p : Nat) : spareN hs p = [] := by
  unfold spareN
  rw [List.filter_eq_nil_iff]
  intro t _
  have := h1 t
  simp
  omega
theorem call_none {hs : Hands} (h1 : ∀ t, (holdN hs t).length ≤ 1) (p : Nat) : callN hs p = hs := by
  refine ext_hands (call_len _ _) fun q => ?_
  rw [call_at]
  split
  · rename_i h
    subst h
    rw [spare_none h1]
    simp
  · rfl
theorem after_none {hs : Hands} (h1 : ∀ t, (holdN hs t).length ≤ 1) : ∀ ps, afterN hs ps = hs
  | [] => rfl
  | p :: ps => by
    show afterN (callN hs p) ps = hs
    rw [call_none h1]
    exact after_none h1 ps
theorem end_one {hs : Hands} {os : List Nat} (ho : ∀ q, q < hs.length → q ∈ os) (t : Nat) : (holdN (afterN hs os) t).length ≤ 1 := by
  by_cases ht : holdN hs t = []
  · have h2 : holdN (afterN hs os) t = [] := by
      refine Classical.byContradiction fun g => ?_
      have := hold_ne.mp g
      rw [things_after] at this
      exact hold_ne.mpr this ht
    rw [h2]
    exact Nat.zero_le _
  · rw [hold_due ht]
    unfold dueN
    rw [if_pos]
    · cases ((firstsN os).filter fun q => decide (q ∈ holdN hs t)).getLast? <;> simp
    · rw [List.filter_eq_nil_iff]
      intro q hq
      have := (mem_hold.mp hq).1
      simp [ho q this]
theorem count_end {hs : Hands} (H : Ok hs) {os : List Nat} (ho : ∀ q, q < hs.length → q ∈ os) : countN (afterN hs os) = (thingsN hs).length := by
  rw [count_one (H.after os).hd (end_one ho), things_after]
section
variable {k : Nat}
theorem w_surplus2 (hk : 5 ≤ k) {hs : Hands} (H : Ok hs) : callD PM k 126 [cH.e hs] = .ok (cN.e (countN hs - (thingsN hs).length), []) := by
  rw [w_surplus hk H, cN_e, Int.ofNat_sub (things_le hs)]
end
theorem count_after (hs : Hands) (ps : List Nat) (n : Nat) : countN (afterN hs (ps.take n)) ≤ countN (afterN hs (ps.take (n - 1))) := by
  cases n with
  | zero => exact Nat.le_refl _
  | succ n =>
    by_cases h : n < ps.length
    · rw [Nat.add_sub_cancel, take_snoc _ h]
      unfold afterN
      rw [List.foldl_append]
      exact count_call _ _
    · rw [Nat.add_sub_cancel, List.take_of_length_le (by omega), List.take_of_length_le (by omega)]
      exact Nat.le_refl _
end Ev
end

section
set_option linter.all false
set_option autoImplicit false
set_option maxRecDepth 10000
/-! Md: what stays held. -/
namespace Ev
open T
theorem things_ext {a b : Hands} (h : ∀ t, t ∈ thingsN a ↔ t ∈ thingsN b) : thingsN a = thingsN b := asc_ext (things_asc a) (things_asc b) h
theorem together_all (hs : Hands) : togetherN hs (List.range hs.length) = (List.range hs.length).map (aloneN hs) := by
  unfold togetherN
  rw [enumN_eq ([] : List Nat), List.map_map]
  refine List.map_congr_left fun i hi => ?_
  show ((hs[i]?.getD []).filter _) = aloneN hs i
  unfold aloneN
  refine List.filter_congr fun t ht => ?_
  have hi' := List.mem_range.mp hi
  have h1 : 0 < (holdN hs t).length := List.length_pos_iff.mpr (List.ne_nil_of_mem (mem_hold.mpr ⟨hi', ht⟩))
  show (!decide (t ∈ if i ∈ List.range hs.length then spareN hs i else [])) = _
  rw [if_pos hi]
  by_cases h : t ∈ spareN hs i
  · have := (mem_spare.mp h).2
    rw [decide_eq_true h, decide_eq_false (by omega)]; rfl
  · have h2 : ¬ 1 < (holdN hs t).length := fun g => h (mem_spare.mpr ⟨ht, g⟩)
    rw [decide_eq_false h, decide_eq_true (by omega)]; rfl
theorem lost_all (hs : Hands) : lostN hs (List.range hs.length) = (thingsN hs).filter fun t => decide (1 < (holdN hs t).length) := by
  unfold lostN
  refine List.filter_congr fun t ht => ?_
  refine decide_eq_decide.mpr ?_
  rw [together_all, mem_things]
  have hne := hold_ne.mpr ht
  have hl := List.length_pos_iff.mpr hne
  constructor
  · intro h
    refine Classical.byContradiction fun g => h ?_
    obtain ⟨i, hi⟩ := List.exists_mem_of_ne_nil _ hne
    obtain ⟨a, b⟩ := mem_hold.mp hi
    exact ⟨aloneN hs i, List.mem_map.mpr ⟨i, List.mem_range.mpr a, rfl⟩, List.mem_filter.mpr ⟨b, decide_eq_true (by omega)⟩⟩
  · rintro h ⟨x, hx, hm⟩
    obtain ⟨i, hi, rfl⟩ := List.mem_map.mp hx
    have := of_decide_eq_true (List.mem_filter.mp hm).2
    omega
theorem risky_all (hs : Hands) : riskyN hs (List.range hs.length) = (thingsN hs).filter fun t => decide (1 < (holdN hs t).length) := by
  unfold riskyN
  refine List.filter_congr fun t ht => decide_eq_decide.mpr ⟨fun h => h.1, fun h => ⟨h, fun q hq => List.mem_range.mpr (mem_hold.mp hq).1⟩⟩
theorem split2 {hs : Hands} {a b : Nat} (h : a < b) (hb : b < hs.length) : hs.take a ++ hs[a] :: ((hs.drop (a + 1)).take (b - (a + 1)) ++ hs[b] :: hs.drop (b + 1)) = hs := by
  have e1 : hs.drop a = hs[a] :: hs.drop (a + 1) := List.drop_eq_getElem_cons (by omega)
  have e2 : hs.drop b = hs[b] :: hs.drop (b + 1) := List.drop_eq_getElem_cons hb
  have e3 : (hs.drop (a + 1)).drop (b - (a + 1)) = hs.drop b := by rw [List.drop_drop]; congr 1; omega
  rw [← e2, ← e3, List.take_append_drop, ← e1, List.take_append_drop]
theorem mem_mix {T M D : Hands} {A B X : List Nat} (hX : ∀ t, t ∈ X ↔ t ∈ A ∨ t ∈ B) (t : Nat) : (∃ h ∈ T ++ X :: (M ++ D), t ∈ h) ↔ ∃ h ∈ T ++ A :: (M ++ B :: D), t ∈ h := by
  simp only [List.mem_append, List.mem_cons, or_and_right, exists_or, exists_eq_left, hX]
  exact iff_of_eq (by ac_rfl)
theorem merged_eq {hs : Hands} {p q : Nat} (hp : p < hs.length) (hq : q < hs.length) (h : ¬ p = q) : mergedN hs p q = hs.take (min p q) ++ setN (hs[min p q]'(by omega) ++ hs[max p q]'(by omega)) :: ((hs.drop (min p q + 1)).take (max p q - (min p q + 1)) ++ hs.drop (max p q + 1)) := by
  unfold mergedN
  rw [if_neg h, getD_in (by omega), getD_in (by omega)]
theorem things_merged {hs : Hands} {p q : Nat} (hp : p < hs.length) (hq : q < hs.length) : thingsN (mergedN hs p q) = thingsN hs := by
  by_cases h : p = q
  · unfold mergedN; rw [if_pos h]
  · refine things_ext fun t => ?_
    rw [mem_things, mem_things, merged_eq hp hq h]
    have e := split2 (hs := hs) (a := min p q) (b := max p q) (by omega) (by omega)
    have := mem_mix (T := hs.take (min p q)) (M := (hs.drop (min p q + 1)).take (max p q - (min p q + 1))) (D := hs.drop (max p q + 1)) (A := hs[min p q]'(by omega)) (B := hs[max p q]'(by omega)) (X := setN (hs[min p q]'(by omega) ++ hs[max p q]'(by omega))) (fun t => by rw [mem_setN, List.mem_append]) t
    rw [e] at this
    exact this
theorem Ok.merged {hs : Hands} (H : Ok hs) {p q : Nat} (hp : p < hs.length) (hq : q < hs.length) : Ok (mergedN hs p q) := by
  by_cases h : p = q
  · unfold mergedN; rw [if_pos h]; exact H
  · rw [merged_eq hp hq h]
    have := H.le
    refine ⟨by simp; omega, ?_, fun x hx => ?_⟩
    · simp only [List.length_append, List.length_cons, List.length_take, List.length_drop]
      omega
    · rcases List.mem_append.mp hx with hx | hx
      · exact H.hd _ (List.mem_of_mem_take hx)
      · rcases List.mem_cons.mp hx with rfl | hx
        · refine ⟨setN_asc _, fun t ht => ?_⟩
          rcases List.mem_append.mp (mem_setN.mp ht) with g | g
          · exact (H.hd _ (List.getElem_mem _)).lt t g
          · exact (H.hd _ (List.getElem_mem _)).lt t g
        · rcases List.mem_append.mp hx with hx | hx
          · exact H.hd _ (List.mem_of_mem_drop (List.mem_of_mem_take hx))
          · exact H.hd _ (List.mem_of_mem_drop hx)
theorem Ok.drop {hs : Hands} (H : Ok hs) (t : Nat) : Ok (dropN hs t) := ⟨by unfold dropN; rw [List.length_map]; exact H.pos, by unfold dropN; rw [List.length_map]; exact H.le, fun h hh => by
  unfold dropN at hh
  obtain ⟨x, hx, rfl⟩ := List.mem_map.mp hh
  exact (H.hd x hx).filter _⟩
theorem things_drop (hs : Hands) (x : Nat) : thingsN (dropN hs x) = (thingsN hs).filter fun t => decide (t ≠ x) := by
  refine asc_ext (things_asc _) ((things_asc hs).filter _) fun t => ?_
  rw [List.mem_filter, mem_things, mem_things, decide_eq_true_iff]
  constructor
  · rintro ⟨h, hh, ht⟩
    unfold dropN at hh
    obtain ⟨y, hy, rfl⟩ := List.mem_map.mp hh
    obtain ⟨a, b⟩ := List.mem_filter.mp ht
    exact ⟨⟨y, hy, a⟩, of_decide_eq_true b⟩
  · rintro ⟨⟨h, hh, ht⟩, g⟩
    exact ⟨_, List.mem_map.mpr ⟨h, hh, rfl⟩, List.mem_filter.mpr ⟨ht, decide_eq_true g⟩⟩
theorem leave_eq (hs : Hands) (p : Nat) : leaveN hs p = hs.eraseIdx p := by
  rw [List.eraseIdx_eq_take_drop_succ]
  rfl
theorem Ok.leave {hs : Hands} (H : Ok hs) {p : Nat} (hp : p < hs.length) (h2 : 1 < hs.length) : Ok (leaveN hs p) := by
  have := H.le
  rw [leave_eq]
  refine ⟨?_, ?_, fun h hh => H.hd h (List.mem_of_mem_eraseIdx hh)⟩
  · rw [List.length_eraseIdx_of_lt hp]; omega
  · rw [List.length_eraseIdx_of_lt hp]; omega
theorem mem_things_leave {hs : Hands} {p t : Nat} : t ∈ thingsN (leaveN hs p) ↔ ∃ q, q < hs.length ∧ q ≠ p ∧ t ∈ hs[q]?.getD [] := by
  rw [mem_things, leave_eq]
  constructor
  · rintro ⟨h, hh, ht⟩
    obtain ⟨i, hi, hne, rfl⟩ := List.mem_eraseIdx_iff_getElem.mp hh
    exact ⟨i, hi, hne, by rw [getD_in hi]; exact ht⟩
  · rintro ⟨q, hq, hne, ht⟩
    rw [getD_in hq] at ht
    exact ⟨hs[q], List.mem_eraseIdx_iff_getElem.mpr ⟨q, hq, hne, rfl⟩, ht⟩
theorem sort_leave {hs : Hands} (H : Ok hs) {p : Nat} (hp : p < hs.length) : srt cN (thingsN (leaveN hs p) ++ lostByN hs p) = thingsN hs := by
  refine srt_of ?_ (things_asc hs) fun t => ?_
  · refine List.nodup_append.mpr ⟨(things_asc _).imp fun h => Nat.ne_of_lt h, ((H.at hp).asc.filter _).imp fun h => Nat.ne_of_lt h, ?_⟩
    rintro t ht u hu rfl
    obtain ⟨q, a, b, c⟩ := mem_things_leave.mp ht
    exact of_decide_eq_true (List.mem_filter.mp hu).2 q a b c
  · rw [List.mem_append, mem_things_leave, mem_things]
    constructor
    · rintro (⟨q, a, b, c⟩ | h)
      · exact ⟨_, getD_mem a, c⟩
      · exact ⟨_, getD_mem hp, (List.mem_filter.mp h).1⟩
    · rintro ⟨h, hh, ht⟩
      obtain ⟨i, hi, rfl⟩ := List.getElem_of_mem hh
      by_cases g : ∃ q, q < hs.length ∧ q ≠ p ∧ t ∈ hs[q]?.getD []
      · exact .inl g
      · refine .inr (List.mem_filter.mpr ⟨?_, decide_eq_true fun q a b c => g ⟨q, a, b, c⟩⟩)
        by_cases e : i = p
        · subst e; rw [getD_in hi]; exact ht
        · exact absurd ⟨i, hi, e, by rw [getD_in hi]; exact ht⟩ g
theorem empty_end {hs : Hands} (ps : List Nat) {p : Nat} (h : p ∈ emptyN hs) : p ∈ emptyN (afterN hs ps) := by
  obtain ⟨h1, h2⟩ := List.mem_filter.mp h
  refine List.mem_filter.mpr ⟨by rw [after_len]; exact h1, decide_eq_true ?_⟩
  rw [after_hand, of_decide_eq_true h2]
  rfl
theorem rev_end {hs : Hands} {ps : List Nat} (h : countN (afterN hs ps) - (thingsN hs).length = 0) (os : List Nat) : afterN (afterN hs ps) os = afterN hs ps := by
  refine after_none (one_count ?_) os
  have := things_le (afterN hs ps)
  rw [things_after] at this ⊢
  omega
theorem Ppl.all (n : Nat) : Ppl n (List.range n) := ⟨List.pairwise_lt_range, fun q hq => List.mem_range.mp hq⟩
end Ev
end

section
set_option linter.all false
set_option autoImplicit false
set_option maxRecDepth 10000
/-! Me: come, give, part, neighbours, groups, is_end. -/
namespace Ev
open T
section
variable {k : Nat}
def giveN (hs : Hands) (p t : Nat) : Hands := hs.set p (setN ((hs[p]?.getD []) ++ [t]))
theorem w_come (hk : 5 ≤ k) {hs : Hands} (H : Ok hs) (h6 : hs.length < 7) {h : List Nat} (hh : Hd h) : callD PM k 24 [cH.e hs, (cT cN).e h] = .ok (cH.e (hs ++ [h]), []) := by
  obtain ⟨j, rfl⟩ : ∃ j, k = j + 5 := ⟨k - 5, by omega⟩
  rw [call_s p_come rfl]
  have h1 : ¬ hs.length = 7 := by omega
  have h2 : hs.length + 1 ≤ line := line_of (by omega)
  simp [d_come, w_need_hands _ H, w_is_hand _ hh, h1, H.line, h2]
theorem set_len {h : List Nat} (H : Hd h) {t : Nat} (ht : t < 8) : (setN (h ++ [t])).length ≤ 8 := asc_len (setN_asc _) fun z hz => by
  rcases List.mem_append.mp (mem_setN.mp hz) with g | g
  · exact H.lt z g
  · rw [List.mem_singleton.mp g]; exact ht
theorem w_give (hk : 5 ≤ k) {hs : Hands} (H : Ok hs) {p : Nat} (hp : p < hs.length) {t : Nat} (ht : t < 8) : callD PM k 27 [cH.e hs, cN.e p, cN.e t] = .ok (cH.e (giveN hs p t), []) := by
  obtain ⟨j, rfl⟩ : ∃ j, k = j + 5 := ⟨k - 5, by omega⟩
  rw [call_s p_give rfl]
  have h1 : min p hs.length ≤ line := Nat.le_trans (Nat.min_le_right _ _) H.line
  have h2 : hs.length ≤ line + (p + 1) := Nat.le_trans H.line (Nat.le_add_right _ _)
  have h3 : min p hs.length + (hs.length - (p + 1) + 1) ≤ line := by
    have := H.le
    refine line_of ?_
    omega
  have h4 : t ≤ 7 := by omega
  have h5 := H.ln hp
  have h6 := (H.hd _ (List.getElem_mem hp)).len
  have h7 : (setN (hs[p] ++ [t])).length < 64 := by have := set_len (H.hd _ (List.getElem_mem hp)) ht; omega
  have h8 : hs[p].length + 1 ≤ line := line_of (by omega)
  have h9 : hs[p].length + 1 ≤ 1000 := by omega
  simp [d_give, w_need_hands _ H, w_need_person _ hp, w_is_in, hp, h4, h5, h7, h8, h9, h1, h2, h3]
  simp [giveN, hp, List.set_eq_take_append_cons_drop]
theorem w_part (hk : 5 ≤ k) {hs : Hands} (H : Ok hs) {ps : List Nat} (hp : Ppl hs.length ps) (hn : ps ≠ []) : callD PM k 28 [cH.e hs, (cT cN).e ps] = .ok (cH.e (ps.map fun p => hs[p]?.getD []), []) := by
  obtain ⟨j, rfl⟩ : ∃ j, k = j + 5 := ⟨k - 5, by omega⟩
  rw [call_s p_part rfl]
  have h0 := hp.len
  have h1 := H.le
  have h3 : ps.length ≤ line := line_of (by omega)
  simp [d_part, w_need_hands _ H, w_need_people _ H hp, hn]
  refine gd_fin2 (fun x hx => hp.lt x hx) (gd_fin2 h3 rfl)
theorem w_end_in (hk : 2 ≤ k) {hs : Hands} (H : Ok hs) : callD PM k 133 [cH.e hs] = .ok (.bool (decide (pairsN hs = [])), []) := by
  obtain ⟨j, rfl⟩ : ∃ j, k = j + 2 := ⟨k - 2, by omega⟩
  rw [call_s p_end_in rfl]
  simp [d_end_in, w_pairs_in _ H]
theorem w_is_end (hk : 5 ≤ k) {hs : Hands} (H : Ok hs) : callD PM k 134 [cH.e hs] = .ok (.bool (decide (pairsN hs = [])), []) := by
  obtain ⟨j, rfl⟩ : ∃ j, k = j + 5 := ⟨k - 5, by omega⟩
  rw [call_s p_is_end rfl]
  simp [d_is_end, w_need_hands _ H, w_end_in _ H]
theorem pairF_nodup (hs : Hands) (a n : Nat) : (pairF hs a n).Nodup := by
  unfold pairF
  refine List.Pairwise.map _ (fun x y (h : x ≠ y) => ?_) (List.Pairwise.filter _ (List.nodup_range' ..))
  simp [h]
theorem pairs_nodup (hs : Hands) : (pairsN hs).Nodup := by
  unfold pairsN
  refine List.pairwise_flatMap.mpr ⟨fun a _ => pairF_nodup .., List.nodup_range.imp fun {a b} h x hx y hy => ?_⟩
  unfold pairF at hx hy
  obtain ⟨i, _, rfl⟩ := List.mem_map.mp hx
  obtain ⟨j, _, rfl⟩ := List.mem_map.mp hy
  simp [h]
theorem share_comm (hs : Hands) (a b : Nat) : shareN hs a b = shareN hs b a := by
  refine Bool.eq_iff_iff.mpr ?_
  rw [share_iff, share_iff]
  exact ⟨fun ⟨t, h1, h2⟩ => ⟨t, h2, h1⟩, fun ⟨t, h1, h2⟩ => ⟨t, h2, h1⟩⟩
/-- the others with something in common -/
def nearN (hs : Hands) (p : Nat) : List Nat := (List.range hs.length).filter fun q => decide (q ≠ p) && shareN hs p q
theorem mem_near {hs : Hands} {p q : Nat} : q ∈ nearN hs p ↔ q < hs.length ∧ q ≠ p ∧ shareN hs p q = true := by
  unfold nearN
  simp
theorem near_eq (hs : Hands) {p : Nat} (hp : p < hs.length) : srt cN (((pairsN hs).filter fun e => decide (e.1 = p) || decide (e.2 = p)).map fun e => if e.1 = p then e.2 else e.1) = nearN hs p := by
  refine srt_of ?_ (List.pairwise_lt_range.filter _) fun z => ?_
  · rw [List.Nodup, List.pairwise_map]
    refine List.Pairwise.imp_of_mem ?_ ((pairs_nodup hs).filter _)
    rintro ⟨a, b⟩ ⟨c, d⟩ h1 h2 h3 h4
    obtain ⟨m1, e1⟩ := List.mem_filter.mp h1
    obtain ⟨m2, e2⟩ := List.mem_filter.mp h2
    have l1 := (mem_pairs.mp m1).1
    have l2 := (mem_pairs.mp m2).1
    simp at e1 e2 h4
    refine h3 ?_
    by_cases g : a = p <;> by_cases g2 : c = p
    · simp [g, g2] at h4 ⊢; exact h4
    · simp [g, g2] at h4 e2; omega
    · simp [g, g2] at h4 e1; omega
    · simp [g, g2] at h4 e1 e2 ⊢; omega
  · rw [List.mem_map]
    show _ ↔ z ∈ nearN hs p
    rw [mem_near]
    constructor
    · rintro ⟨⟨a, b⟩, h1, rfl⟩
      obtain ⟨m1, e1⟩ := List.mem_filter.mp h1
      obtain ⟨l1, l2, l3⟩ := mem_pairs.mp m1
      by_cases g : a = p
      · subst g
        simp
        exact ⟨l2, by omega, l3⟩
      · simp [g] at e1 ⊢
        subst e1
        exact ⟨by omega, by rw [share_comm]; exact l3⟩
    · rintro ⟨h1, h2, h3⟩
      by_cases g : p < z
      · exact ⟨(p, z), List.mem_filter.mpr ⟨mem_pairs.mpr ⟨g, h1, h3⟩, by simp⟩, by simp⟩
      · exact ⟨(z, p), List.mem_filter.mpr ⟨mem_pairs.mpr ⟨by omega, hp, by rw [share_comm]; exact h3⟩, by simp⟩, by simp [h2]⟩
theorem w_neighbours (hk : 5 ≤ k) {hs : Hands} (H : Ok hs) {p : Nat} (hp : p < hs.length) : callD PM k 130 [cH.e hs, cN.e p] = .ok ((cT cN).e (nearN hs p), []) := by
  obtain ⟨j, rfl⟩ : ∃ j, k = j + 5 := ⟨k - 5, by omega⟩
  rw [call_s p_neighbours rfl]
  have hl := pairs_len hs H.le
  simp [d_neighbours, w_need_hands _ H, w_need_person _ hp, w_pairs_in _ H]
  refine forF_filter (cP cN cN) (fun acc => [some (cH.e hs), some (cN.e p), some ((cL cN).e acc), none, none]) (fun e => if e.1 = p then e.2 else e.1) (fun e => decide (e.1 = p) || decide (e.2 = p)) rfl (line_of (by omega)) (fun e he acc ha => ?_) ?_
  · obtain ⟨a, b⟩ := e
    by_cases g : a = p
    · simp [g, ha]
    · by_cases g2 : b = p
      · simp [g, g2, ha]
      · simp [g, g2, ha]
  · simp
    rw [near_eq hs hp]
/-! ### groups -/
def lat (g : List Nat) (a : Nat) : Nat := g[a]?.getD 0
def relabN (g : List Nat) (e : Nat × Nat) : List Nat := g.map fun x => if x = lat g e.2 then lat g e.1 else x
def labN (hs : Hands) : List Nat := (pairsN hs).foldl relabN (List.range hs.length)
def clsN (hs : Hands) (x : Nat) : List Nat := (List.range hs.length).filter fun p => decide (lat (labN hs) p = x)
def groupsN (hs : Hands) : List (List Nat) := srt (cT cN) ((setN (labN hs)).map (clsN hs))
@[simp] theorem relab_len (g : List Nat) (e : Nat × Nat) : (relabN g e).length = g.length := by simp [relabN]
theorem relab_at {g : List Nat} {a : Nat} (e : Nat × Nat) (h : a < g.length) : lat (relabN g e) a = if lat g a = lat g e.2 then lat g e.1 else lat g a := by
  unfold lat relabN
  rw [List.getElem?_map, List.getElem?_eq_getElem h]
  rfl
theorem fold_len : ∀ (es : List (Nat × Nat)) (g : List Nat), (es.foldl relabN g).length = g.length
  | [], _ => rfl
  | e :: es, g => by rw [List.foldl_cons, fold_len es, relab_len]
theorem foldA : ∀ (es : List (Nat × Nat)) {g : List Nat} {a b : Nat}, a < g.length → b < g.length → lat g a = lat g b → lat (es.foldl relabN g) a = lat (es.foldl relabN g) b
  | [], g, a, b, _, _, h => h
  | e :: es, g, a, b, ha, hb, h => by
    rw [List.foldl_cons]
    refine foldA es (by rw [relab_len]; exact ha) (by rw [relab_len]; exact hb) ?_
    rw [relab_at e ha, relab_at e hb, h]
theorem foldB : ∀ (es : List (Nat × Nat)) {g : List Nat} {e : Nat × Nat}, e ∈ es → e.1 < g.length → e.2 < g.length → lat (es.foldl relabN g) e.1 = lat (es.foldl relabN g) e.2
  | f :: es, g, e, h, h1, h2 => by
    rw [List.foldl_cons]
    rcases List.mem_cons.mp h with rfl | h
    · refine foldA es (by rw [relab_len]; exact h1) (by rw [relab_len]; exact h2) ?_
      rw [relab_at e h1, relab_at e h2, if_pos rfl]
      split <;> rfl
    · exact foldB es h (by rw [relab_len]; exact h1) (by rw [relab_len]; exact h2)
/-- hang together -/
inductive Con (hs : Hands) : Nat → Nat → Prop
  | refl (a : Nat) : Con hs a a
  | step {a b c : Nat} : Con hs a b → b < hs.length → c < hs.length → shareN hs b c = true → Con hs a c
theorem Con.trans {hs : Hands} {a b c : Nat} (h : Con hs a b) (g : Con hs b c) : Con hs a c := by
  induction g with
  | refl => exact h
  | step _ h1 h2 h3 ih => exact ih.step h1 h2 h3
theorem Con.edge {hs : Hands} {a b : Nat} (h1 : a < hs.length) (h2 : b < hs.length) (h : shareN hs a b = true) : Con hs a b := (Con.refl a).step h1 h2 h
theorem Con.symm {hs : Hands} {a b : Nat} (h : Con hs a b) : Con hs b a := by
  induction h with
  | refl => exact .refl _
  | step _ h1 h2 h3 ih => exact (Con.edge h2 h1 (by rw [share_comm]; exact h3)).trans ih
theorem foldC {hs : Hands} : ∀ (es : List (Nat × Nat)) {g : List Nat}, g.length = hs.length → (∀ e ∈ es, e.1 < hs.length ∧ e.2 < hs.length ∧ Con hs e.1 e.2) → (∀ a b, a < hs.length → b < hs.length → lat g a = lat g b → Con hs a b) →
    ∀ a b, a < hs.length → b < hs.length → lat (es.foldl relabN g) a = lat (es.foldl relabN g) b → Con hs a b
  | [], g, _, _, h => h
  | e :: es, g, hl, he, h => by
    rw [List.foldl_cons]
    obtain ⟨e1, e2, ec⟩ := he e List.mem_cons_self
    refine foldC es (by rw [relab_len]; exact hl) (fun f hf => he f (List.mem_cons_of_mem _ hf)) fun a b ha hb q => ?_
    rw [relab_at e (by omega), relab_at e (by omega)] at q
    by_cases g1 : lat g a = lat g e.2 <;> by_cases g2 : lat g b = lat g e.2
    · exact h a b ha hb (g1.trans g2.symm)
    · rw [if_pos g1, if_neg g2] at q
      exact ((h a e.2 ha e2 g1).trans ec.symm).trans (h e.1 b e1 hb q)
    · rw [if_neg g1, if_pos g2] at q
      exact ((h a e.1 ha e1 q).trans ec).trans (h e.2 b e2 hb g2.symm)
    · rw [if_neg g1, if_neg g2] at q
      exact h a b ha hb q
@[simp] theorem lab_len (hs : Hands) : (labN hs).length = hs.length := by unfold labN; rw [fold_len, List.length_range]
theorem lat_range {n a : Nat} (h : a < n) : lat (List.range n) a = a := by
  unfold lat
  rw [List.getElem?_eq_getElem (by rw [List.length_range]; exact h), List.getElem_range]
  rfl
theorem lab_iff {hs : Hands} {a b : Nat} (ha : a < hs.length) (hb : b < hs.length) : lat (labN hs) a = lat (labN hs) b ↔ Con hs a b := by
  constructor
  · refine foldC (pairsN hs) List.length_range (fun e he => ?_) (fun a b ha hb q => ?_) a b ha hb
    · obtain ⟨h1, h2, h3⟩ := mem_pairs.mp (show (e.1, e.2) ∈ pairsN hs from he)
      exact ⟨by omega, h2, .edge (by omega) h2 h3⟩
    · rw [lat_range ha, lat_range hb] at q
      subst q
      exact .refl a
  · intro h
    induction h with
    | refl => rfl
    | step h0 h1 h2 h3 ih =>
      rename_i c d
      refine (ih h1).trans ?_
      have hl : (List.range hs.length).length = hs.length := List.length_range
      rcases Nat.lt_trichotomy c d with g | g | g
      · exact foldB (pairsN hs) (e := (c, d)) (mem_pairs.mpr ⟨g, h2, h3⟩) (by rw [hl]; exact h1) (by rw [hl]; exact h2)
      · rw [g]
      · exact (foldB (pairsN hs) (e := (d, c)) (mem_pairs.mpr ⟨g, h1, by rw [share_comm]; exact h3⟩) (by rw [hl]; exact h2) (by rw [hl]; exact h1)).symm
theorem lat_mem {hs : Hands} {a : Nat} (ha : a < hs.length) : lat (labN hs) a ∈ labN hs := by
  unfold lat
  exact getD_mem (by rw [lab_len]; exact ha)
theorem mem_lab {hs : Hands} {x : Nat} : x ∈ labN hs ↔ ∃ a, a < hs.length ∧ lat (labN hs) a = x := by
  constructor
  · intro h
    obtain ⟨i, hi, rfl⟩ := List.getElem_of_mem h
    rw [lab_len] at hi
    exact ⟨i, hi, by unfold lat; rw [getD_in (by rw [lab_len]; exact hi)]⟩
  · rintro ⟨a, ha, rfl⟩
    exact lat_mem ha
theorem lab_lt {hs : Hands} : ∀ x ∈ labN hs, x < hs.length := by
  have : ∀ (es : List (Nat × Nat)) (g : List Nat), (∀ e ∈ es, e.1 < g.length ∧ e.2 < g.length) → (∀ x ∈ g, x < hs.length) → ∀ x ∈ es.foldl relabN g, x < hs.length := by
    intro es
    induction es with
    | nil => exact fun g _ h => h
    | cons e es ih =>
      intro g he h
      rw [List.foldl_cons]
      refine ih _ (fun f hf => by rw [relab_len]; exact he f (List.mem_cons_of_mem _ hf)) fun x hx => ?_
      obtain ⟨y, hy, rfl⟩ := List.mem_map.mp hx
      show (if y = lat g e.2 then lat g e.1 else y) < hs.length
      split
      · exact h _ (getD_mem (he e List.mem_cons_self).1)
      · exact h y hy
  refine this _ _ (fun e he => ?_) fun x hx => List.mem_range.mp hx
  obtain ⟨h1, h2, _⟩ := mem_pairs.mp (show (e.1, e.2) ∈ pairsN hs from he)
  rw [List.length_range]
  exact ⟨by omega, h2⟩
theorem w_groups_in (hk : 2 ≤ k) {hs : Hands} (H : Ok hs) : callD PM k 131 [cH.e hs] = .ok ((cL (cT cN)).e (groupsN hs), []) := by
  obtain ⟨j, rfl⟩ : ∃ j, k = j + 2 := ⟨k - 2, by omega⟩
  rw [call_s p_groups_in rfl]
  have hl := pairs_len hs H.le
  have hle := H.le
  simp [d_groups_in, lrng1_N _ (show hs.length ≤ 10000000 by omega), w_pairs_in _ H, H.le9]
  refine forF_bind (cP cN cN) (fun g => [some (cH.e hs), some ((cL cN).e g), none, none, none, none, none, none, none]) relabN (fun _ g => g.length = hs.length) (List.range hs.length) rfl List.length_range (fun n g e he hn hg => ⟨.inl ?_, by rw [relab_len]; exact hg⟩) fun hI => ?_
  · obtain ⟨h1, h2, _⟩ := mem_pairs.mp (show (e.1, e.2) ∈ pairsN hs from he)
    obtain ⟨a, b⟩ := e
    have h1 : a < b := h1
    have h2 : b < hs.length := h2
    have g1 : a < g.length := by omega
    have g2 : b < g.length := by omega
    have g3 : g.length ≤ line := by rw [hg]; exact H.line
    have ef : (fun x => R.ok (if x = g[b] then [cN.e g[a]] else [cN.e x])) = fun x => R.ok [cN.e (if x = g[b] then g[a] else x)] := funext fun x => by split <;> rfl
    simp [g1, g2, g3]
    rw [ef]
    simp [g3]
    simp [relabN, lat, g1, g2]
  · have e0 : List.foldl relabN (List.range (List.length hs)) (pairsN hs) = labN hs := rfl
    rw [e0]
    have s1 : hs.length ≤ 1000 := by omega
    have s2 : (setN (labN hs)).length < 64 := Nat.lt_of_le_of_lt (setN_len _) (by rw [lab_len]; omega)
    have hlt : ∀ x ∈ setN (labN hs), x < hs.length := fun x hx => lab_lt x (mem_setN.mp hx)
    simp [s1, s2]
    refine forF_filter cN (fun acc => [some (cH.e hs), some ((cL cN).e (labN hs)), some ((cL (cT cN)).e acc), none, none, none, none, none, none]) (clsN hs) (fun _ => true) rfl (show (setN (labN hs)).length ≤ line from line_of (by omega)) (fun x hx acc ha => ?_) ?_
    · simp [H.le9]
      exact gd_fin2 (ln_filter (by rw [List.length_range]; exact H.line)) (gd_fin2 ha rfl)
    · simp [groupsN, filt_all]
theorem w_groups (hk : 5 ≤ k) {hs : Hands} (H : Ok hs) : callD PM k 132 [cH.e hs] = .ok ((cT (cT cN)).e (groupsN hs), []) := by
  obtain ⟨j, rfl⟩ : ∃ j, k = j + 5 := ⟨k - 5, by omega⟩
  rw [call_s p_groups rfl]
  simp [d_groups, w_need_hands _ H, w_groups_in _ H]
theorem groups_count (hs : Hands) : (groupsN hs).length = (setN (labN hs)).length := by
  unfold groupsN
  rw [(srt_perm (cT cN) _).length_eq, List.length_map]
theorem nd_sub {α : Type} [DecidableEq α] : ∀ {l m : List α}, l.Nodup → (∀ x ∈ l, x ∈ m) → l.length ≤ m.length
  | [], _, _, _ => Nat.zero_le _
  | x :: l, m, hn, hs => by
    obtain ⟨h1, h2⟩ := List.nodup_cons.mp hn
    have hx := hs x List.mem_cons_self
    have := nd_sub (m := m.erase x) h2 fun y hy => (List.mem_erase_of_ne (fun e => h1 (by rw [← e]; exact hy))).mpr (hs y (List.mem_cons_of_mem _ hy))
    rw [List.length_erase_of_mem hx] at this
    have := List.length_pos_of_mem hx
    rw [List.length_cons]
    omega
/-- people of b are of a; who hang together in a hang together in b -/
theorem groups_le {a b : Hands} (f g : Nat → Nat) (hf : ∀ q, q < a.length → f q < b.length) (hg : ∀ m, m < b.length → g m < a.length ∧ f (g m) = m) (hc : ∀ p q, p < a.length → q < a.length → shareN a p q = true → Con b (f p) (f q)) : (groupsN b).length ≤ (groupsN a).length := by
  rw [groups_count, groups_count]
  have hC : ∀ {p q}, Con a p q → Con b (f p) (f q) := by
    intro p q h
    induction h with
    | refl => exact .refl _
    | step _ h1 h2 h3 ih => exact ih.trans (hc _ _ h1 h2 h3)
  have hrep : ∀ x, ∃ m, x ∈ setN (labN b) → m < b.length ∧ lat (labN b) m = x := fun x => by
    by_cases h : x ∈ setN (labN b)
    · obtain ⟨m, h1, h2⟩ := mem_lab.mp (mem_setN.mp h)
      exact ⟨m, fun _ => ⟨h1, h2⟩⟩
    · exact ⟨0, fun h2 => absurd h2 h⟩
  have hch := Classical.axiomOfChoice hrep
  obtain ⟨r, hr⟩ := hch
  have hlen : (setN (labN b)).length = ((setN (labN b)).map fun x => lat (labN a) (g (r x))).length := by rw [List.length_map]
  rw [hlen]
  refine nd_sub ?_ ?_
  · rw [List.Nodup, List.pairwise_map]
    refine List.Pairwise.imp_of_mem (fun {x y} hx hy hxy e => ?_) (setN_asc (labN b))
    obtain ⟨x1, x2⟩ := hr x hx
    obtain ⟨y1, y2⟩ := hr y hy
    have c := hC ((lab_iff (hg _ x1).1 (hg _ y1).1).mp e)
    rw [(hg _ x1).2, (hg _ y1).2] at c
    have := (lab_iff x1 y1).mpr c
    omega
  · intro z hz
    obtain ⟨x, hx, rfl⟩ := List.mem_map.mp hz
    obtain ⟨x1, x2⟩ := hr x hx
    exact mem_setN.mpr (lat_mem (hg _ x1).1)
end
/-! ### people and things that come and leave -/
theorem Hd.set {h : List Nat} (H : Hd h) {t : Nat} (ht : t < 8) : Hd (setN (h ++ [t])) := ⟨setN_asc _, fun z hz => by
  rcases List.mem_append.mp (mem_setN.mp hz) with g | g
  · exact H.lt z g
  · rw [List.mem_singleton.mp g]; exact ht⟩
theorem Ok.give {hs : Hands} (H : Ok hs) {p : Nat} (hp : p < hs.length) {t : Nat} (ht : t < 8) : Ok (giveN hs p t) := ⟨by unfold giveN; rw [List.length_set]; exact H.pos, by unfold giveN; rw [List.length_set]; exact H.le, fun h hh => by
  rcases List.mem_or_eq_of_mem_set hh with h1 | rfl
  · exact H.hd h h1
  · exact (H.at hp).set ht⟩
theorem Ok.come {hs : Hands} (H : Ok hs) (h6 : hs.length < 7) {h : List Nat} (hh : Hd h) : Ok (hs ++ [h]) := ⟨by rw [List.length_append]; have := H.pos; omega, by rw [List.length_append]; exact h6, fun x hx => by
  rcases List.mem_append.mp hx with g | g
  · exact H.hd x g
  · rw [List.mem_singleton.mp g]; exact hh⟩
theorem come_at (hs : Hands) (h : List Nat) (q : Nat) : (hs ++ [h])[q]?.getD [] = if q = hs.length then h else hs[q]?.getD [] := by
  rcases Nat.lt_trichotomy q hs.length with g | g | g
  · rw [List.getElem?_append_left g, if_neg (by omega)]
  · subst g; simp
  · rw [if_neg (by omega), List.getElem?_eq_none (by rw [List.length_append]; simp; omega), List.getElem?_eq_none (by omega)]
theorem leave_come (hs : Hands) (h : List Nat) : leaveN (hs ++ [h]) hs.length = hs := by
  unfold leaveN
  rw [List.take_left, List.drop_of_length_le (by simp), List.append_nil]
theorem count_come (hs : Hands) (h : List Nat) : countN (hs ++ [h]) = countN hs + h.length := by simp [countN]
theorem things_come_nil (hs : Hands) : thingsN (hs ++ [[]]) = thingsN hs := by simp [thingsN]
theorem share_come_nil (hs : Hands) (a b : Nat) : shareN (hs ++ [[]]) a b = shareN hs a b := by
  refine Bool.eq_iff_iff.mpr ?_
  rw [share_iff, share_iff]
  simp only [come_at]
  constructor
  · rintro ⟨t, h1, h2⟩
    refine ⟨t, ?_, ?_⟩
    · split at h1
      · cases h1
      · exact h1
    · split at h2
      · cases h2
      · exact h2
  · rintro ⟨t, h1, h2⟩
    have g1 := lt_of_mem_at h1
    have g2 := lt_of_mem_at h2
    exact ⟨t, by rw [if_neg (by omega)]; exact h1, by rw [if_neg (by omega)]; exact h2⟩
theorem lex_ext {l m : List (Nat × Nat)} (hl : l.Pairwise fun x y => x.1 < y.1 ∨ x.1 = y.1 ∧ x.2 < y.2) (hm : m.Pairwise fun x y => x.1 < y.1 ∨ x.1 = y.1 ∧ x.2 < y.2) (h : ∀ z, z ∈ l ↔ z ∈ m) : l = m := by
  induction l generalizing m with
  | nil =>
    cases m with
    | nil => rfl
    | cons y m => exact absurd ((h y).mpr List.mem_cons_self) (by simp)
  | cons x l ih =>
    cases m with
    | nil => exact absurd ((h x).mp List.mem_cons_self) (by simp)
    | cons y m =>
      obtain ⟨l1, l2⟩ := List.pairwise_cons.mp hl
      obtain ⟨m1, m2⟩ := List.pairwise_cons.mp hm
      have e : x = y := by
        rcases List.mem_cons.mp ((h x).mp List.mem_cons_self) with g | g
        · exact g
        · rcases List.mem_cons.mp ((h y).mpr List.mem_cons_self) with g2 | g2
          · exact g2.symm
          · have a := m1 x g
            have b := l1 y g2
            omega
      subst e
      congr 1
      refine ih l2 m2 fun z => ?_
      constructor
      · intro hz
        rcases List.mem_cons.mp ((h z).mp (List.mem_cons_of_mem _ hz)) with g | g
        · subst g; have := l1 z hz; omega
        · exact g
      · intro hz
        rcases List.mem_cons.mp ((h z).mpr (List.mem_cons_of_mem _ hz)) with g | g
        · subst g; have := m1 z hz; omega
        · exact g
theorem pairs_asc (hs : Hands) : (pairsN hs).Pairwise fun x y => x.1 < y.1 ∨ x.1 = y.1 ∧ x.2 < y.2 := by
  unfold pairsN
  refine List.pairwise_flatMap.mpr ⟨fun a _ => ?_, List.pairwise_lt_range.imp fun {a b} h x hx y hy => ?_⟩
  · unfold pairF
    refine List.Pairwise.map _ (fun x y (h : x < y) => ?_) (List.Pairwise.filter _ List.pairwise_lt_range')
    exact .inr ⟨rfl, h⟩
  · unfold pairF at hx hy
    obtain ⟨i, _, rfl⟩ := List.mem_map.mp hx
    obtain ⟨j, _, rfl⟩ := List.mem_map.mp hy
    exact .inl h
theorem pairs_ext {a b : Hands} (h : ∀ i j, i < j → ((j < a.length ∧ shareN a i j = true) ↔ (j < b.length ∧ shareN b i j = true))) : pairsN a = pairsN b := by
  refine lex_ext (pairs_asc a) (pairs_asc b) fun ⟨i, j⟩ => ?_
  rw [mem_pairs, mem_pairs]
  exact ⟨fun ⟨h1, h2⟩ => ⟨h1, (h i j h1).mp h2⟩, fun ⟨h1, h2⟩ => ⟨h1, (h i j h1).mpr h2⟩⟩
theorem share_lt {hs : Hands} {a b : Nat} (h : shareN hs a b = true) : b < hs.length := by
  obtain ⟨t, _, h2⟩ := share_iff.mp h
  exact lt_of_mem_at h2
theorem pairs_come_nil (hs : Hands) : pairsN (hs ++ [[]]) = pairsN hs := pairs_ext fun i j _ => by
  rw [share_come_nil]
  exact ⟨fun h => ⟨share_lt h.2, h.2⟩, fun h => ⟨by rw [List.length_append]; omega, h.2⟩⟩
theorem near_come {hs : Hands} {f : List Nat} : nearN (hs ++ [f]) hs.length = (List.range hs.length).filter fun q => decide ((hs[q]?.getD []).filter (fun t => decide (t ∈ f)) ≠ []) := by
  unfold nearN
  rw [List.length_append, show [f].length = 1 from rfl, List.range_succ, List.filter_append]
  have e1 : [hs.length].filter (fun q => decide (q ≠ hs.length) && shareN (hs ++ [f]) hs.length q) = [] := by simp
  rw [e1, List.append_nil]
  refine List.filter_congr fun q hq => ?_
  have hq := List.mem_range.mp hq
  rw [decide_eq_true (show q ≠ hs.length by omega), Bool.true_and]
  refine Bool.eq_iff_iff.mpr ?_
  rw [share_iff, decide_eq_true_iff]
  simp only [come_at, if_true, if_neg (show ¬ q = hs.length by omega)]
  rw [Ne, List.filter_eq_nil_iff]
  simp
  constructor
  · rintro ⟨t, a, b⟩; exact ⟨t, b, a⟩
  · rintro ⟨t, a, b⟩; exact ⟨t, b, a⟩
theorem one_iff {l : List Nat} {p : Nat} (hn : l.Nodup) (hp : p ∈ l) : l.length = 1 ↔ ∀ q ∈ l, q = p := by
  constructor
  · intro h q hq
    match l, h, hp, hq with
    | [x], _, hp, hq => rw [List.mem_singleton.mp hp, List.mem_singleton.mp hq]
  · intro h
    match l, hn, hp, h with
    | [x], _, _, _ => rfl
    | x :: y :: r, hn, _, h =>
      have := h x (by simp)
      have := h y (by simp)
      rw [List.nodup_cons] at hn
      exact absurd (show x ∈ y :: r by simp; left; omega) hn.1
theorem lost_alone {hs : Hands} {p : Nat} (hp : p < hs.length) : lostByN hs p = aloneN hs p := by
  unfold lostByN aloneN
  refine List.filter_congr fun t ht => decide_eq_decide.mpr ?_
  rw [one_iff (hold_nodup hs t) (mem_hold.mpr ⟨hp, ht⟩)]
  constructor
  · intro h q hq
    obtain ⟨a, b⟩ := mem_hold.mp hq
    exact Classical.byContradiction fun g => h q a g b
  · intro h q hq hne hm
    exact hne (h q (mem_hold.mpr ⟨hq, hm⟩))
theorem things_leave {hs : Hands} {p : Nat} (hp : p < hs.length) : thingsN (leaveN hs p) = (thingsN hs).filter fun t => decide (t ∉ aloneN hs p) := by
  refine asc_ext (things_asc _) ((things_asc hs).filter _) fun t => ?_
  rw [List.mem_filter, decide_eq_true_iff, mem_things_leave, ← lost_alone hp]
  constructor
  · rintro ⟨q, a, b, c⟩
    refine ⟨mem_things.mpr ⟨_, getD_mem a, c⟩, fun h => ?_⟩
    exact of_decide_eq_true (List.mem_filter.mp h).2 q a b c
  · rintro ⟨h1, h2⟩
    obtain ⟨h, hh, ht⟩ := mem_things.mp h1
    obtain ⟨i, hi, rfl⟩ := List.getElem_of_mem hh
    have ht : t ∈ hs[i]?.getD [] := by rw [getD_in hi]; exact ht
    by_cases e : i = p
    · subst e
      refine Classical.byContradiction fun g => h2 (List.mem_filter.mpr ⟨ht, decide_eq_true fun q a b c => g ⟨q, a, b, c⟩⟩)
    · exact ⟨i, hi, e, ht⟩
theorem give_at {hs : Hands} {p : Nat} (hp : p < hs.length) (t q : Nat) : (giveN hs p t)[q]?.getD [] = if q = p then setN ((hs[p]?.getD []) ++ [t]) else hs[q]?.getD [] := by
  unfold giveN
  rw [List.getElem?_set]
  by_cases h : q = p
  · subst h; simp [hp]
  · rw [if_neg h, if_neg fun e => h e.symm]
@[simp] theorem give_len (hs : Hands) (p t : Nat) : (giveN hs p t).length = hs.length := by simp [giveN]
theorem drop_at (hs : Hands) (t q : Nat) : (dropN hs t)[q]?.getD [] = (hs[q]?.getD []).filter fun x => decide (x ≠ t) := by
  unfold dropN
  rw [List.getElem?_map]
  cases hs[q]? <;> rfl
theorem not_at {hs : Hands} {t : Nat} (h : t ∉ thingsN hs) (q : Nat) : t ∉ hs[q]?.getD [] := fun g => h (mem_things.mpr ⟨_, getD_mem (lt_of_mem_at g), g⟩)
theorem drop_give {hs : Hands} (H : Ok hs) {p : Nat} (hp : p < hs.length) {t : Nat} (ht : t ∉ thingsN hs) : dropN (giveN hs p t) t = hs := by
  refine ext_hands (by simp [dropN]) fun q => ?_
  rw [drop_at, give_at hp]
  split
  · rename_i h
    subst h
    refine asc_ext ((setN_asc _).filter _) (H.at hp).asc fun z => ?_
    rw [List.mem_filter, mem_setN, List.mem_append, List.mem_singleton, decide_eq_true_iff]
    exact ⟨fun ⟨a, b⟩ => a.resolve_right b, fun h => ⟨.inl h, fun e => not_at ht q (e ▸ h)⟩⟩
  · rw [List.filter_eq_self]
    exact fun x hx => decide_eq_true fun e => not_at ht q (e ▸ hx)
theorem hold_give {hs : Hands} {p : Nat} (hp : p < hs.length) {t : Nat} (ht : t ∉ thingsN hs) : holdN (giveN hs p t) t = [p] := by
  refine asc_ext (hold_asc _ _) (List.pairwise_singleton _ _) fun q => ?_
  rw [mem_hold, give_at hp, give_len, List.mem_singleton]
  split
  · rename_i h
    subst h
    simp [hp]
  · rename_i h
    exact ⟨fun g => absurd g.2 (not_at ht q), fun g => absurd g h⟩
theorem pairs_give {hs : Hands} {p : Nat} (hp : p < hs.length) {t : Nat} (ht : t ∉ thingsN hs) : pairsN (giveN hs p t) = pairsN hs := pairs_ext fun i j hij => by
  rw [give_len, share_iff, share_iff, give_at hp, give_at hp]
  refine and_congr_right fun _ => exists_congr fun u => ?_
  by_cases h1 : i = p
  · subst h1
    rw [if_pos rfl, if_neg (by omega), mem_setN, List.mem_append, List.mem_singleton]
    exact ⟨fun ⟨a, b⟩ => ⟨a.resolve_right fun e => not_at ht j (e ▸ b), b⟩, fun ⟨a, b⟩ => ⟨.inl a, b⟩⟩
  · by_cases h2 : j = p
    · subst h2
      rw [if_pos rfl, if_neg h1, mem_setN, List.mem_append, List.mem_singleton]
      exact ⟨fun ⟨a, b⟩ => ⟨a, b.resolve_right fun e => not_at ht i (e ▸ a)⟩, fun ⟨a, b⟩ => ⟨a, .inl b⟩⟩
    · rw [if_neg h1, if_neg h2]
theorem sum_set : ∀ (l : List Nat) (i x : Nat) (h : i < l.length), (l.set i x).sum + l[i] = l.sum + x
  | y :: l, 0, x, _ => by simp; omega
  | y :: l, i + 1, x, h => by
    have := sum_set l i x (by simpa using h)
    simp
    omega
theorem set_snoc {h : List Nat} (H : Hd h) {t : Nat} (ht : t ∉ h) : (setN (h ++ [t])).length = h.length + 1 := by
  have e : setN (h ++ [t]) = insN t h := asc_ext (setN_asc _) (insN_asc H.asc) fun z => by
    rw [mem_setN, mem_insN, List.mem_append, List.mem_singleton]
    exact Or.comm
  rw [e, insN_len H.asc, if_neg ht]
theorem count_give {hs : Hands} (H : Ok hs) {p : Nat} (hp : p < hs.length) {t : Nat} (ht : t ∉ thingsN hs) : countN (giveN hs p t) = countN hs + 1 := by
  have h1 := sum_set (hs.map List.length) p (setN ((hs[p]?.getD []) ++ [t])).length (by rw [List.length_map]; exact hp)
  rw [List.getElem_map, set_snoc (H.at hp) (not_at ht p), getD_in hp] at h1
  unfold countN giveN
  rw [List.map_set, set_snoc (H.at hp) (not_at ht p), getD_in hp]
  omega
theorem mem_things_at {hs : Hands} {t : Nat} : t ∈ thingsN hs ↔ ∃ q : Nat, t ∈ hs[q]?.getD [] := by
  constructor
  · intro h
    obtain ⟨g, hg, ht⟩ := mem_things.mp h
    obtain ⟨i, hi, rfl⟩ := List.getElem_of_mem hg
    exact ⟨i, by rw [getD_in hi]; exact ht⟩
  · rintro ⟨q, h⟩
    exact mem_things.mpr ⟨_, getD_mem (lt_of_mem_at h), h⟩
theorem things_give {hs : Hands} {p : Nat} (hp : p < hs.length) {t : Nat} (ht : t ∉ thingsN hs) : (thingsN (giveN hs p t)).length = (thingsN hs).length + 1 := by
  have e : thingsN (giveN hs p t) = insN t (thingsN hs) := asc_ext (things_asc _) (insN_asc (things_asc _)) fun z => by
    rw [mem_insN, mem_things_at, mem_things_at]
    simp only [give_at hp]
    constructor
    · rintro ⟨q, h⟩
      split at h
      · rw [mem_setN, List.mem_append, List.mem_singleton] at h
        exact h.elim (fun h => .inr ⟨p, h⟩) .inl
      · exact .inr ⟨q, h⟩
    · rintro (h | ⟨q, h⟩)
      · exact ⟨p, by rw [if_pos rfl, mem_setN, h]; simp⟩
      · refine ⟨q, ?_⟩
        split
        · rename_i g
          subst g
          rw [mem_setN]
          exact List.mem_append_left _ h
        · exact h
  rw [e, insN_len (things_asc _), if_neg ht]
theorem give_give {hs : Hands} {p : Nat} (hp : p < hs.length) (t : Nat) : giveN (giveN hs p t) p t = giveN hs p t := by
  refine ext_hands (by simp) fun q => ?_
  rw [give_at (by rw [give_len]; exact hp), give_at hp, give_at hp]
  split
  · rw [if_pos rfl]
    refine asc_ext (setN_asc _) (setN_asc _) fun z => ?_
    simp
  · rfl
theorem merged_len {hs : Hands} {p q : Nat} (hp : p < hs.length) (hq : q < hs.length) (h : ¬ p = q) : (mergedN hs p q).length = hs.length - 1 := by
  rw [merged_eq hp hq h]
  simp only [List.length_append, List.length_cons, List.length_take, List.length_drop]
  omega
theorem merged_comm (hs : Hands) (p q : Nat) : mergedN hs p q = mergedN hs q p := by
  unfold mergedN
  rw [Nat.min_comm, Nat.max_comm]
  by_cases h : p = q
  · rw [if_pos h, if_pos h.symm]
  · rw [if_neg h, if_neg fun e => h e.symm]
/-- where a person is behind a merging -/
def mergF (p q x : Nat) : Nat := if x = max p q then min p q else if max p q < x then x - 1 else x
theorem merged_at {hs : Hands} {p q : Nat} (hp : p < hs.length) (hq : q < hs.length) (h : ¬ p = q) {x t : Nat} (hx : x < hs.length) (ht : t ∈ hs[x]?.getD []) : t ∈ (mergedN hs p q)[mergF p q x]?.getD [] := by
  rw [merged_eq hp hq h]
  have hlo : min p q < max p q := by omega
  have hhi : max p q < hs.length := by omega
  have l1 : (hs.take (min p q)).length = min p q := by rw [List.length_take]; omega
  have l2 : ((hs.drop (min p q + 1)).take (max p q - (min p q + 1))).length = max p q - (min p q + 1) := by rw [List.length_take, List.length_drop]; omega
  unfold mergF
  rw [getD_in hx] at ht
  rcases Nat.lt_trichotomy x (max p q) with g | g | g
  · rw [if_neg (by omega), if_neg (by omega)]
    rcases Nat.lt_trichotomy x (min p q) with g2 | g2 | g2
    · rw [List.getElem?_append_left (by rw [l1]; exact g2), List.getElem?_take_of_lt g2, getD_in hx]
      exact ht
    · rw [List.getElem?_append_right (by rw [l1]; omega), l1, show x - min p q = 0 by omega]
      simp
      left
      have e : hs[x] = hs[min p q]'(by omega) := by congr 1
      rw [← e]; exact ht
    · rw [List.getElem?_append_right (by rw [l1]; omega), l1, show x - min p q = (x - min p q - 1) + 1 by omega, List.getElem?_cons_succ,
        List.getElem?_append_left (by rw [l2]; omega), List.getElem?_take_of_lt (by omega), List.getElem?_drop, show min p q + 1 + (x - min p q - 1) = x by omega, getD_in hx]
      exact ht
  · rw [if_pos g, List.getElem?_append_right (by rw [l1]; omega), l1, show min p q - min p q = 0 by omega]
    simp
    right
    have e : hs[x] = hs[max p q]'(by omega) := by congr 1
    rw [← e]; exact ht
  · rw [if_neg (by omega), if_pos g, List.getElem?_append_right (by rw [l1]; omega), l1, show x - 1 - min p q = (x - 2 - min p q) + 1 by omega, List.getElem?_cons_succ,
      List.getElem?_append_right (by rw [l2]; omega), l2, List.getElem?_drop, show max p q + 1 + (x - 2 - min p q - (max p q - (min p q + 1))) = x by omega, getD_in hx]
    exact ht
theorem groups_merged {hs : Hands} {p q : Nat} (hp : p < hs.length) (hq : q < hs.length) : (groupsN (mergedN hs p q)).length ≤ (groupsN hs).length := by
  by_cases h : p = q
  · unfold mergedN; rw [if_pos h]; exact Nat.le_refl _
  · have hl := merged_len hp hq h
    have hf : ∀ x, x < hs.length → mergF p q x < (mergedN hs p q).length := fun x hx => by
      rw [hl]; unfold mergF
      split
      · omega
      · split <;> omega
    refine groups_le (mergF p q) (fun m => if m < max p q then m else m + 1) hf (fun m hm => ?_) fun x y hx hy hxy => ?_
    · rw [hl] at hm
      show (if m < max p q then m else m + 1) < hs.length ∧ mergF p q (if m < max p q then m else m + 1) = m
      split
      · refine ⟨by omega, ?_⟩
        unfold mergF
        rw [if_neg (by omega), if_neg (by omega)]
      · refine ⟨by omega, ?_⟩
        unfold mergF
        rw [if_neg (by omega), if_pos (by omega)]
        omega
    · obtain ⟨t, h1, h2⟩ := share_iff.mp hxy
      exact .edge (hf x hx) (hf y hy) (share_iff.mpr ⟨t, merged_at hp hq h hx h1, merged_at hp hq h hy h2⟩)
theorem part_range (hs : Hands) : (List.range hs.length).map (fun p => hs[p]?.getD []) = hs := by
  refine List.ext_getElem (by simp) fun i h1 h2 => ?_
  simp [h2]
end Ev
end

section
set_option linter.all false
set_option autoImplicit false
set_option maxRecDepth 10000
/-! Mf: orders and sorting, alike values, groups by steps. -/
namespace Ev
open T
open PySem (Str PyData)
/-! ### a total order -/
class LO {α : Type} (c : Co α) : Prop where
  irr : ∀ a, ltc c a a = false
  tr : ∀ a b d, ltc c a b = true → ltc c b d = true → ltc c a d = true
  tot : ∀ a b, a ≠ b → ltc c a b = true ∨ ltc c b a = true
instance : LO cN := ⟨fun a => by rw [ltc_N]; exact decide_eq_false (by omega), fun a b d h g => by rw [ltc_N, decide_eq_true_iff] at h g ⊢; omega, fun a b h => by rw [ltc_N, ltc_N, decide_eq_true_iff, decide_eq_true_iff]; omega⟩
section
variable {α : Type}
theorem ltc_Tc [DecidableEq α] (c : Co α) (x y : α) (xs ys : List α) : ltc (cT c) (x :: xs) (y :: ys) = if x = y then ltc (cT c) xs ys else ltc c x y := by
  show ltL (c.e x :: xs.map c.e) (c.e y :: ys.map c.e) = _
  rw [ltL, eqv_dec c]
  by_cases h : x = y
  · rw [if_pos h, decide_eq_true h]; rfl
  · rw [if_neg h, decide_eq_false h]; rfl
theorem ltc_Tnn (c : Co α) : ltc (cT c) [] [] = false := by show ltL [] [] = false; rw [ltL]
theorem ltc_Tnc (c : Co α) (y : α) (ys : List α) : ltc (cT c) [] (y :: ys) = true := by show ltL [] (c.e y :: ys.map c.e) = true; rw [ltL]
theorem ltc_Tcn (c : Co α) (x : α) (xs : List α) : ltc (cT c) (x :: xs) [] = false := by show ltL (c.e x :: xs.map c.e) [] = false; rw [ltL]
theorem lo_irr [DecidableEq α] (c : Co α) : ∀ a : List α, ltc (cT c) a a = false
  | [] => ltc_Tnn c
  | x :: xs => by rw [ltc_Tc, if_pos rfl]; exact lo_irr c xs
theorem lo_tr [DecidableEq α] (c : Co α) [L : LO c] : ∀ a b d : List α, ltc (cT c) a b = true → ltc (cT c) b d = true → ltc (cT c) a d = true
  | [], [], _, h, _ => by rw [ltc_Tnn] at h; cases h
  | [], y :: ys, [], _, h => by rw [ltc_Tcn] at h; cases h
  | [], y :: ys, z :: zs, _, _ => ltc_Tnc c z zs
  | x :: xs, [], _, h, _ => by rw [ltc_Tcn] at h; cases h
  | x :: xs, y :: ys, [], _, h => by rw [ltc_Tcn] at h; cases h
  | x :: xs, y :: ys, z :: zs, h, g => by
    rw [ltc_Tc] at h g ⊢
    by_cases h1 : x = y
    · rw [if_pos h1] at h
      subst h1
      by_cases h2 : x = z
      · rw [if_pos h2] at g ⊢; exact lo_tr c xs ys zs h g
      · rw [if_neg h2] at g ⊢; exact g
    · rw [if_neg h1] at h
      by_cases h2 : y = z
      · subst h2; rw [if_neg h1]; exact h
      · rw [if_neg h2] at g
        by_cases h3 : x = z
        · subst h3
          have := L.tr _ _ _ h g
          rw [L.irr] at this
          cases this
        · rw [if_neg h3]; exact L.tr _ _ _ h g
theorem lo_tot [DecidableEq α] (c : Co α) [L : LO c] : ∀ a b : List α, a ≠ b → ltc (cT c) a b = true ∨ ltc (cT c) b a = true
  | [], [], h => absurd rfl h
  | [], y :: ys, _ => .inl (ltc_Tnc c y ys)
  | x :: xs, [], _ => .inr (ltc_Tnc c x xs)
  | x :: xs, y :: ys, h => by
    rw [ltc_Tc, ltc_Tc]
    by_cases h1 : x = y
    · rw [if_pos h1, if_pos h1.symm]
      exact lo_tot c xs ys fun e => h (by rw [h1, e])
    · rw [if_neg h1, if_neg fun e => h1 e.symm]
      exact L.tot x y h1
instance [DecidableEq α] (c : Co α) [LO c] : LO (cT c) := ⟨lo_irr c, lo_tr c, lo_tot c⟩
variable (c : Co α) [L : LO c]
theorem insC_lo {x : α} : ∀ {l : List α}, (l.Pairwise fun a b => ltc c a b = true) → x ∉ l → (insC c x l).Pairwise fun a b => ltc c a b = true
  | [], _, _ => List.pairwise_singleton _ _
  | y :: l, h, hx => by
    obtain ⟨h1, h2⟩ := List.pairwise_cons.mp h
    rw [List.mem_cons, not_or] at hx
    unfold insC
    by_cases g : ltc c y x = true
    · rw [if_pos g]
      refine List.pairwise_cons.mpr ⟨fun z hz => ?_, insC_lo h2 hx.2⟩
      rcases List.mem_cons.mp ((insC_perm c x l).mem_iff.mp hz) with rfl | hz
      · exact g
      · exact h1 z hz
    · rw [if_neg g]
      have hxy : ltc c x y = true := (L.tot x y hx.1).resolve_right g
      refine List.pairwise_cons.mpr ⟨fun z hz => ?_, h⟩
      rcases List.mem_cons.mp hz with rfl | hz
      · exact hxy
      · exact L.tr _ _ _ hxy (h1 z hz)
theorem srt_lo : ∀ {l : List α}, l.Nodup → (srt c l).Pairwise fun a b => ltc c a b = true
  | [], _ => .nil
  | x :: l, h => by
    obtain ⟨h1, h2⟩ := List.nodup_cons.mp h
    exact insC_lo c (srt_lo h2) fun g => h1 ((srt_perm c l).mem_iff.mp g)
theorem lo_ext : ∀ {l m : List α}, (l.Pairwise fun a b => ltc c a b = true) → (m.Pairwise fun a b => ltc c a b = true) → (∀ z, z ∈ l ↔ z ∈ m) → l = m
  | [], [], _, _, _ => rfl
  | [], y :: m, _, _, h => absurd ((h y).mpr List.mem_cons_self) (by simp)
  | x :: l, [], _, _, h => absurd ((h x).mp List.mem_cons_self) (by simp)
  | x :: l, y :: m, hl, hm, h => by
    obtain ⟨l1, l2⟩ := List.pairwise_cons.mp hl
    obtain ⟨m1, m2⟩ := List.pairwise_cons.mp hm
    have asy : ∀ a b, ltc c a b = true → ltc c b a = true → False := fun a b p q => by
      have := L.tr _ _ _ p q
      rw [L.irr] at this
      cases this
    have e : x = y := by
      rcases List.mem_cons.mp ((h x).mp List.mem_cons_self) with g | g
      · exact g
      · rcases List.mem_cons.mp ((h y).mpr List.mem_cons_self) with g2 | g2
        · exact g2.symm
        · exact (asy _ _ (m1 x g) (l1 y g2)).elim
    subst e
    congr 1
    refine lo_ext l2 m2 fun z => ?_
    constructor
    · intro hz
      rcases List.mem_cons.mp ((h z).mp (List.mem_cons_of_mem _ hz)) with g | g
      · subst g; exact (asy _ _ (l1 z hz) (l1 z hz)).elim
      · exact g
    · intro hz
      rcases List.mem_cons.mp ((h z).mpr (List.mem_cons_of_mem _ hz)) with g | g
      · subst g; exact (asy _ _ (m1 z hz) (m1 z hz)).elim
      · exact g
theorem srt_eq {l m : List α} (hl : l.Nodup) (hm : m.Nodup) (h : ∀ z, z ∈ l ↔ z ∈ m) : srt c l = srt c m := lo_ext c (srt_lo c hl) (srt_lo c hm) fun z => by rw [(srt_perm c l).mem_iff, (srt_perm c m).mem_iff, h]
end
/-! ### turns -/
section
variable {α γ σ : Type} (c : Co α)
theorem forF_exi {f : AV → Env → R Fl} (E : σ → Env) (I : Nat → σ → Prop) (l : List α)
    (h : ∀ n (hn : n < l.length) s, I n s → ∃ s', f (c.e l[n]) (E s) = .ok (.nx (E s')) ∧ I (n + 1) s') : ∀ (m : List α) (n : Nat) (s : σ), l.drop n = m → I n s → ∃ s', forF f (mapE c m) (E s) = .ok (.nx (E s')) ∧ I (n + m.length) s'
  | [], n, s, _, hs => ⟨s, rfl, hs⟩
  | x :: m, n, s, e, hs => by
    have hn : n < l.length := by
      have := congrArg List.length e
      rw [List.length_drop, List.length_cons] at this
      omega
    have e2 := List.drop_eq_getElem_cons hn
    rw [e] at e2
    obtain ⟨rfl, e3⟩ := List.cons.inj e2
    obtain ⟨s1, e1, q1⟩ := h n hn s hs
    obtain ⟨s2, g2, q2⟩ := forF_exi E I l h m (n + 1) s1 e3.symm q1
    refine ⟨s2, ?_, by rw [List.length_cons, Nat.add_comm m.length 1, ← Nat.add_assoc]; exact q2⟩
    show forF f (c.e l[n] :: mapE c m) (E s) = _
    rw [forF_cons, e1]
    exact g2
/-- turns by their numbers, over a hidden state -/
theorem forF_ExN {f : AV → Env → R Fl} {l : List α} {env : Env} {K : Fl → R γ} {p : γ → Prop} (E : σ → Env) (I : Nat → σ → Prop) (s : σ) (he : env = E s) (h0 : I 0 s)
    (h : ∀ n (hn : n < l.length) s, I n s → ∀ p' : Fl → Prop, (∀ s', I (n + 1) s' → p' (.nx (E s'))) → Ex (f (c.e l[n]) (E s)) p')
    (hX : ∀ s, I l.length s → Ex (K (.nx (E s))) p) : Ex (forF f (mapE c l) env >>= K) p := by
  subst he
  obtain ⟨s', e, q⟩ := forF_exi c (f := f) E I l (fun n hn s hs => by
    obtain ⟨r, e, s', rfl, q⟩ := h n hn s hs (fun r => ∃ s', r = .nx (E s') ∧ I (n + 1) s') fun s' q => ⟨s', rfl, q⟩
    exact ⟨s', e, q⟩) l 0 s rfl h0
  rw [e, R.ok_bind]
  exact hX s' (by rw [Nat.zero_add] at q; exact q)
theorem forF_ExR {f : AV → Env → R Fl} {N : Nat} {env : Env} {K : Fl → R γ} {p : γ → Prop} (E : σ → Env) (I : Nat → σ → Prop) (s : σ) (he : env = E s) (h0 : I 0 s)
    (h : ∀ n, n < N → ∀ s, I n s → ∀ p' : Fl → Prop, (∀ s', I (n + 1) s' → p' (.nx (E s'))) → Ex (f (cN.e n) (E s)) p')
    (hX : ∀ s, I N s → Ex (K (.nx (E s))) p) : Ex (forF f (mapE cN (List.range N)) env >>= K) p := by
  refine forF_ExN cN E I s he h0 (fun n hn s hs p' hp' => ?_) (by rw [List.length_range]; exact hX)
  rw [List.getElem_range]
  exact h n (by rw [List.length_range] at hn; exact hn) s hs p' hp'
theorem whl_Ex {cnd : Env → R (Bool × Env)} {f : Env → R Fl} {N : Nat} {env : Env} {K : Fl → R γ} {p : γ → Prop} (E : σ → Env) (go : σ → Bool) (step : σ → σ) (m : σ → Nat) (I : σ → Prop) (s : σ) (he : env = E s) (h0 : I s) (hm : m s < N)
    (hc : ∀ s, I s → cnd (E s) = .ok (go s, E s)) (hf : ∀ s, I s → go s = true → f (E s) = .ok (.nx (E (step s)))) (hI : ∀ s, I s → go s = true → I (step s) ∧ m (step s) < m s)
    (hX : ∀ s, I s → go s = false → Ex (K (.nx (E s))) p) : Ex (whlF cnd f N env >>= K) p := by
  subst he
  obtain ⟨s', e, q1, q2, _⟩ := whlF_run (cnd := cnd) (f := f) E go step m I hc (fun s hs hg => ⟨.inl (hf s hs hg), hI s hs hg⟩) N s h0 hm
  rw [e, R.ok_bind]
  exact hX s' q1 q2
end
/-! ### alike values -/
theorem eq_B (a b : Bool) : cmpop .eq (.bool a) (.bool b) = .ok (.bool (decide (a = b))) := eq_co cB a b
theorem ne_B (a b : Bool) : cmpop .ne (.bool a) (.bool b) = .ok (.bool (decide (a ≠ b))) := ne_co cB a b
theorem isN_N (n : Nat) : cmpop .isN (cN.e n) .none = .ok (.bool false) := nrfl rfl
theorem isN_B (b : Bool) : cmpop .isN (.bool b) .none = .ok (.bool false) := nrfl rfl
theorem isStr_B (b : Bool) : bltop .isStr [.bool b] = .ok (.bool false) := nrfl rfl
theorem isTL_B (b : Bool) : bltop .isTL [.bool b] = .ok (.bool false) := nrfl rfl
theorem isInt_B (b : Bool) : bltop .isInt [.bool b] = .ok (.bool true) := nrfl rfl
theorem isBool_B (b : Bool) : bltop .isBool [.bool b] = .ok (.bool true) := nrfl rfl
section
variable {k : Nat} {α β : Type}
theorem alk_N (hk : 1 ≤ k) (n : Nat) : callD PM k 306 [cN.e n, cN.e n] = .ok (.bool true, []) := by
  obtain ⟨j, rfl⟩ : ∃ j, k = j + 1 := ⟨k - 1, by omega⟩
  rw [call_s p__law_alike rfl]
  simp [d__law_alike, isN_N, eq_B]
theorem alk_B (hk : 1 ≤ k) (b : Bool) : callD PM k 306 [PyData.bool b, PyData.bool b] = .ok (.bool true, []) := by
  obtain ⟨j, rfl⟩ : ∃ j, k = j + 1 := ⟨k - 1, by omega⟩
  rw [call_s p__law_alike rfl]
  simp [d__law_alike, isN_B, eq_B, isStr_B, isTL_B, isInt_B, isBool_B]
theorem alk_none (hk : 1 ≤ k) : callD PM k 306 [PyData.none, PyData.none] = .ok (.bool true, []) := by
  obtain ⟨j, rfl⟩ : ∃ j, k = j + 1 := ⟨k - 1, by omega⟩
  rfl
theorem loop_none (c : Co α) (l : List α) : loopW (fun x => R.ok ([] : List AV)) l = .ok [] := by
  induction l with
  | nil => rfl
  | cons x l ih => rw [loopW, ih]; rfl
theorem alk_T (c : Co α) {d : Nat} {l : List α} (hl : l.length ≤ big9) (h : ∀ x ∈ l, ∀ k, d ≤ k → callD PM k 306 [c.e x, c.e x] = .ok (.bool true, [])) (hk : d + 1 ≤ k) : callD PM k 306 [(cT c).e l, (cT c).e l] = .ok (.bool true, []) := by
  obtain ⟨j, rfl⟩ : ∃ j, k = j + 1 := ⟨k - 1, by omega⟩
  rw [call_s p__law_alike rfl]
  simp [d__law_alike, hl, ne_B]
  rw [loopW_congr rfl fun x hx => by
    have hx := List.mem_range.mp hx
    rw [gd_ok hx, R.ok_bind, R.ok_bind, h _ (getD_mem hx) j (by omega)]]
  simp [loop_none cN]
theorem alk_L (c : Co α) {d : Nat} {l : List α} (hl : l.length ≤ big9) (h : ∀ x ∈ l, ∀ k, d ≤ k → callD PM k 306 [c.e x, c.e x] = .ok (.bool true, [])) (hk : d + 1 ≤ k) : callD PM k 306 [(cL c).e l, (cL c).e l] = .ok (.bool true, []) := by
  obtain ⟨j, rfl⟩ : ∃ j, k = j + 1 := ⟨k - 1, by omega⟩
  rw [call_s p__law_alike rfl]
  simp [d__law_alike, hl, ne_B]
  rw [loopW_congr rfl fun x hx => by
    have hx := List.mem_range.mp hx
    rw [gd_ok hx, R.ok_bind, R.ok_bind, h _ (getD_mem hx) j (by omega)]]
  simp [loop_none cN]
theorem isTL_P (c : Co α) (e : Co β) (p : α × β) : bltop .isTL [(cP c e).e p] = .ok (.bool true) := nrfl rfl
theorem isList_P (c : Co α) (e : Co β) (p : α × β) : bltop .isList [(cP c e).e p] = .ok (.bool false) := nrfl rfl
theorem len_P (c : Co α) (e : Co β) (p : α × β) : bltop .len [(cP c e).e p] = .ok (cN.e 2) := nrfl rfl
theorem range_two : List.range 2 = [0, 1] := rfl
theorem alk_P (c : Co α) (e : Co β) {d : Nat} (p : α × β) (h1 : ∀ k, d ≤ k → callD PM k 306 [c.e p.1, c.e p.1] = .ok (.bool true, [])) (h2 : ∀ k, d ≤ k → callD PM k 306 [e.e p.2, e.e p.2] = .ok (.bool true, [])) (hk : d + 1 ≤ k) : callD PM k 306 [(cP c e).e p, (cP c e).e p] = .ok (.bool true, []) := by
  obtain ⟨j, rfl⟩ : ∃ j, k = j + 1 := ⟨k - 1, by omega⟩
  have g : 2 ≤ big9 := le_big9 (by omega)
  rw [call_s p__law_alike rfl]
  simp [d__law_alike, ne_B, isTL_P, isList_P, len_P, g, range_two, loopW, h1 j (by omega), h2 j (by omega)]
theorem alk_TN (hk : 2 ≤ k) {l : List Nat} (hl : l.length ≤ big9) : callD PM k 306 [(cT cN).e l, (cT cN).e l] = .ok (.bool true, []) := alk_T cN hl (fun x _ k hk => alk_N hk x) hk
theorem alk_LN (hk : 2 ≤ k) {l : List Nat} (hl : l.length ≤ big9) : callD PM k 306 [(cL cN).e l, (cL cN).e l] = .ok (.bool true, []) := alk_L cN hl (fun x _ k hk => alk_N hk x) hk
theorem alk_TP (hk : 3 ≤ k) {l : List (Nat × Nat)} (hl : l.length ≤ big9) : callD PM k 306 [(cT (cP cN cN)).e l, (cT (cP cN cN)).e l] = .ok (.bool true, []) := alk_T (cP cN cN) hl (fun x _ k hk => alk_P cN cN x (fun k hk => alk_N hk _) (fun k hk => alk_N hk _) hk) hk
theorem alk_TTN (hk : 3 ≤ k) {l : List (List Nat)} (hl : l.length ≤ big9) (h : ∀ x ∈ l, x.length ≤ big9) : callD PM k 306 [(cT (cT cN)).e l, (cT (cT cN)).e l] = .ok (.bool true, []) := alk_T (cT cN) hl (fun x hx k hk => alk_TN hk (h x hx)) hk
theorem Hd.big {h : List Nat} (H : Hd h) : h.length ≤ big9 := le_big9 (by have := H.len; omega)
theorem alk_H (hk : 3 ≤ k) {hs : Hands} (H : Ok hs) : callD PM k 306 [cH.e hs, cH.e hs] = .ok (.bool true, []) := alk_TTN hk H.le9 fun x hx => (H.hd x hx).big
theorem alk_LH (hk : 4 ≤ k) {l : List Hands} (hl : l.length ≤ big9) (h : ∀ x ∈ l, Ok x) : callD PM k 306 [(cL cH).e l, (cL cH).e l] = .ok (.bool true, []) := alk_L cH hl (fun x hx k hk => alk_H hk (h x hx)) hk
/-! ### the law's pairs; groups by steps -/
def commonN (hs : Hands) (p q : Nat) : List Nat := (hs[p]?.getD []).filter fun t => decide (t ∈ hs[q]?.getD [])
theorem w_common (hk : 5 ≤ k) {hs : Hands} (H : Ok hs) {p q : Nat} (hp : p < hs.length) (hq : q < hs.length) : callD PM k 127 [cH.e hs, cN.e p, cN.e q] = .ok ((cT cN).e (commonN hs p q), []) := by
  obtain ⟨j, rfl⟩ : ∃ j, k = j + 5 := ⟨k - 5, by omega⟩
  rw [call_s p_common rfl]
  simp [d_common, w_need_hands _ H, w_need_person _ hp, w_need_person _ hq, hp, hq, H.ln hp]
  simp [commonN, hp, hq]
theorem w__law_pairs (hk : 1 ≤ k) {hs : Hands} (H : Ok hs) : callD PM k 311 [cH.e hs] = .ok ((cL (cP cN cN)).e (pairsN hs), []) := by
  obtain ⟨j, rfl⟩ : ∃ j, k = j + 1 := ⟨k - 1, by omega⟩
  rw [call_s p__law_pairs rfl]
  simp [d__law_pairs, H.le9]
  refine forF_rng (fun n => [some (cH.e hs), some ((cL (cP cN cN)).e ((List.range n).flatMap fun a => pairF hs a (hs.length - (a + 1)))), none, none, none]) rfl (fun n hn => ?_) ?_
  · have h1 : n + 1 ≤ big9 := le_big9 (by have := H.le; omega)
    simp [H.le9, h1]
    have hb : ((List.range n).flatMap fun a => pairF hs a (hs.length - (a + 1))).length ≤ 49 := by
      refine Nat.le_trans (flat_le _ 7 _ fun a _ => Nat.le_trans (pairF_len ..) (by have := H.le; omega)) ?_
      rw [List.length_range]
      have := H.le
      omega
    have hf : (List.range' (n + 1) (hs.length - (n + 1))).filter (fun x => decide (∃ y, y ∈ hs[n]?.getD [] ∧ y ∈ hs[x]?.getD [])) = (List.range' (n + 1) (hs.length - (n + 1))).filter fun b => shareN hs n b := List.filter_congr fun x _ => by
      refine Bool.eq_iff_iff.mpr ?_
      rw [share_iff, decide_eq_true_iff]
    rw [loopW_congr rfl fun x hx => gd_fin2 hn (gd_fin2 (fun _ _ => by have := List.mem_range'_1.mp hx; omega) (gd_fin2 (ln_filter (H.at hn).line) rfl))]
    rw [loopW_if (cP cN cN) (fun x => (n, x)), hf, show (((List.range' (n + 1) (hs.length - (n + 1))).filter fun b => shareN hs n b).map fun x => (n, x)) = pairF hs n (hs.length - (n + 1)) from rfl]
    have hb2 := pairF_len hs n (hs.length - (n + 1))
    have hle := H.le
    have g1 : (pairF hs n (hs.length - (n + 1))).length ≤ line := line_of (by omega)
    simp only [lstR_g, gd_ok g1, R.ok_bind, cat_L]
    rw [gd_ok (line_of (by omega)), R.ok_bind, List.range_succ, List.flatMap_append, List.flatMap_singleton]
    rfl
  · simp [pairsN]
/-- a step: the last is taken off, its neighbors that are not in the group are put to both -/
def newN (hs : Hands) (g : List Nat) (h : Nat) : List Nat := (List.range hs.length).filter fun o => decide (o ∉ g ∧ ((h, o) ∈ pairsN hs ∨ (o, h) ∈ pairsN hs))
def bfsN (hs : Hands) (s : List Nat × List Nat) : List Nat × List Nat := (s.1 ++ newN hs s.1 (s.2.getLast?.getD 0), s.2.dropLast ++ newN hs s.1 (s.2.getLast?.getD 0))
theorem adj_iff {hs : Hands} {a b : Nat} (ha : a < hs.length) (hb : b < hs.length) : ((a, b) ∈ pairsN hs ∨ (b, a) ∈ pairsN hs) ↔ a ≠ b ∧ shareN hs a b = true := by
  rw [mem_pairs, mem_pairs, share_comm hs b a]
  constructor
  · rintro (⟨h1, _, h3⟩ | ⟨h1, _, h3⟩)
    · exact ⟨by omega, h3⟩
    · exact ⟨by omega, h3⟩
  · rintro ⟨h1, h2⟩
    rcases Nat.lt_or_gt_of_ne h1 with g | g
    · exact .inl ⟨g, hb, h2⟩
    · exact .inr ⟨g, ha, h2⟩
/-- what holds between the steps, from a person p -/
structure Bfs (hs : Hands) (p : Nat) (s : List Nat × List Nat) : Prop where
  nd : s.1.Nodup
  con : ∀ x ∈ s.1, x < hs.length ∧ Con hs p x
  has : p ∈ s.1
  sub : ∀ x ∈ s.2, x ∈ s.1
  ln : s.2.length ≤ s.1.length
  done : ∀ x ∈ s.1, x ∉ s.2 → ∀ y, y < hs.length → shareN hs x y = true → y ∈ s.1
theorem Bfs.start {hs : Hands} {p : Nat} (hp : p < hs.length) : Bfs hs p ([p], [p]) := ⟨by simp, fun x hx => by rw [List.mem_singleton.mp hx]; exact ⟨hp, .refl p⟩, by simp, fun x hx => hx, Nat.le_refl _, fun x hx h => absurd hx h⟩
theorem Bfs.step {hs : Hands} {p : Nat} {s : List Nat × List Nat} (h : Bfs hs p s) (hn : s.2 ≠ []) : Bfs hs p (bfsN hs s) := by
  obtain ⟨g, l⟩ := s
  have hn : l ≠ [] := hn
  obtain ⟨l', b, rfl⟩ : ∃ l' b, l = l' ++ [b] := ⟨l.dropLast, l.getLast hn, (List.dropLast_concat_getLast hn).symm⟩
  have e1 : ((l' ++ [b]).getLast?.getD 0) = b := by simp
  have e2 : (l' ++ [b]).dropLast = l' := by simp
  have hb : b ∈ g := h.sub b (by simp)
  obtain ⟨b1, b2⟩ := h.con b hb
  have hnew : ∀ z, z ∈ newN hs g b ↔ z < hs.length ∧ z ∉ g ∧ shareN hs b z = true := fun z => by
    unfold newN
    rw [List.mem_filter, List.mem_range, decide_eq_true_iff]
    constructor
    · rintro ⟨z1, z2, z3⟩
      exact ⟨z1, z2, ((adj_iff b1 z1).mp z3).2⟩
    · rintro ⟨z1, z2, z3⟩
      exact ⟨z1, z2, (adj_iff b1 z1).mpr ⟨fun e => z2 (e ▸ hb), z3⟩⟩
  unfold bfsN
  dsimp only
  rw [e1, e2]
  have hln : (l' ++ [b]).length ≤ g.length := h.ln
  refine ⟨?_, ?_, List.mem_append_left _ h.has, ?_, by rw [List.length_append] at hln; simp at hln ⊢; omega, ?_⟩
  · refine List.nodup_append.mpr ⟨h.nd, List.nodup_range.filter _, ?_⟩
    rintro x hx y hy rfl
    exact ((hnew x).mp hy).2.1 hx
  · intro x hx
    rcases List.mem_append.mp hx with hx | hx
    · exact h.con x hx
    · obtain ⟨z1, z2, z3⟩ := (hnew x).mp hx
      exact ⟨z1, b2.step b1 z1 z3⟩
  · intro x hx
    rcases List.mem_append.mp hx with hx | hx
    · exact List.mem_append_left _ (h.sub x (List.mem_append_left _ hx))
    · exact List.mem_append_right _ hx
  · intro x hx hx2 y hy hxy
    rw [List.mem_append, not_or] at hx2
    by_cases hyg : y ∈ g
    · exact List.mem_append_left _ hyg
    refine List.mem_append_right _ ?_
    rcases List.mem_append.mp hx with hx | hx
    · by_cases e : x = b
      · subst e
        exact (hnew y).mpr ⟨hy, hyg, hxy⟩
      · exact absurd (h.done x hx (by
          show x ∉ l' ++ [b]
          rw [List.mem_append, List.mem_singleton]
          exact fun z => z.elim hx2.1 e) y hy hxy) hyg
    · exact absurd hx hx2.2
theorem Bfs.end_ {hs : Hands} {p : Nat} {g : List Nat} (h : Bfs hs p (g, [])) (hp : p < hs.length) : srt cN g = clsN hs (lat (labN hs) p) := by
  refine srt_of h.nd (List.pairwise_lt_range.filter _) fun z => ?_
  show z ∈ g ↔ z ∈ (List.range hs.length).filter fun q => decide (lat (labN hs) q = lat (labN hs) p)
  have hc : ∀ z, Con hs p z → z ∈ g := by
    intro z hz
    induction hz with
    | refl => exact h.has
    | step _ h1 h2 h3 ih => exact h.done _ ih (by simp) _ h2 h3
  rw [List.mem_filter, List.mem_range, decide_eq_true_iff]
  constructor
  · intro hz
    obtain ⟨z1, z2⟩ := h.con z hz
    exact ⟨z1, ((lab_iff hp z1).mpr z2).symm⟩
  · rintro ⟨z1, z2⟩
    exact hc z ((lab_iff hp z1).mp z2.symm)
theorem Bfs.len {hs : Hands} {p : Nat} {s : List Nat × List Nat} (h : Bfs hs p s) : s.1.length ≤ hs.length := by
  have := nd_sub h.nd (m := List.range hs.length) fun x hx => List.mem_range.mpr (h.con x hx).1
  rwa [List.length_range] at this
/-- the kinds of people that hang together, by their first -/
def seenN (hs : Hands) : Nat → List (List Nat)
  | 0 => []
  | n + 1 => if clsN hs (lat (labN hs) n) ∈ seenN hs n then seenN hs n else seenN hs n ++ [clsN hs (lat (labN hs) n)]
theorem mem_seen {hs : Hands} {z : List Nat} : ∀ {n : Nat}, z ∈ seenN hs n ↔ ∃ p, p < n ∧ z = clsN hs (lat (labN hs) p)
  | 0 => by simp [seenN]
  | n + 1 => by
    have ih := mem_seen (hs := hs) (z := z) (n := n)
    unfold seenN
    split
    · rename_i h
      rw [ih]
      constructor
      · rintro ⟨p, h1, h2⟩; exact ⟨p, by omega, h2⟩
      · rintro ⟨p, h1, h2⟩
        by_cases e : p = n
        · subst e; exact ih.mp (h2 ▸ h)
        · exact ⟨p, by omega, h2⟩
    · rw [List.mem_append, List.mem_singleton, ih]
      constructor
      · rintro (⟨p, h1, h2⟩ | h)
        · exact ⟨p, by omega, h2⟩
        · exact ⟨n, by omega, h⟩
      · rintro ⟨p, h1, h2⟩
        by_cases e : p = n
        · subst e; exact .inr h2
        · exact .inl ⟨p, by omega, h2⟩
theorem seen_nodup (hs : Hands) : ∀ n : Nat, (seenN hs n).Nodup
  | 0 => .nil
  | n + 1 => by
    unfold seenN
    split
    · exact seen_nodup hs n
    · rename_i h
      refine List.nodup_append.mpr ⟨seen_nodup hs n, by simp, ?_⟩
      rintro x hx y hy rfl
      exact h (List.mem_singleton.mp hy ▸ hx)
theorem seen_len (hs : Hands) : ∀ n : Nat, (seenN hs n).length ≤ n
  | 0 => Nat.le_refl _
  | n + 1 => by
    have := seen_len hs n
    unfold seenN
    split
    · omega
    · rw [List.length_append]; simp; omega
theorem seen_groups (hs : Hands) : srt (cT cN) (seenN hs hs.length) = groupsN hs := by
  refine srt_eq (cT cN) (seen_nodup hs _) ?_ fun z => ?_
  · rw [List.Nodup, List.pairwise_map]
    refine List.Pairwise.imp_of_mem (fun {x y} hx hy hxy e => ?_) (setN_asc (labN hs))
    obtain ⟨a, ha, rfl⟩ := mem_lab.mp (mem_setN.mp hx)
    have hm : a ∈ clsN hs (lat (labN hs) a) := List.mem_filter.mpr ⟨List.mem_range.mpr ha, by simp⟩
    rw [e] at hm
    have := of_decide_eq_true (List.mem_filter.mp hm).2
    omega
  · rw [mem_seen, List.mem_map]
    constructor
    · rintro ⟨p, h1, rfl⟩
      exact ⟨_, mem_setN.mpr (lat_mem h1), rfl⟩
    · rintro ⟨x, hx, rfl⟩
      obtain ⟨a, ha, rfl⟩ := mem_lab.mp (mem_setN.mp hx)
      exact ⟨a, ha, rfl⟩
end
end Ev
end

section
set_option linter.all false
set_option autoImplicit false
set_option maxRecDepth 10000
/-! Mg: dicts as sets of numbers; shared, spare, movers, still_calls, lonely_at; the law's own things, call, movers. -/
namespace Ev
open T
open PySem (Str PyData)
/-- the numbers, each with True -/
def dctT (ks : List Nat) : AV := .dict (ks.map fun k => (cN.e k, .bool true))
theorem dctT_nil : PyData.dict [] = dctT [] := nrfl rfl
@[simp] theorem vDs_nil0 (cal : Cal) (env : Env) : vE cal (.dict .nil) env = .ok (dctT []) := nrfl rfl
theorem eqv_N (a b : Nat) : PyData.eqv (cN.e a) (cN.e b) = decide (a = b) := eqv_dec cN a b
theorem dctT_any (ks : List Nat) (t : Nat) : ((ks.map fun k => ((cN.e k, PyData.bool true) : AV × AV)).any fun p => PyData.eqv p.1 (cN.e t)) = decide (t ∈ ks) := by
  induction ks with
  | nil => simp
  | cons x ks ih =>
    rw [List.map_cons, List.any_cons, ih, eqv_N]
    by_cases h : x = t
    · subst h; simp
    · have : ¬ t = x := fun e => h e.symm
      simp [h, this]
theorem dctT_same (ks : List Nat) (t : Nat) : ((ks.map fun k => ((cN.e k, PyData.bool true) : AV × AV)).map fun p => if PyData.eqv p.1 (cN.e t) = true then (p.1, PyData.bool true) else p) = ks.map fun k => ((cN.e k, PyData.bool true) : AV × AV) := by
  rw [List.map_map]
  refine List.map_congr_left fun x _ => ?_
  show (if PyData.eqv (cN.e x) (cN.e t) = true then (cN.e x, PyData.bool true) else (cN.e x, PyData.bool true)) = _
  split <;> rfl
@[simp] theorem set_D (ks : List Nat) (t : Nat) : setV (dctT ks) (cN.e t) (.bool true) = (gd (ks.length < line) >>= fun _ => .ok (dctT (if t ∈ ks then ks else ks ++ [t]))) := by
  show (dput' (ks.map fun k => (cN.e k, PyData.bool true)) (cN.e t) (.bool true) >>= fun kvs' => R.ok (PyData.dict kvs')) = _
  unfold dput' kindOk
  rw [List.length_map]
  by_cases h : ks.length < line
  · rw [gd_ok h, show leafK (cN.e t) = true from rfl, decide_eq_true h, Bool.and_self, if_pos rfl, R.ok_bind, R.ok_bind]
    unfold dput
    rw [dctT_any]
    by_cases m : t ∈ ks
    · rw [if_pos (decide_eq_true m), if_pos m, dctT_same]; rfl
    · rw [if_neg (fun z => m (of_decide_eq_true z)), if_neg m]
      unfold dctT
      rw [List.map_append]
      rfl
  · rw [gd_no h, decide_eq_false h, Bool.and_false, if_neg (by decide)]; rfl
@[simp] theorem list_D (ks : List Nat) : bltop .list [dctT ks] = .ok ((cL cN).e ks) := by
  show R.ok (PyData.list ((ks.map fun k => ((cN.e k, PyData.bool true) : AV × AV)).map (·.1))) = _
  rw [List.map_map]
  rfl
theorem firsts_len (l : List Nat) : (firstsN l).length ≤ l.length := nd_sub (firsts_nodup l) fun x hx => mem_firsts.mp hx
theorem firsts_put (l : List Nat) (t : Nat) : (if t ∈ firstsN l then firstsN l else firstsN l ++ [t]) = firstsN (l ++ [t]) := by
  rw [firsts_snoc]
  by_cases h : t ∈ l
  · rw [if_pos h, if_pos (mem_firsts.mpr h)]
  · rw [if_neg h, if_neg fun z => h (mem_firsts.mp z)]
theorem things_firsts (hs : Hands) : srt cN (firstsN hs.flatten) = thingsN hs := srt_of (firsts_nodup _) (things_asc hs) fun z => by rw [mem_firsts, thingsN, mem_setN]
section
variable {k : Nat}
theorem w__law_things (hk : 1 ≤ k) {hs : Hands} (H : Ok hs) : callD PM k 309 [cH.e hs] = .ok ((cL cN).e (thingsN hs), []) := by
  obtain ⟨j, rfl⟩ : ∃ j, k = j + 1 := ⟨k - 1, by omega⟩
  rw [call_s p__law_things rfl]
  have hfl := H.flat
  simp [d__law_things]
  refine forF_idxB (cT cN) (fun n => [some (cH.e hs), some (dctT (firstsN (hs.take n).flatten)), none, none]) rfl (fun n hn => ?_) ?_
  · simp
    refine forF_idxB cN (fun m => [some (cH.e hs), some (dctT (firstsN ((hs.take n).flatten ++ hs[n].take m))), some ((cT cN).e hs[n]), none]) (by simp) (fun m hm => ?_) ?_
    · have h1 : (firstsN ((hs.take n).flatten ++ hs[n].take m)).length < line := by
        have h2 := firsts_len ((hs.take n).flatten ++ hs[n].take m)
        have h3 : (hs.take n).flatten.length ≤ 8 * (hs.take n).length := flat_len fun x hx => H.hd x (List.mem_of_mem_take hx)
        have h4 := (H.hd _ (List.getElem_mem hn)).len
        have h5 := H.le
        rw [List.length_append] at h2
        rw [List.length_take] at h2 h3
        exact lt_line (by omega)
      rw [take_snoc _ hm, ← List.append_assoc, ← firsts_put]
      simp [h1]
    · have e := take_snoc hs hn
      simp
      rw [e, List.flatten_append]
      simp
  · simp
    rw [things_firsts]
def sharedN (hs : Hands) : List Nat := (thingsN hs).filter fun t => decide (1 < (holdN hs t).length)
theorem w_shared (hk : 5 ≤ k) {hs : Hands} (H : Ok hs) : callD PM k 121 [cH.e hs] = .ok ((cT cN).e (sharedN hs), []) := by
  obtain ⟨j, rfl⟩ : ∃ j, k = j + 5 := ⟨k - 5, by omega⟩
  rw [call_s p_shared rfl]
  simp [d_shared, w_need_hands _ H, w_things_in _ H]
  refine forF_filter cN (fun acc => [some (cH.e hs), some ((cL cN).e acc), none]) id (fun t => decide (1 < (holdN hs t).length)) rfl H.things.line (fun t ht acc ha => ?_) ?_
  · by_cases h : 1 < (holdN hs t).length
    · simp [w_holders_in _ H, h, ha]
    · simp [w_holders_in _ H, h, ha]
  · simp [sharedN]
theorem w_spare (hk : 5 ≤ k) {hs : Hands} (H : Ok hs) {p : Nat} (hp : p < hs.length) : callD PM k 123 [cH.e hs, cN.e p] = .ok ((cT cN).e (spareN hs p), []) := by
  obtain ⟨j, rfl⟩ : ∃ j, k = j + 5 := ⟨k - 5, by omega⟩
  rw [call_s p_spare rfl]
  simp [d_spare, w_need_hands _ H, w_need_person _ hp, w_spare_in _ H hp]
theorem w_movers (hk : 5 ≤ k) {hs : Hands} (H : Ok hs) : callD PM k 4 [cH.e hs] = .ok ((cT cN).e (moversN hs), []) := by
  obtain ⟨j, rfl⟩ : ∃ j, k = j + 5 := ⟨k - 5, by omega⟩
  rw [call_s p_movers rfl]
  simp [d_movers, w_need_hands _ H, w_movers_in _ H]
def stillN (hs : Hands) (ps : List Nat) : List Nat := (List.range ps.length).filter fun i => decide (afterN hs (ps.take i) = afterN hs (ps.take (i + 1)))
theorem w_still_calls (hk : 5 ≤ k) {hs : Hands} (H : Ok hs) {ps : List Nat} (hp : Row hs.length ps) : callD PM k 8 [cH.e hs, (cT cN).e ps] = .ok ((cT cN).e (stillN hs ps), []) := by
  obtain ⟨j, rfl⟩ : ∃ j, k = j + 5 := ⟨k - 5, by omega⟩
  rw [call_s p_still_calls rfl]
  have h1 : ps.length ≤ big9 := le_big9 (by have := hp.1; omega)
  simp [d_still_calls, w_need_hands _ H, w_need_calls _ H hp, w_story_in _ H hp, h1]
  refine forF_filter cN (fun acc => [some (cH.e hs), some ((cT cN).e ps), none, some ((cL cH).e (storyN hs ps)), some ((cL cN).e acc)]) id (fun i => decide (afterN hs (ps.take i) = afterN hs (ps.take (i + 1)))) rfl (by rw [List.length_range]; exact hp.line) (fun i hi acc ha => ?_) ?_
  · have hi := List.mem_range.mp hi
    have a1 : i < ps.length + 1 := by omega
    have a2 : i + 1 < ps.length + 1 := by omega
    by_cases h : afterN hs (ps.take i) = afterN hs (ps.take (i + 1))
    · simp [a1, a2, story_get, h, ha]
    · simp [a1, a2, story_get, h, ha]
  · simp [stillN]
/-- turns that may end with a value -/
theorem forF_find {α : Type} (c : Co α) {f : AV → Env → R Fl} (p : α → Bool) (v : α → AV) (env : Env) : ∀ l : List α, (∀ x ∈ l, p x = false → f (c.e x) env = .ok (.nx env)) → (∀ x ∈ l, p x = true → ∃ e, f (c.e x) env = .ok (.rt (v x) e)) →
    (∀ x, l.find? p = some x → ∃ e, forF f (mapE c l) env = .ok (.rt (v x) e)) ∧ (l.find? p = none → forF f (mapE c l) env = .ok (.nx env))
  | [], _, _ => ⟨fun x h => by simp at h, fun _ => rfl⟩
  | y :: l, h1, h2 => by
    obtain ⟨i1, i2⟩ := forF_find c p v env l (fun x hx => h1 x (List.mem_cons_of_mem _ hx)) fun x hx => h2 x (List.mem_cons_of_mem _ hx)
    cases hp : p y with
    | true =>
      obtain ⟨e, he⟩ := h2 y List.mem_cons_self hp
      refine ⟨fun x hx => ?_, fun hx => ?_⟩
      · rw [List.find?_cons, hp] at hx
        cases hx
        refine ⟨e, ?_⟩
        show forF f (c.e y :: mapE c l) env = _
        rw [forF_cons, he]; rfl
      · rw [List.find?_cons, hp] at hx
        cases hx
    | false =>
      have e1 : forF f (mapE c (y :: l)) env = forF f (mapE c l) env := by
        show forF f (c.e y :: mapE c l) env = _
        rw [forF_cons, h1 y List.mem_cons_self hp]; rfl
      rw [e1, List.find?_cons, hp]
      exact ⟨i1, i2⟩
/-- the place of the call behind which one alone holds a thing -/
def lonelyN (hs : Hands) (ps : List Nat) (t : Nat) : AV := match (List.range (ps.length + 1)).find? fun i => decide ((holdN (afterN hs (ps.take i)) t).length = 1) with
  | some i => .int ((i : Int) - 1)
  | none => .none
theorem w_lonely_at (hk : 5 ≤ k) {hs : Hands} (H : Ok hs) {ps : List Nat} (hp : Row hs.length ps) {t : Nat} (ht : t ∈ thingsN hs) : callD PM k 13 [cH.e hs, (cT cN).e ps, cN.e t] = .ok (lonelyN hs ps t, []) := by
  obtain ⟨j, rfl⟩ : ∃ j, k = j + 5 := ⟨k - 5, by omega⟩
  rw [call_s p_lonely_at rfl]
  simp [d_lonely_at, w_need_hands _ H, w_need_calls _ H hp, w_need_thing _ H ht, w_story_in _ H hp]
  have el : enumN (storyN hs ps) = (List.range (ps.length + 1)).map fun i => (i, afterN hs (ps.take i)) := by
    rw [enumN_eq ([] : Hands), story_len]
    refine List.map_congr_left fun i hi => ?_
    rw [story_at hs ps i (by have := List.mem_range.mp hi; omega)]
    rfl
  rw [el]
  have hfd : ((List.range (ps.length + 1)).map fun i => (i, afterN hs (ps.take i))).find? (fun x => decide ((holdN x.2 t).length = 1)) = ((List.range (ps.length + 1)).find? fun i => decide ((holdN (afterN hs (ps.take i)) t).length = 1)).map fun i => (i, afterN hs (ps.take i)) := List.find?_map ..
  obtain ⟨f1, f2⟩ := forF_find (cP cN cH) (f := fun x env => do
          let e ← bindTg (Tg.tup [3, 4]) x env
          let a ← look e 4
          let a ← bltop Blt.len [a]
          let a ← rng1 a
          let a ←
            loopV
                (fun x => do
                  let a ← look (List.set e 5 (some x)) 2
                  let a_1 ← look (List.set e 5 (some x)) 4
                  let a_2 ← look (List.set e 5 (some x)) 5
                  let a_3 ← idxop a_1 a_2
                  let a ← cmpop Cop.in_ a a_3
                  let k ← asB a
                  R.tf k
                      (do
                        let v ← look (List.set e 5 (some x)) 5
                        R.ok [v])
                      (R.ok []))
                a
          let a ← lstR a
          let a ← bltop Blt.len [a]
          let a ← cmpop Cop.eq a (cN.e 1)
          let a ← asB a
          R.tf a
              (do
                let a ← look e 3
                let v ← binop Bop.sub a (cN.e 1)
                R.ok (Fl.rt v e))
              (R.ok (Fl.nx ((List.set e 4 none).set 3 none)))) (fun x => decide ((holdN x.2 t).length = 1)) (fun x => PyData.int ((x.1 : Int) - 1)) [some (cH.e hs), some ((cT cN).e ps), some (cN.e t), none, none, none] ((List.range (ps.length + 1)).map fun i => (i, afterN hs (ps.take i)))
    (fun x hx hpx => by
      obtain ⟨i, hi, rfl⟩ := List.mem_map.mp hx
      have HX := H.after (ps.take i)
      have hh : ¬ (holdN (afterN hs (ps.take i)) t).length = 1 := of_decide_eq_false hpx
      have hb := H.le9
      have hl := H.line
      have eF : (List.range hs.length).filter (fun x => decide (t ∈ (afterN hs (ps.take i))[x]?.getD [])) = holdN (afterN hs (ps.take i)) t := by unfold holdN; rw [after_len]
      simp [hb]
      rw [eF]
      refine gd_fin2 (Nat.le_trans (hold_len _ _) HX.line) ?_
      rw [decide_eq_false hh]
      rfl)
    (fun x hx hpx => by
      obtain ⟨i, hi, rfl⟩ := List.mem_map.mp hx
      have HX := H.after (ps.take i)
      have hh : (holdN (afterN hs (ps.take i)) t).length = 1 := of_decide_eq_true hpx
      have hb := H.le9
      have hl := H.line
      refine ⟨[some (cH.e hs), some ((cT cN).e ps), some (cN.e t), some (cN.e i), some (cH.e (afterN hs (ps.take i))), none], ?_⟩
      have eF : (List.range hs.length).filter (fun x => decide (t ∈ (afterN hs (ps.take i))[x]?.getD [])) = holdN (afterN hs (ps.take i)) t := by unfold holdN; rw [after_len]
      simp [hb]
      rw [eF]
      refine gd_fin2 (Nat.le_trans (hold_len _ _) HX.line) ?_
      rw [decide_eq_true hh]
      rfl)
  rw [hfd] at f1 f2
  unfold lonelyN
  cases hfi : (List.range (ps.length + 1)).find? fun i => decide ((holdN (afterN hs (ps.take i)) t).length = 1) with
  | none =>
    rw [f2 (by rw [hfi]; rfl)]
    simp
  | some i =>
    obtain ⟨e, he⟩ := f1 (i, afterN hs (ps.take i)) (by rw [hfi]; rfl)
    rw [he]
    simp
theorem w__law_call (hk : 2 ≤ k) {hs : Hands} (H : Ok hs) {p : Nat} (hp : p < hs.length) : callD PM k 313 [cH.e hs, cN.e p] = .ok (cH.e (callN hs p), []) := by
  obtain ⟨j, rfl⟩ : ∃ j, k = j + 2 := ⟨k - 2, by omega⟩
  rw [call_s p__law_call rfl]
  have hle := H.le
  have h1 : min p hs.length ≤ line := Nat.le_trans (Nat.min_le_right _ _) H.line
  have hf : hs[p].filter (fun t => decide (holdN hs t = [p])) = (hs[p]?.getD []).filter fun t => decide (t ∉ spareN hs p) := by
    rw [getD_in hp]
    refine List.filter_congr fun t ht => decide_eq_decide.mpr ?_
    have hm : p ∈ holdN hs t := mem_hold.mpr ⟨hp, by rw [getD_in hp]; exact ht⟩
    rw [mem_spare, getD_in hp]
    constructor
    · intro h g; rw [h] at g; simp at g
    · intro h
      have h2 : (holdN hs t).length = 1 := by
        have := List.length_pos_of_mem hm
        have : ¬ 1 < (holdN hs t).length := fun g => h ⟨ht, g⟩
        omega
      match hL : holdN hs t, h2, hm with
      | [x], _, hm => rw [List.mem_singleton.mp hm]
  simp [d__law_call, hp, w__law_holders _ H, H.ln hp]
  refine gd_fin2 (line_of (by omega)) (gd_fin2 (line_of (by omega)) ?_)
  rw [hf]
  simp [callN, hp, List.set_eq_take_append_cons_drop]
theorem call_eq_iff {hs : Hands} {p : Nat} (hp : p < hs.length) : callN hs p = hs ↔ spareN hs p = [] := by
  constructor
  · intro h
    have e := congrArg (fun x : Hands => x[p]?.getD []) h
    simp only [call_at, if_true] at e
    rw [List.filter_eq_self] at e
    refine List.eq_nil_iff_forall_not_mem.mpr fun t ht => ?_
    exact of_decide_eq_true (e t (mem_spare.mp ht).1) ht
  · intro h
    unfold callN
    rw [h]
    refine ext_hands (by simp) fun q => ?_
    rw [List.getElem?_set]
    split
    · rename_i e; subst e; simp [hp]
    · rfl
theorem w__law_movers (hk : 3 ≤ k) {hs : Hands} (H : Ok hs) : callD PM k 314 [cH.e hs] = .ok ((cL cN).e (moversN hs), []) := by
  obtain ⟨j, rfl⟩ : ∃ j, k = j + 3 := ⟨k - 3, by omega⟩
  rw [call_s p__law_movers rfl]
  simp [d__law_movers, H.le9]
  rw [loopW_congr rfl fun x hx => by
    rw [w__law_call (by omega) H (List.mem_range.mp hx)]]
  simp
  have hf : (List.range hs.length).filter (fun x => !decide (callN hs x = hs)) = moversN hs := List.filter_congr fun x hx => by
    rw [decide_not, Bool.not_inj_iff]
    exact decide_eq_decide.mpr (call_eq_iff (List.mem_range.mp hx))
  rw [hf]
  exact gd_fin2 (ln_filter (by rw [List.length_range]; exact H.line)) rfl
end
section
variable {α γ : Type}
theorem forF_idxY (c : Co α) {f : AV → Env → R Fl} {l : List α} {env : Env} {K : Fl → R γ} {p : γ → Prop} (E : Nat → Env) (he : env = E 0) (h : ∀ n (hn : n < l.length), f (c.e l[n]) (E n) = .ok (.nx (E (n + 1)))) (hX : Ex (K (.nx (E l.length))) p) : Ex (forF f (mapE c l) env >>= K) p := by
  rw [he, forF_idx c E l h, R.ok_bind]
  exact hX
theorem forF_rngY {f : AV → Env → R Fl} {N : Nat} {env : Env} {K : Fl → R γ} {p : γ → Prop} (E : Nat → Env) (he : env = E 0) (h : ∀ n, n < N → f (cN.e n) (E n) = .ok (.nx (E (n + 1)))) (hX : Ex (K (.nx (E N))) p) : Ex (forF f (mapE cN (List.range N)) env >>= K) p := by
  refine forF_idxY cN E he (fun n hn => ?_) (by rw [List.length_range]; exact hX)
  rw [List.getElem_range]
  exact h n (by rw [List.length_range] at hn; exact hn)
theorem int_B (b : Bool) : bltop .int [.bool b] = .ok (cN.e (if b = true then 1 else 0)) := by cases b <;> rfl
theorem mul_1 (x : Nat) (p : Prop) [Decidable p] : binop .mul ((cL cN).e [x]) (cN.e (if p then 1 else 0)) = .ok ((cL cN).e (if p then [x] else [])) := by
  by_cases h : p
  · rw [if_pos h, if_pos h]; rfl
  · rw [if_neg h, if_neg h]; rfl
theorem mul_0 (x : Nat) (p : Prop) [Decidable p] : binop .mul ((cL cN).e [x]) (cN.e (if p then 0 else 1)) = .ok ((cL cN).e (if p then [] else [x])) := by
  by_cases h : p
  · rw [if_pos h, if_pos h]; rfl
  · rw [if_neg h, if_neg h]; rfl
theorem alk_Z {k : Nat} (hk : 1 ≤ k) (z : Int) : callD PM k 306 [cI.e z, cI.e z] = .ok (.bool true, []) := by
  obtain ⟨j, rfl⟩ : ∃ j, k = j + 1 := ⟨k - 1, by omega⟩
  rw [call_s p__law_alike rfl]
  have i1 : bltop .isTL [cI.e z] = .ok (.bool false) := rfl
  have i2 : cmpop .isN (cI.e z) .none = .ok (.bool false) := rfl
  have i3 : bltop .isStr [cI.e z] = .ok (.bool false) := rfl
  have i4 : bltop .isInt [cI.e z] = .ok (.bool true) := rfl
  have i5 : bltop .isBool [cI.e z] = .ok (.bool false) := rfl
  simp [d__law_alike, i1, i2, i3, i4, i5, eq_B]
end
end Ev
end

section
set_option linter.all false
set_option autoImplicit false
set_option maxRecDepth 10000
/-! Mh: sets of people, least and greatest; calls at once compared with rows. -/
namespace Ev
open T
open PySem (Str PyData)
/-! ### extend; min and max -/
section
variable {α β : Type} (c : Co α)
@[simp] theorem ext_Lg (l m : List α) : extL ((cL c).e l) ((cL c).e m) = (gd (l.length + m.length ≤ line) >>= fun _ => .ok ((cL c).e (l ++ m))) := by
  show (if (l.map c.e).length + (m.map c.e).length ≤ line then R.ok (PyData.list (l.map c.e ++ m.map c.e)) else .bad) = _
  rw [List.length_map, List.length_map]
  by_cases h : l.length + m.length ≤ line
  · rw [gd_ok h, if_pos h, ← List.map_append]; rfl
  · rw [gd_no h, if_neg h]; rfl
def mnC (b : α) : List α → α
  | [] => b
  | x :: xs => mnC (if ltc c x b = true then x else b) xs
def mxC (b : α) : List α → α
  | [] => b
  | x :: xs => mxC (if ltc c b x = true then x else b) xs
/-- the least, the greatest -/
def mnL : List α → α
  | [] => c.d
  | x :: xs => mnC c x xs
def mxL : List α → α
  | [] => c.d
  | x :: xs => mxC c x xs
theorem minD_map : ∀ (l : List α) (b : α), minD' (c.e b) (l.map c.e) = c.e (mnC c b l)
  | [], b => rfl
  | x :: l, b => by
    have e : (if ltD (c.e x) (c.e b) = true then c.e x else c.e b) = c.e (if ltc c x b = true then x else b) := by unfold ltc; split <;> rfl
    rw [List.map_cons, minD', e, minD_map l, mnC]
theorem maxD_map : ∀ (l : List α) (b : α), maxD' (c.e b) (l.map c.e) = c.e (mxC c b l)
  | [], b => rfl
  | x :: l, b => by
    have e : (if ltD (c.e b) (c.e x) = true then c.e x else c.e b) = c.e (if ltc c b x = true then x else b) := by unfold ltc; split <;> rfl
    rw [List.map_cons, maxD', e, maxD_map l, mxC]
theorem mm_ok [A : Al c] [D : Dp c 20] (l : List α) : (alikeA (l.map c.e) && (l.map c.e).all dOk1) = true := by
  rw [Bool.and_eq_true]
  constructor
  · unfold alikeA
    rw [plainAll_map, Bool.true_and, List.all_eq_true]
    intro x hx
    obtain ⟨a, _, rfl⟩ := List.mem_map.mp hx
    rw [List.all_eq_true]
    intro y hy
    obtain ⟨b, _, rfl⟩ := List.mem_map.mp hy
    exact A.al a b
  · rw [List.all_eq_true]
    intro x hx
    obtain ⟨a, _, rfl⟩ := List.mem_map.mp hx
    unfold dOk1
    exact decide_eq_true (Nat.le_trans (D.h a) (by decide))
theorem min_Lc [Al c] [Dp c 20] (hn : ∀ a, isNone (c.e a) = false) {l : List α} (h : l ≠ []) : bltop .min [(cL c).e l] = .ok (c.e (mnL c l)) := by
  match l, h with
  | x :: l, _ =>
    show (if (alikeA ((x :: l).map c.e) && ((x :: l).map c.e).all dOk1 && !isNone (c.e x)) = true then R.ok (minD' (c.e x) (l.map c.e)) else .bad) = _
    rw [mm_ok, hn, if_pos (show (true && !false) = true from rfl), minD_map]
    rfl
theorem max_Lc [Al c] [Dp c 20] (hn : ∀ a, isNone (c.e a) = false) {l : List α} (h : l ≠ []) : bltop .max [(cL c).e l] = .ok (c.e (mxL c l)) := by
  match l, h with
  | x :: l, _ =>
    show (if (alikeA ((x :: l).map c.e) && ((x :: l).map c.e).all dOk1 && !isNone (c.e x)) = true then R.ok (maxD' (c.e x) (l.map c.e)) else .bad) = _
    rw [mm_ok, hn, if_pos (show (true && !false) = true from rfl), maxD_map]
    rfl
theorem min_Tc [Al c] [Dp c 20] (hn : ∀ a, isNone (c.e a) = false) {l : List α} (h : l ≠ []) : bltop .min [(cT c).e l] = .ok (c.e (mnL c l)) := by
  match l, h with
  | x :: l, _ =>
    show (if (alikeA ((x :: l).map c.e) && ((x :: l).map c.e).all dOk1 && !isNone (c.e x)) = true then R.ok (minD' (c.e x) (l.map c.e)) else .bad) = _
    rw [mm_ok, hn, if_pos (show (true && !false) = true from rfl), minD_map]
    rfl
theorem max_Tc [Al c] [Dp c 20] (hn : ∀ a, isNone (c.e a) = false) {l : List α} (h : l ≠ []) : bltop .max [(cT c).e l] = .ok (c.e (mxL c l)) := by
  match l, h with
  | x :: l, _ =>
    show (if (alikeA ((x :: l).map c.e) && ((x :: l).map c.e).all dOk1 && !isNone (c.e x)) = true then R.ok (maxD' (c.e x) (l.map c.e)) else .bad) = _
    rw [mm_ok, hn, if_pos (show (true && !false) = true from rfl), maxD_map]
    rfl
variable [L : LO c]
theorem lo_not {a b d : α} (h : ltc c a b = false) (g : ltc c b d = false) : ltc c a d = false := by
  by_cases z : ltc c a d = true
  · by_cases e : a = b
    · subst e; rw [g] at z; cases z
    · have h2 := (L.tot a b e).resolve_left (by rw [h]; decide)
      rw [L.tr _ _ _ h2 z] at g
      cases g
  · exact Bool.eq_false_iff.mpr z
theorem mnC_spec : ∀ (l : List α) (b : α), (mnC c b l = b ∨ mnC c b l ∈ l) ∧ ltc c b (mnC c b l) = false ∧ ∀ y ∈ l, ltc c y (mnC c b l) = false
  | [], b => ⟨.inl rfl, L.irr b, fun y hy => by cases hy⟩
  | x :: l, b => by
    rw [mnC]
    by_cases h : ltc c x b = true
    · rw [if_pos h]
      obtain ⟨h1, h2, h3⟩ := mnC_spec l x
      have hbx : ltc c b x = false := by
        cases z : ltc c b x with
        | false => rfl
        | true => have := L.tr _ _ _ h z; rw [L.irr] at this; cases this
      refine ⟨.inr (h1.elim (fun e => by rw [e]; exact List.mem_cons_self) (List.mem_cons_of_mem _)), lo_not c hbx h2, fun y hy => ?_⟩
      rcases List.mem_cons.mp hy with rfl | hy
      · exact h2
      · exact h3 y hy
    · rw [if_neg h]
      have h := Bool.eq_false_iff.mpr h
      obtain ⟨h1, h2, h3⟩ := mnC_spec l b
      refine ⟨h1.imp id (List.mem_cons_of_mem _), h2, fun y hy => ?_⟩
      rcases List.mem_cons.mp hy with rfl | hy
      · exact lo_not c h h2
      · exact h3 y hy
theorem mxC_spec : ∀ (l : List α) (b : α), (mxC c b l = b ∨ mxC c b l ∈ l) ∧ ltc c (mxC c b l) b = false ∧ ∀ y ∈ l, ltc c (mxC c b l) y = false
  | [], b => ⟨.inl rfl, L.irr b, fun y hy => by cases hy⟩
  | x :: l, b => by
    rw [mxC]
    by_cases h : ltc c b x = true
    · rw [if_pos h]
      obtain ⟨h1, h2, h3⟩ := mxC_spec l x
      have hbx : ltc c x b = false := by
        cases z : ltc c x b with
        | false => rfl
        | true => have := L.tr _ _ _ h z; rw [L.irr] at this; cases this
      refine ⟨.inr (h1.elim (fun e => by rw [e]; exact List.mem_cons_self) (List.mem_cons_of_mem _)), lo_not c h2 hbx, fun y hy => ?_⟩
      rcases List.mem_cons.mp hy with rfl | hy
      · exact h2
      · exact h3 y hy
    · rw [if_neg h]
      have h := Bool.eq_false_iff.mpr h
      obtain ⟨h1, h2, h3⟩ := mxC_spec l b
      refine ⟨h1.imp id (List.mem_cons_of_mem _), h2, fun y hy => ?_⟩
      rcases List.mem_cons.mp hy with rfl | hy
      · exact lo_not c h2 h
      · exact h3 y hy
theorem mnL_mem {l : List α} (h : l ≠ []) : mnL c l ∈ l := by
  match l, h with
  | x :: l, _ => exact (mnC_spec c l x).1.elim (fun e => by rw [mnL, e]; exact List.mem_cons_self) (List.mem_cons_of_mem _)
theorem mnL_le {l : List α} {y : α} (h : y ∈ l) : ltc c y (mnL c l) = false := by
  match l, h with
  | x :: l, h =>
    rcases List.mem_cons.mp h with rfl | h
    · exact (mnC_spec c l y).2.1
    · exact (mnC_spec c l x).2.2 y h
theorem mxL_mem {l : List α} (h : l ≠ []) : mxL c l ∈ l := by
  match l, h with
  | x :: l, _ => exact (mxC_spec c l x).1.elim (fun e => by rw [mxL, e]; exact List.mem_cons_self) (List.mem_cons_of_mem _)
theorem mxL_le {l : List α} {y : α} (h : y ∈ l) : ltc c (mxL c l) y = false := by
  match l, h with
  | x :: l, h =>
    rcases List.mem_cons.mp h with rfl | h
    · exact (mxC_spec c l y).2.1
    · exact (mxC_spec c l x).2.2 y h
theorem lo_eq {a b : α} (h : ltc c a b = false) (g : ltc c b a = false) : a = b := Classical.byContradiction fun e => by
  rcases L.tot a b e with z | z
  · rw [h] at z; cases z
  · rw [g] at z; cases z
theorem mnL_eq {l : List α} {m : α} (hm : m ∈ l) (h : ∀ y ∈ l, ltc c y m = false) : mnL c l = m := lo_eq c (h _ (mnL_mem c (List.ne_nil_of_mem hm))) (mnL_le c hm)
theorem mxL_eq {l : List α} {m : α} (hm : m ∈ l) (h : ∀ y ∈ l, ltc c m y = false) : mxL c l = m := lo_eq c (mxL_le c hm) (h _ (mxL_mem c (List.ne_nil_of_mem hm)))
end
instance : LO cI := ⟨fun a => by show decide (a < a) = false; simp, fun a b d h g => by
  have h : a < b := of_decide_eq_true h
  have g : b < d := of_decide_eq_true g
  exact decide_eq_true (by omega), fun a b h => by
  rcases Int.lt_trichotomy a b with g | g | g
  · exact .inl (decide_eq_true g)
  · exact absurd g h
  · exact .inr (decide_eq_true g)⟩
theorem ltc_I (a b : Int) : ltc cI a b = decide (a < b) := rfl
section
variable {α β : Type} [DecidableEq α] [DecidableEq β]
theorem ltc_P (c : Co α) (k : Co β) [LO k] (p q : α × β) : ltc (cP c k) p q = if p.1 = q.1 then ltc k p.2 q.2 else ltc c p.1 q.1 := by
  show ltL [c.e p.1, k.e p.2] [c.e q.1, k.e q.2] = _
  rw [ltL, eqv_dec c]
  by_cases h : p.1 = q.1
  · rw [if_pos h, if_pos (decide_eq_true h), ltL, eqv_dec k]
    by_cases g : p.2 = q.2
    · rw [if_pos (decide_eq_true g), ltL, g, LO.irr]
    · rw [if_neg (fun z => g (of_decide_eq_true z))]; rfl
  · rw [if_neg h, if_neg (fun z => h (of_decide_eq_true z))]; rfl
instance (c : Co α) (k : Co β) [A : LO c] [B : LO k] : LO (cP c k) := ⟨fun p => by rw [ltc_P, if_pos rfl, B.irr], fun p q r h g => by
  rw [ltc_P] at h g ⊢
  by_cases h1 : p.1 = q.1
  · rw [if_pos h1] at h
    by_cases h2 : q.1 = r.1
    · rw [if_pos h2] at g; rw [if_pos (h1.trans h2)]; exact B.tr _ _ _ h g
    · rw [if_neg h2] at g; rw [if_neg (fun z => h2 (h1.symm.trans z)), h1]; exact g
  · rw [if_neg h1] at h
    by_cases h2 : q.1 = r.1
    · rw [if_neg (fun z => h1 (z.trans h2.symm)), ← h2]; exact h
    · rw [if_neg h2] at g
      by_cases h3 : p.1 = r.1
      · rw [h3] at h
        have := A.tr _ _ _ h g
        rw [A.irr] at this
        cases this
      · rw [if_neg h3]; exact A.tr _ _ _ h g, fun p q h => by
  rw [ltc_P, ltc_P]
  by_cases h1 : p.1 = q.1
  · rw [if_pos h1, if_pos h1.symm]
    exact B.tot _ _ fun e => h (Prod.ext h1 e)
  · rw [if_neg h1, if_neg fun e => h1 e.symm]
    exact A.tot _ _ h1⟩
end
theorem negneg (n : Nat) : cI.e (-(-(n : Int))) = cN.e n := by rw [Int.neg_neg]; rfl
@[simp] theorem neg_I (z : Int) : negV (cI.e z) = .ok (cI.e (-z)) := nrfl rfl
/-! ### all sets -/
def choicesN : Nat → List (List Nat)
  | 0 => [[]]
  | n + 1 => choicesN n ++ (choicesN n).map fun S => S ++ [n]
theorem choices_len : ∀ n : Nat, (choicesN n).length = 2 ^ n
  | 0 => rfl
  | n + 1 => by rw [choicesN, List.length_append, List.length_map, choices_len n, Nat.pow_succ]; omega
theorem asc_snoc {S : List Nat} {n : Nat} (h : S.Pairwise (· < ·)) (hl : ∀ x ∈ S, x < n) : (S ++ [n]).Pairwise (· < ·) := List.pairwise_append.mpr ⟨h, List.pairwise_singleton _ _, fun a ha b hb => by rw [List.mem_singleton.mp hb]; exact hl a ha⟩
theorem mem_choices {S : List Nat} : ∀ {n : Nat}, S ∈ choicesN n ↔ Ppl n S
  | 0 => by
    rw [choicesN, List.mem_singleton]
    constructor
    · rintro rfl; exact ⟨.nil, fun q hq => by cases hq⟩
    · intro h
      exact List.eq_nil_iff_forall_not_mem.mpr fun q hq => absurd (h.lt q hq) (Nat.not_lt_zero _)
  | n + 1 => by
    have ih : ∀ {S : List Nat}, S ∈ choicesN n ↔ Ppl n S := mem_choices
    rw [choicesN, List.mem_append, List.mem_map]
    constructor
    · rintro (h | ⟨U, h, rfl⟩)
      · have h := ih.mp h
        exact ⟨h.asc, fun q hq => Nat.lt_succ_of_lt (h.lt q hq)⟩
      · have h := ih.mp h
        refine ⟨asc_snoc h.asc h.lt, fun q hq => ?_⟩
        rcases List.mem_append.mp hq with g | g
        · exact Nat.lt_succ_of_lt (h.lt q g)
        · rw [List.mem_singleton.mp g]; exact Nat.lt_succ_self _
    · intro h
      by_cases hn : n ∈ S
      · refine .inr ⟨S.filter fun x => decide (x < n), ih.mpr ⟨h.asc.filter _, fun q hq => of_decide_eq_true (List.mem_filter.mp hq).2⟩, ?_⟩
        refine asc_ext (asc_snoc (h.asc.filter _) fun q hq => of_decide_eq_true (List.mem_filter.mp hq).2) h.asc fun z => ?_
        rw [List.mem_append, List.mem_filter, List.mem_singleton, decide_eq_true_iff]
        constructor
        · rintro (g | g)
          · exact g.1
          · rw [g]; exact hn
        · intro g
          have := h.lt z g
          by_cases e : z = n
          · exact .inr e
          · exact .inl ⟨g, by omega⟩
      · refine .inl (ih.mpr ⟨h.asc, fun q hq => ?_⟩)
        have := h.lt q hq
        have : q ≠ n := fun e => hn (e ▸ hq)
        omega
theorem choices_nodup : ∀ n : Nat, (choicesN n).Nodup
  | 0 => by simp [choicesN]
  | n + 1 => by
    rw [choicesN]
    refine List.nodup_append.mpr ⟨choices_nodup n, ?_, ?_⟩
    · rw [List.Nodup, List.pairwise_map]
      exact (choices_nodup n).imp fun h e => h (List.append_cancel_right e)
    · rintro U hU V hV rfl
      obtain ⟨W, _, rfl⟩ := List.mem_map.mp hV
      have := (mem_choices.mp hU).lt n (by simp)
      omega
section
variable {k : Nat}
theorem w_choices (hk : 1 ≤ k) {n : Nat} (hn : n ≤ 7) : callD PM k 50 [cN.e n] = .ok ((cL (cT cN)).e (choicesN n), []) := by
  obtain ⟨j, rfl⟩ : ∃ j, k = j + 1 := ⟨k - 1, by omega⟩
  rw [call_s p_choices rfl]
  have h1 : n ≤ big9 := le_big9 (by omega)
  simp [d_choices, h1]
  refine forF_rng (fun m => [some (cN.e n), some ((cL (cT cN)).e (choicesN m)), none, none]) rfl (fun m hm => ?_) ?_
  · have hp : (choicesN m).length ≤ 128 := by
      rw [choices_len]
      exact Nat.le_trans (Nat.pow_le_pow_right (by omega) (show m ≤ 7 by omega)) (by decide)
    have hl : ∀ S ∈ choicesN m, S.length + 1 ≤ line := fun S hS => line_of (by have := (mem_choices.mp hS).len; omega)
    have hl2 : ∀ S ∈ choicesN m, S.length ≤ line := fun S hS => line_of (by have := (mem_choices.mp hS).len; omega)
    simp
    rw [loopW_congr rfl fun S hS => gd_fin2 (hl2 S hS) (gd_fin2 (hl S hS) rfl), loopW_one (cT cN) fun S => S ++ [m]]
    have h2 : (choicesN m).length ≤ line := line_of (by omega)
    have h3 : (choicesN m).length + (choicesN m).length ≤ line := line_of (by omega)
    simp [h2, h3, choicesN]
  · simp
theorem w__law_sets (hk : 1 ≤ k) {n : Nat} (hn : n ≤ 7) : callD PM k 319 [cN.e n] = .ok ((cL (cT cN)).e (choicesN n), []) := by
  obtain ⟨j, rfl⟩ : ∃ j, k = j + 1 := ⟨k - 1, by omega⟩
  rw [call_s p__law_sets rfl]
  have h1 : n ≤ big9 := le_big9 (by omega)
  simp [d__law_sets, h1]
  refine forF_rng (fun m => [some (cN.e n), some ((cL (cT cN)).e (choicesN m)), none, none]) rfl (fun m hm => ?_) ?_
  · have hp : (choicesN m).length ≤ 128 := by
      rw [choices_len]
      exact Nat.le_trans (Nat.pow_le_pow_right (by omega) (show m ≤ 7 by omega)) (by decide)
    have hl : ∀ S ∈ choicesN m, S.length + 1 ≤ line := fun S hS => line_of (by have := (mem_choices.mp hS).len; omega)
    simp
    exact gd_fin2 hl (gd_fin2 (line_of (by omega)) (gd_fin2 (line_of (by omega)) rfl))
  · simp
theorem lawpick_Ex {α γ : Type} (c : Co α) {K : AV × List AV → R γ} {p : γ → Prop} (hk : 2 ≤ k) {r : AV} (hr : RowOk r) {l : List α} (hl : 0 < l.length) (hl2 : l.length < 1000000) (h : ∀ v r', v < l.length → RowOk r' → Ex (K (c.e (l[v]?.getD c.d), [r'])) p) : Ex (callD PM k 315 [r, (cL c).e l] >>= K) p := by
  obtain ⟨j, rfl⟩ : ∃ j, k = j + 2 := ⟨k - 2, by omega⟩
  rw [call_s p__law_pick rfl]
  simp [d__law_pick, tmpL_mu hr.mu]
  refine taken_Ex (by omega) hr hl (by omega) fun v r' hv hr' => ?_
  simp [hv, fin_io hr'.mu]
  have := h v r' hv hr'
  rw [getD_in hv] at this
  exact this
/-! ### calls at once -/
def safeN (hs : Hands) (S : List Nat) : Prop := thingsN (togetherN hs S) = thingsN hs
instance (hs : Hands) (S : List Nat) : Decidable (safeN hs S) := inferInstanceAs (Decidable (_ = _))
theorem together_at (hs : Hands) (S : List Nat) (p : Nat) : (togetherN hs S)[p]?.getD [] = (hs[p]?.getD []).filter fun t => !decide (t ∈ if p ∈ S then spareN hs p else []) := by
  unfold togetherN
  rw [enumN_eq ([] : List Nat), List.map_map, List.getElem?_map]
  by_cases h : p < hs.length
  · rw [List.getElem?_eq_getElem (by rw [List.length_range]; exact h), List.getElem_range]
    rfl
  · rw [List.getElem?_eq_none (by rw [List.length_range]; omega), List.getElem?_eq_none (by omega)]
    rfl
theorem together_one {hs : Hands} {p : Nat} (hp : p < hs.length) : togetherN hs [p] = callN hs p := by
  refine ext_hands (by simp) fun q => ?_
  rw [together_at, call_at]
  by_cases h : q = p
  · subst h
    simp
  · simp [h]
theorem hold_together (hs : Hands) (S : List Nat) (t : Nat) : holdN (togetherN hs S) t = if 1 < (holdN hs t).length then (holdN hs t).filter (fun q => decide (q ∉ S)) else holdN hs t := by
  have key : ∀ q, q ∈ holdN (togetherN hs S) t ↔ q ∈ holdN hs t ∧ (1 < (holdN hs t).length → q ∉ S) := fun q => by
    rw [mem_hold, together_len, together_at, List.mem_filter, mem_hold]
    constructor
    · rintro ⟨h1, h2, h3⟩
      refine ⟨⟨h1, h2⟩, fun g hq => ?_⟩
      rw [if_pos hq] at h3
      have : t ∈ spareN hs q := mem_spare.mpr ⟨h2, g⟩
      simp [this] at h3
    · rintro ⟨⟨h1, h2⟩, h3⟩
      refine ⟨h1, h2, ?_⟩
      by_cases hq : q ∈ S
      · rw [if_pos hq]
        have : t ∉ spareN hs q := fun z => h3 (mem_spare.mp z).2 hq
        simp [this]
      · rw [if_neg hq]
        simp
  by_cases h : 1 < (holdN hs t).length
  · rw [if_pos h]
    refine asc_ext (hold_asc _ _) ((hold_asc _ _).filter _) fun q => ?_
    rw [key, List.mem_filter, decide_eq_true_iff]
    exact ⟨fun ⟨a, b⟩ => ⟨a, b h⟩, fun ⟨a, b⟩ => ⟨a, fun _ => b⟩⟩
  · rw [if_neg h]
    refine asc_ext (hold_asc _ _) (hold_asc _ _) fun q => ?_
    rw [key]
    exact ⟨fun ⟨a, b⟩ => a, fun a => ⟨a, fun g => absurd g h⟩⟩
theorem lost_risky (hs : Hands) (S : List Nat) : lostN hs S = riskyN hs S := by
  unfold lostN riskyN
  refine List.filter_congr fun t ht => decide_eq_decide.mpr ?_
  have hne := hold_ne.mpr ht
  rw [← hold_ne, Classical.not_not, hold_together]
  by_cases h : 1 < (holdN hs t).length
  · rw [if_pos h, List.filter_eq_nil_iff]
    simp [h]
  · rw [if_neg h]
    exact ⟨fun z => absurd z hne, fun z => absurd z.1 h⟩
theorem lost_nil {hs : Hands} {S : List Nat} : lostN hs S = [] ↔ safeN hs S := by
  unfold lostN safeN
  rw [List.filter_eq_nil_iff]
  constructor
  · intro h
    refine things_ext fun t => ⟨fun g => ?_, fun g => ?_⟩
    · obtain ⟨q, hq⟩ := mem_things_at.mp g
      rw [together_at] at hq
      exact mem_things_at.mpr ⟨q, (List.mem_filter.mp hq).1⟩
    · have := h t g
      simpa using this
  · intro h t ht
    rw [h]
    simp [ht]
theorem together_hand (hs : Hands) (S : List Nat) (p : Nat) : (togetherN hs S)[p]?.getD [] = (hs[p]?.getD []).filter fun t => decide (p ∈ holdN (togetherN hs S) t) := by
  rw [together_at]
  refine List.filter_congr fun t ht => ?_
  have hp := lt_of_mem_at ht
  refine Bool.eq_iff_iff.mpr ?_
  rw [decide_eq_true_iff, mem_hold, together_len, together_at, List.mem_filter]
  exact ⟨fun h => ⟨hp, ht, h⟩, fun h => h.2.2⟩
/-- where each thing that several hold stays with one who is not called, all at once does as a row -/
theorem row_together {hs : Hands} {S : List Nat} (h : ∀ t ∈ thingsN hs, 1 < (holdN hs t).length → (holdN hs t).filter (fun q => decide (q ∉ S)) ≠ []) : afterN hs S = togetherN hs S := by
  refine ext_hands (by simp) fun p => ?_
  rw [after_hand, together_hand]
  refine List.filter_congr fun t ht => ?_
  have hp := lt_of_mem_at ht
  have htt : t ∈ thingsN hs := mem_things_at.mpr ⟨p, ht⟩
  have hne := hold_ne.mpr htt
  have e : holdN (afterN hs S) t = holdN (togetherN hs S) t := by
    rw [hold_together]
    by_cases g : 1 < (holdN hs t).length
    · rw [if_pos g, hold_due hne]
      unfold dueN
      rw [if_neg (h t htt g)]
    · rw [if_neg g]
      have hl := List.length_pos_iff.mpr hne
      have hne2 : holdN (afterN hs S) t ≠ [] := hold_ne.mpr (by rw [things_after]; exact htt)
      have hsub : ∀ q ∈ holdN (afterN hs S) t, q ∈ holdN hs t := fun q hq => by
        obtain ⟨a, b⟩ := mem_hold.mp hq
        rw [after_hand] at b
        rw [after_len] at a
        exact mem_hold.mpr ⟨a, (List.mem_filter.mp b).1⟩
      match hL : holdN hs t, hM : holdN (afterN hs S) t with
      | [x], y :: r =>
        have hn := hold_nodup (afterN hs S) t
        rw [hL, hM] at hsub
        rw [hM] at hn
        have hy := List.mem_singleton.mp (hsub y List.mem_cons_self)
        subst hy
        cases r with
        | nil => rfl
        | cons z r =>
          have hz := List.mem_singleton.mp (hsub z (by simp))
          subst hz
          simp at hn
      | [], _ => exact absurd hL hne
      | [x], [] => exact absurd hM hne2
      | x :: y :: r, _ => exact absurd (by rw [hL]; simp) g
  rw [e]
theorem safe_row {hs : Hands} {S : List Nat} (h : safeN hs S) : afterN hs S = togetherN hs S := row_together fun t ht g => by
  have h2 : t ∈ thingsN (togetherN hs S) := by rw [h]; exact ht
  have := hold_ne.mpr h2
  rw [hold_together, if_pos g] at this
  exact this
def calmN (hs : Hands) (S : List Nat) : Prop := (pairsN hs).filter (fun e => decide (e.1 ∈ S ∧ e.2 ∈ S)) = []
instance (hs : Hands) (S : List Nat) : Decidable (calmN hs S) := inferInstanceAs (Decidable (_ = _))
theorem calm_row {hs : Hands} {S : List Nat} (h : calmN hs S) : afterN hs S = togetherN hs S := row_together fun t ht g z => by
  unfold calmN at h
  rw [List.filter_eq_nil_iff] at h z
  have hn := hold_asc hs t
  match hL : holdN hs t, g with
  | a :: b :: r, _ =>
    rw [hL] at hn
    have hab : a < b := (List.pairwise_cons.mp hn).1 b List.mem_cons_self
    have ha : a ∈ holdN hs t := by rw [hL]; simp
    have hb : b ∈ holdN hs t := by rw [hL]; simp
    have a1 := z a ha
    have b1 := z b hb
    obtain ⟨_, a2⟩ := mem_hold.mp ha
    obtain ⟨b3, b2⟩ := mem_hold.mp hb
    have := h (a, b) (mem_pairs.mpr ⟨hab, b3, share_iff.mpr ⟨t, a2, b2⟩⟩)
    simp at a1 b1 this
    exact this a1 b1
theorem Ppl.line {n : Nat} {S : List Nat} (h : Ppl n S) (hn : n ≤ 7) : S.length ≤ line := line_of (by have := h.len; omega)
theorem w_safe_in (hk : 4 ≤ k) {hs : Hands} (H : Ok hs) (S : List Nat) : callD PM k 262 [cH.e hs, (cT cN).e S] = .ok (.bool (decide (safeN hs S)), []) := by
  obtain ⟨j, rfl⟩ : ∃ j, k = j + 4 := ⟨k - 4, by omega⟩
  rw [call_s p_safe_in rfl]
  simp [d_safe_in, w_together_in _ H, w_things_in _ (H.together S), w_things_in _ H]
  exact Iff.rfl
theorem w_is_safe (hk : 5 ≤ k) {hs : Hands} (H : Ok hs) {S : List Nat} (hp : Ppl hs.length S) : callD PM k 263 [cH.e hs, (cT cN).e S] = .ok (.bool (decide (safeN hs S)), []) := by
  obtain ⟨j, rfl⟩ : ∃ j, k = j + 5 := ⟨k - 5, by omega⟩
  rw [call_s p_is_safe rfl]
  simp [d_is_safe, w_need_hands _ H, w_need_people _ H hp, w_safe_in _ H]
def safesN (hs : Hands) : List (List Nat) := srt (cT cN) ((choicesN hs.length).filter fun S => decide (safeN hs S))
theorem choices_line {n : Nat} (hn : n ≤ 7) : (choicesN n).length ≤ 128 := by
  rw [choices_len]
  exact Nat.le_trans (Nat.pow_le_pow_right (by omega) hn) (by decide)
theorem w_safe_sets (hk : 5 ≤ k) {hs : Hands} (H : Ok hs) : callD PM k 264 [cH.e hs] = .ok ((cL (cT cN)).e (safesN hs), []) := by
  obtain ⟨j, rfl⟩ : ∃ j, k = j + 5 := ⟨k - 5, by omega⟩
  rw [call_s p_safe_sets rfl]
  have h1 : (choicesN hs.length).length ≤ line := line_of (by have := choices_line H.le; omega)
  simp [d_safe_sets, w_need_hands _ H, w_choices _ H.le, w_safe_in _ H, h1, safesN]
theorem w_most_safe (hk : 5 ≤ k) {hs : Hands} (H : Ok hs) {m : Int × List Nat} (hm : mnL (cP cI (cT cN)) (((choicesN hs.length).filter fun S => decide (safeN hs S)).map fun S => (-(S.length : Int), S)) = m) (hne : (choicesN hs.length).filter (fun S => decide (safeN hs S)) ≠ []) : callD PM k 265 [cH.e hs] = .ok ((cP cI (cT cN)).e (-m.1, m.2), []) := by
  obtain ⟨j, rfl⟩ : ∃ j, k = j + 5 := ⟨k - 5, by omega⟩
  rw [call_s p_most_safe rfl]
  have h1 : (choicesN hs.length).length ≤ line := line_of (by have := choices_line H.le; omega)
  simp [d_most_safe, w_need_hands _ H, w_choices _ H.le, w_safe_in _ H, h1]
  rw [min_Lc (cP cI (cT cN)) (fun _ => rfl) (fun e => hne (List.map_eq_nil_iff.mp e)), hm]
  simp
theorem w_same_as_row (hk : 5 ≤ k) {hs : Hands} (H : Ok hs) {S : List Nat} (hp : Ppl hs.length S) : callD PM k 268 [cH.e hs, (cT cN).e S] = .ok (.bool (decide (afterN hs S = togetherN hs S)), []) := by
  obtain ⟨j, rfl⟩ : ∃ j, k = j + 5 := ⟨k - 5, by omega⟩
  rw [call_s p_same_as_row rfl]
  simp [d_same_as_row, w_need_hands _ H, w_need_people _ H hp]
  refine forF_idxB cN (fun n => [some (cH.e hs), some ((cT cN).e S), some (cH.e (afterN hs (S.take n))), none]) rfl (fun n hn => ?_) ?_
  · have h1 := hp.lt _ (List.getElem_mem hn)
    have HX := H.after (S.take n)
    have h2 : S[n] < (afterN hs (S.take n)).length := by rw [after_len]; exact h1
    simp [w_together_in _ HX, together_one h2]
    rw [take_snoc _ hn, after_snoc]
  · simp [w_together_in _ H]
theorem w_peaceful (hk : 5 ≤ k) {hs : Hands} (H : Ok hs) {S : List Nat} (hp : Ppl hs.length S) : callD PM k 269 [cH.e hs, (cT cN).e S] = .ok (.bool (decide (calmN hs S)), []) := by
  obtain ⟨j, rfl⟩ : ∃ j, k = j + 5 := ⟨k - 5, by omega⟩
  rw [call_s p_peaceful rfl]
  have h1 : (pairsN hs).length ≤ line := line_of (by have := pairs_len hs H.le; omega)
  simp [d_peaceful, w_need_hands _ H, w_need_people _ H hp, w_pairs_in _ H, h1]
  rw [loopW_congr (g := fun x => R.ok [PyData.bool (decide (x.1 ∈ S ∧ x.2 ∈ S))]) rfl fun x hx => by
    by_cases a : x.1 ∈ S <;> simp [a]]
  rw [loopW_bool fun x : Nat × Nat => decide (x.1 ∈ S ∧ x.2 ∈ S)]
  have hl : ((pairsN hs).map fun x => decide (x.1 ∈ S ∧ x.2 ∈ S)).length ≤ line := by rw [List.length_map]; exact h1
  simp only [lstR_g, gd_ok hl, R.ok_bind, any_L, asB_bool]
  have e : (!((pairsN hs).map fun x => decide (x.1 ∈ S ∧ x.2 ∈ S)).any id) = decide (calmN hs S) := by
    rw [Bool.eq_iff_iff, Bool.not_eq_true', decide_eq_true_iff, List.any_eq_false]
    show _ ↔ (pairsN hs).filter (fun e => decide (e.1 ∈ S ∧ e.2 ∈ S)) = []
    rw [List.filter_eq_nil_iff]
    simp
  rw [e]
theorem w__law_once (hk : 3 ≤ k) {hs : Hands} (H : Ok hs) (S : List Nat) : callD PM k 330 [cH.e hs, (cT cN).e S] = .ok (cH.e (togetherN hs S), []) := by
  obtain ⟨j, rfl⟩ : ∃ j, k = j + 3 := ⟨k - 3, by omega⟩
  rw [call_s p__law_once rfl]
  simp [d__law_once, H.le9]
  rw [loopW_congr (g := fun x => R.ok [(cT cN).e ((togetherN hs S)[x]?.getD [])]) rfl fun x hx => by
    have hx := List.mem_range.mp hx
    rw [w__law_call (by omega) H hx]
    have e1 : (togetherN hs S)[x]?.getD [] = if x ∈ S then (callN hs x)[x]?.getD [] else hs[x]?.getD [] := by
      rw [together_at, call_at]
      by_cases h : x ∈ S
      · simp [h]
      · simp [h]
    by_cases h : x ∈ S
    · simp [h, hx] at e1 ⊢
      rw [e1]
    · simp [h, hx] at e1 ⊢
      rw [e1]]
  rw [loopW_one (cT cN) fun x => (togetherN hs S)[x]?.getD []]
  have e2 : (List.range hs.length).map (fun x => (togetherN hs S)[x]?.getD []) = togetherN hs S := by
    have := part_range (togetherN hs S)
    rw [together_len] at this
    exact this
  rw [e2]
  simp [H.line]
theorem w__law_done (hk : 3 ≤ k) {hs : Hands} (H : Ok hs) {S : List Nat} (hS : ∀ p ∈ S, p < hs.length) : callD PM k 316 [cH.e hs, (cT cN).e S] = .ok (cH.e (afterN hs S), []) := by
  obtain ⟨j, rfl⟩ : ∃ j, k = j + 3 := ⟨k - 3, by omega⟩
  rw [call_s p__law_done rfl]
  simp [d__law_done]
  refine forF_idxB cN (fun n => [some (cH.e (afterN hs (S.take n))), some ((cT cN).e S), none]) rfl (fun n hn => ?_) ?_
  · have h1 := hS _ (List.getElem_mem hn)
    have HX := H.after (S.take n)
    have h2 : S[n] < (afterN hs (S.take n)).length := by rw [after_len]; exact h1
    simp [w__law_call _ HX h2]
    rw [take_snoc _ hn, after_snoc]
  · simp
theorem forF_filterY {α δ β : Type} (c : Co α) {f : AV → Env → R Fl} {l : List α} {env : Env} {K : Fl → R β} {q : β → Prop} (E : List δ → Env) (g : α → δ) (p : α → Bool) (he : env = E []) (hl : l.length ≤ line)
    (h : ∀ x ∈ l, ∀ acc : List δ, acc.length < line → f (c.e x) (E acc) = .ok (.nx (E (if p x then acc ++ [g x] else acc))))
    (hX : Ex (K (.nx (E ((l.filter p).map g)))) q) : Ex (forF f (mapE c l) env >>= K) q := by
  rw [forF_filter c (K := K) (X := K (.nx (E ((l.filter p).map g)))) E g p he hl h rfl]
  exact hX
theorem together_nil (hs : Hands) : togetherN hs [] = hs := ext_hands (by simp) fun p => by
  rw [together_at]
  simp
theorem safe_nil (hs : Hands) : safeN hs [] := by unfold safeN; rw [together_nil]
def sizeL (C : List (List Nat)) : Nat := mxL cN (C.map List.length)
def bestL (C : List (List Nat)) : List Nat := mnL (cT cN) (C.filter fun S => decide (S.length = sizeL C))
theorem best_ne {C : List (List Nat)} (h : C ≠ []) : C.filter (fun S => decide (S.length = sizeL C)) ≠ [] := by
  have hsz : sizeL C ∈ C.map List.length := mxL_mem cN fun e => h (List.map_eq_nil_iff.mp e)
  obtain ⟨S0, h0, e0⟩ := List.mem_map.mp hsz
  exact List.ne_nil_of_mem (List.mem_filter.mpr ⟨h0, decide_eq_true e0⟩)
theorem best_mem {C : List (List Nat)} (h : C ≠ []) : bestL C ∈ C := (List.mem_filter.mp (mnL_mem (cT cN) (best_ne h))).1
theorem most_eq {C : List (List Nat)} (h : C ≠ []) : mnL (cP cI (cT cN)) (C.map fun S => (-(S.length : Int), S)) = (-((sizeL (srt (cT cN) C) : Nat) : Int), bestL (srt (cT cN) C)) := by
  have hm : ∀ S, S ∈ srt (cT cN) C ↔ S ∈ C := fun S => (srt_perm (cT cN) C).mem_iff
  have hne : srt (cT cN) C ≠ [] := fun e => by
    obtain ⟨x, hx⟩ := List.exists_mem_of_ne_nil _ h
    have := (hm x).mpr hx
    rw [e] at this
    cases this
  have hsz : sizeL (srt (cT cN) C) ∈ (srt (cT cN) C).map List.length := mxL_mem cN fun e => hne (List.map_eq_nil_iff.mp e)
  obtain ⟨S0, h0, e0⟩ := List.mem_map.mp hsz
  have hb : bestL (srt (cT cN) C) ∈ (srt (cT cN) C).filter fun S => decide (S.length = sizeL (srt (cT cN) C)) := mnL_mem (cT cN) (List.ne_nil_of_mem (List.mem_filter.mpr ⟨h0, decide_eq_true e0⟩))
  obtain ⟨b1, b2⟩ := List.mem_filter.mp hb
  have b2 := of_decide_eq_true b2
  refine mnL_eq (cP cI (cT cN)) (List.mem_map.mpr ⟨_, (hm _).mp b1, by rw [b2]⟩) fun y hy => ?_
  obtain ⟨S, hS, rfl⟩ := List.mem_map.mp hy
  rw [ltc_P]
  have hle : ltc cN (sizeL (srt (cT cN) C)) S.length = false := mxL_le cN (List.mem_map.mpr ⟨S, (hm S).mpr hS, rfl⟩)
  rw [ltc_N, decide_eq_false_iff_not] at hle
  by_cases g : S.length = sizeL (srt (cT cN) C)
  · rw [if_pos (by rw [g])]
    exact mnL_le (cT cN) (List.mem_filter.mpr ⟨(hm S).mpr hS, decide_eq_true g⟩)
  · rw [if_neg (fun z => g (by have := Int.neg_inj.mp z; omega)), ltc_I]
    exact decide_eq_false (by omega)
theorem w_most_safe2 {k : Nat} (hk : 5 ≤ k) {hs : Hands} (H : Ok hs) : callD PM k 265 [cH.e hs] = .ok ((cP cN (cT cN)).e (sizeL (safesN hs), bestL (safesN hs)), []) := by
  have hne : (choicesN hs.length).filter (fun S => decide (safeN hs S)) ≠ [] := List.ne_nil_of_mem (List.mem_filter.mpr ⟨mem_choices.mpr ⟨.nil, fun q hq => by cases hq⟩, decide_eq_true (safe_nil hs)⟩)
  rw [w_most_safe hk H (most_eq hne) hne]
  show R.ok ((cP cI (cT cN)).e (-(-((sizeL (safesN hs) : Nat) : Int)), bestL (safesN hs)), ([] : List AV)) = _
  rw [Int.neg_neg]
  rfl
theorem mem_safes {hs : Hands} {S : List Nat} : S ∈ safesN hs ↔ Ppl hs.length S ∧ safeN hs S := by
  unfold safesN
  rw [(srt_perm (cT cN) _).mem_iff, List.mem_filter, mem_choices, decide_eq_true_iff]
theorem alk_LTN {k : Nat} (hk : 3 ≤ k) {l : List (List Nat)} (hl : l.length ≤ big9) (h : ∀ x ∈ l, x.length ≤ big9) : callD PM k 306 [(cL (cT cN)).e l, (cL (cT cN)).e l] = .ok (.bool true, []) := alk_L (cT cN) hl (fun x hx k hk => alk_TN hk (h x hx)) hk
theorem alk_PNT {k : Nat} (hk : 3 ≤ k) {p : Nat × List Nat} (h : p.2.length ≤ big9) : callD PM k 306 [(cP cN (cT cN)).e p, (cP cN (cT cN)).e p] = .ok (.bool true, []) := alk_P cN (cT cN) (d := 2) p (fun k hk => alk_N (by omega) _) (fun k hk => alk_TN hk h) hk
theorem Ppl.big {n : Nat} {S : List Nat} (h : Ppl n S) (hn : n ≤ 7) : S.length ≤ big9 := le_big9 (by have := h.len; omega)
end
end Ev
end

section
set_option linter.all false
set_option autoImplicit false
set_option maxRecDepth 10000
/-! Mi: covers. -/
namespace Ev
open T
open PySem (Str PyData)
def coverN (hs : Hands) (S : List Nat) : Prop := ∀ e ∈ pairsN hs, e.1 ∈ S ∨ e.2 ∈ S
instance (hs : Hands) (S : List Nat) : Decidable (coverN hs S) := inferInstanceAs (Decidable (∀ e ∈ pairsN hs, e.1 ∈ S ∨ e.2 ∈ S))
def coversN (hs : Hands) : List (List Nat) := srt (cT cN) ((choicesN hs.length).filter fun S => decide (coverN hs S))
def fewN (hs : Hands) : Nat := mnL cN ((coversN hs).map List.length)
def leastN (hs : Hands) : List (List Nat) := (coversN hs).filter fun S => decide (S.length = fewN hs)
def tightN (hs : Hands) : List (List Nat) := (coversN hs).filter fun S => decide (∀ p ∈ S, S.filter (fun q => decide (q ≠ p)) ∉ coversN hs)
def mustN (hs : Hands) : List Nat := (List.range hs.length).filter fun p => decide (∀ S ∈ leastN hs, p ∈ S)
def sumW (ws S : List Nat) : Nat := (S.map fun p => ws[p]?.getD 0).sum
def cheapN (hs : Hands) (ws : List Nat) : Nat × List Nat := mnL (cP cN (cT cN)) ((coversN hs).map fun S => (sumW ws S, S))
def restN (n : Nat) (S : List Nat) : List Nat := (List.range n).filter fun p => decide (p ∉ S)
def apartN (hs : Hands) : List (List Nat) := srt (cT cN) ((leastN hs).map (restN hs.length))
def countCN (hs : Hands) : List Nat := (List.range (hs.length + 1)).map fun m => ((coversN hs).filter fun S => decide (S.length = m)).length
theorem mem_covers {hs : Hands} {S : List Nat} : S ∈ coversN hs ↔ Ppl hs.length S ∧ coverN hs S := by
  unfold coversN
  rw [(srt_perm (cT cN) _).mem_iff, List.mem_filter, mem_choices, decide_eq_true_iff]
theorem covers_len {hs : Hands} (H : Ok hs) : (coversN hs).length ≤ 128 := by
  unfold coversN
  rw [(srt_perm (cT cN) _).length_eq]
  exact Nat.le_trans (List.length_filter_le _ _) (choices_line H.le)
theorem covers_ne (hs : Hands) : coversN hs ≠ [] := List.ne_nil_of_mem (mem_covers.mpr ⟨Ppl.all hs.length, fun e he => by
  obtain ⟨h1, h2, _⟩ := mem_pairs.mp (show (e.1, e.2) ∈ pairsN hs from he)
  exact .inr (List.mem_range.mpr h2)⟩)
theorem few_mem (hs : Hands) : ∃ S ∈ coversN hs, S.length = fewN hs := by
  have h : fewN hs ∈ (coversN hs).map List.length := mnL_mem cN fun e => covers_ne hs (List.map_eq_nil_iff.mp e)
  exact List.mem_map.mp h
theorem few_le {hs : Hands} {S : List Nat} (h : S ∈ coversN hs) : fewN hs ≤ S.length := by
  have := mnL_le cN (List.mem_map.mpr ⟨S, h, rfl⟩ : S.length ∈ (coversN hs).map List.length)
  rw [ltc_N, decide_eq_false_iff_not] at this
  exact Nat.le_of_not_lt this
theorem least_ne (hs : Hands) : leastN hs ≠ [] := by
  obtain ⟨S, h1, h2⟩ := few_mem hs
  exact List.ne_nil_of_mem (List.mem_filter.mpr ⟨h1, decide_eq_true h2⟩)
theorem cover_mono {hs : Hands} {S T : List Nat} (h : coverN hs S) (hs' : ∀ x ∈ S, x ∈ T) : coverN hs T := fun e he => (h e he).imp (hs' _) (hs' _)
theorem count_L {α : Type} (c : Co α) [DecidableEq α] [D : Dp c 20] (l : List α) (x : α) : mthop .count ((cL c).e l) [c.e x] = .ok (cN.e (l.count x)) := by
  have h2 : Nat.min (PyData.depthAll (l.map c.e)) (c.e x).depth ≤ 48 := Nat.le_trans (Nat.min_le_left _ _) (Nat.le_trans (depthAll_map c (n := 20) l) (by decide))
  rw [cL_e, mthop, c.pl, plainAll_map, decide_eq_true h2]
  show R.ok (PyData.int (((l.map c.e).countP fun y => PyData.eqv y (c.e x) : Nat) : Int)) = R.ok (PyData.int ((l.count x : Nat) : Int))
  rw [List.countP_map]
  have e : (l.countP ((fun y => PyData.eqv y (c.e x)) ∘ c.e)) = l.count x := by
    rw [List.count]
    congr 1
    funext y
    show PyData.eqv (c.e y) (c.e x) = (y == x)
    rw [eqv_dec c]
    exact Bool.eq_iff_iff.mpr (by simp)
  rw [e]
section
variable {k : Nat}
theorem w_cover_in (hk : 2 ≤ k) {hs : Hands} (H : Ok hs) (S : List Nat) : callD PM k 48 [cH.e hs, (cT cN).e S] = .ok (.bool (decide (coverN hs S)), []) := by
  obtain ⟨j, rfl⟩ : ∃ j, k = j + 2 := ⟨k - 2, by omega⟩
  rw [call_s p_cover_in rfl]
  have h1 : (pairsN hs).length ≤ line := line_of (by have := pairs_len hs H.le; omega)
  simp [d_cover_in, w_pairs_in _ H]
  rw [loopW_congr (g := fun x => R.ok [PyData.bool (decide (x.1 ∈ S ∨ x.2 ∈ S))]) rfl fun x hx => by
    by_cases a : x.1 ∈ S <;> simp [a]]
  rw [loopW_bool fun x : Nat × Nat => decide (x.1 ∈ S ∨ x.2 ∈ S)]
  have hl : ((pairsN hs).map fun x => decide (x.1 ∈ S ∨ x.2 ∈ S)).length ≤ line := by rw [List.length_map]; exact h1
  simp only [lstR_g, gd_ok hl, R.ok_bind, all_L]
  have e : ((pairsN hs).map fun x => decide (x.1 ∈ S ∨ x.2 ∈ S)).all id = decide (coverN hs S) := by
    rw [Bool.eq_iff_iff, decide_eq_true_iff, List.all_eq_true]
    constructor
    · intro h x hx
      exact of_decide_eq_true (h _ (List.mem_map.mpr ⟨x, hx, rfl⟩))
    · intro h b hb
      obtain ⟨x, hx, rfl⟩ := List.mem_map.mp hb
      exact decide_eq_true (h x hx)
  rw [e]
theorem w_is_cover (hk : 5 ≤ k) {hs : Hands} (H : Ok hs) {S : List Nat} (hp : Ppl hs.length S) : callD PM k 49 [cH.e hs, (cT cN).e S] = .ok (.bool (decide (coverN hs S)), []) := by
  obtain ⟨j, rfl⟩ : ∃ j, k = j + 5 := ⟨k - 5, by omega⟩
  rw [call_s p_is_cover rfl]
  simp [d_is_cover, w_need_hands _ H, w_need_people _ H hp, w_cover_in _ H]
theorem w_covers_in (hk : 4 ≤ k) {hs : Hands} (H : Ok hs) : callD PM k 51 [cH.e hs] = .ok ((cL (cT cN)).e (coversN hs), []) := by
  obtain ⟨j, rfl⟩ : ∃ j, k = j + 4 := ⟨k - 4, by omega⟩
  rw [call_s p_covers_in rfl]
  have h1 : (choicesN hs.length).length ≤ line := line_of (by have := choices_line H.le; omega)
  simp [d_covers_in, w_choices _ H.le, w_cover_in _ H, h1, coversN]
theorem w_covers (hk : 5 ≤ k) {hs : Hands} (H : Ok hs) : callD PM k 52 [cH.e hs] = .ok ((cL (cT cN)).e (coversN hs), []) := by
  obtain ⟨j, rfl⟩ : ∃ j, k = j + 5 := ⟨k - 5, by omega⟩
  rw [call_s p_covers rfl]
  simp [d_covers, w_need_hands _ H, w_covers_in _ H]
theorem w_least_in (hk : 5 ≤ k) {hs : Hands} (H : Ok hs) : callD PM k 53 [cH.e hs] = .ok ((cL (cT cN)).e (leastN hs), []) := by
  obtain ⟨j, rfl⟩ : ∃ j, k = j + 5 := ⟨k - 5, by omega⟩
  rw [call_s p_least_in rfl]
  have h1 : (coversN hs).length ≤ line := line_of (by have := covers_len H; omega)
  simp [d_least_in, w_covers_in _ H, h1]
  rw [min_Lc cN (fun _ => rfl) (fun e => covers_ne hs (List.map_eq_nil_iff.mp e)), show mnL cN ((coversN hs).map List.length) = fewN hs from rfl]
  simp [ln_filter h1]
  rfl
theorem w_least_covers (hk : 6 ≤ k) {hs : Hands} (H : Ok hs) : callD PM k 54 [cH.e hs] = .ok ((cL (cT cN)).e (leastN hs), []) := by
  obtain ⟨j, rfl⟩ : ∃ j, k = j + 6 := ⟨k - 6, by omega⟩
  rw [call_s p_least_covers rfl]
  simp [d_least_covers, w_need_hands _ H, w_least_in _ H]
theorem least_pos (hs : Hands) : 0 < (leastN hs).length := List.length_pos_iff.mpr (least_ne hs)
theorem least_at {hs : Hands} {i : Nat} (h : i < (leastN hs).length) : ((leastN hs)[i]).length = fewN hs := of_decide_eq_true (List.mem_filter.mp (List.getElem_mem h)).2
theorem w_calls_to_end (hk : 6 ≤ k) {hs : Hands} (H : Ok hs) : callD PM k 55 [cH.e hs] = .ok (cN.e (fewN hs), []) := by
  obtain ⟨j, rfl⟩ : ∃ j, k = j + 6 := ⟨k - 6, by omega⟩
  rw [call_s p_calls_to_end rfl]
  have h := least_pos hs
  simp [d_calls_to_end, w_need_hands _ H, w_least_in _ H, h, least_at]
theorem w_must_call (hk : 6 ≤ k) {hs : Hands} (H : Ok hs) : callD PM k 57 [cH.e hs] = .ok ((cT cN).e (mustN hs), []) := by
  obtain ⟨j, rfl⟩ : ∃ j, k = j + 6 := ⟨k - 6, by omega⟩
  rw [call_s p_must_call rfl]
  have h1 : (leastN hs).length ≤ line := ln_filter (line_of (by have := covers_len H; omega))
  simp [d_must_call, w_need_hands _ H, w_least_in _ H, H.le9]
  refine forF_filter cN (fun acc => [some (cH.e hs), some ((cL (cT cN)).e (leastN hs)), some ((cL cN).e acc), none, none]) id (fun p => decide (∀ S ∈ leastN hs, p ∈ S)) rfl (by rw [List.length_range]; exact H.line) (fun p hp acc ha => ?_) ?_
  · have ea : ((leastN hs).map fun S => decide (p ∈ S)).all id = decide (∀ S ∈ leastN hs, p ∈ S) := by
      rw [Bool.eq_iff_iff, decide_eq_true_iff, List.all_eq_true]
      simp
    simp [h1, ha]
    by_cases h : ∀ S, S ∈ leastN hs → p ∈ S
    · rw [if_pos h, if_pos h]
    · rw [if_neg h, if_neg h]
  · simp [mustN]
theorem w_tight_covers (hk : 6 ≤ k) {hs : Hands} (H : Ok hs) : callD PM k 56 [cH.e hs] = .ok ((cL (cT cN)).e (tightN hs), []) := by
  obtain ⟨j, rfl⟩ : ∃ j, k = j + 6 := ⟨k - 6, by omega⟩
  rw [call_s p_tight_covers rfl]
  have h1 : (coversN hs).length ≤ line := line_of (by have := covers_len H; omega)
  simp [d_tight_covers, w_need_hands _ H, w_covers_in _ H]
  refine forF_filter (cT cN) (fun acc => [some (cH.e hs), some ((cL (cT cN)).e (coversN hs)), some ((cL (cT cN)).e acc), none, none, none, none, none]) id (fun S => decide (∀ p ∈ S, S.filter (fun q => decide (q ≠ p)) ∉ coversN hs)) rfl h1 (fun S hS acc ha => ?_) ?_
  · have hl : S.length ≤ line := (mem_covers.mp hS).1.line H.le
    simp [hl, ha]
    by_cases h : ∀ x, x ∈ S → ¬ S.filter (fun y => !decide (y = x)) ∈ coversN hs
    · rw [if_pos h, if_pos h]
    · rw [if_neg h, if_neg h]
  · simp [tightN]
theorem w_need_weights (hk : 3 ≤ k) {hs : Hands} (H : Ok hs) {ws : List Nat} (hw : ws.length = hs.length) (h99 : ∀ w ∈ ws, w ≤ 99) : callD PM k 58 [cH.e hs, (cT cN).e ws] = .ok (.none, []) := by
  obtain ⟨j, rfl⟩ : ∃ j, k = j + 3 := ⟨k - 3, by omega⟩
  rw [call_s p_need_weights rfl]
  simp [d_need_weights, w_is_list, hw]
  rw [enumN_eq (0 : Nat), forF_keep]
  · simp
  · intro x hx
    obtain ⟨i, hi, rfl⟩ := List.mem_map.mp hx
    have hi := List.mem_range.mp hi
    have hd : ws[i] ≤ 99 := h99 _ (List.getElem_mem hi)
    simp [w_is_in, hi, hd]
theorem w_cheapest_cover (hk : 5 ≤ k) {hs : Hands} (H : Ok hs) {ws : List Nat} (hw : ws.length = hs.length) (h99 : ∀ w ∈ ws, w ≤ 99) : callD PM k 59 [cH.e hs, (cT cN).e ws] = .ok ((cP cN (cT cN)).e (cheapN hs ws), []) := by
  obtain ⟨j, rfl⟩ : ∃ j, k = j + 5 := ⟨k - 5, by omega⟩
  rw [call_s p_cheapest_cover rfl]
  have h1 : (coversN hs).length ≤ line := line_of (by have := covers_len H; omega)
  simp [d_cheapest_cover, w_need_hands _ H, w_need_weights _ H hw h99, w_covers_in _ H]
  rw [loopW_congr rfl fun S hS => gd_fin2 (fun x hx => by rw [hw]; exact (mem_covers.mp hS).1.lt x hx) (gd_fin2 ((mem_covers.mp hS).1.line H.le) rfl)]
  rw [loopW_one (cP cN (cT cN)) fun S => ((S.map fun x => ws[x]?.getD 0).sum, S)]
  have hl : ((coversN hs).map fun S : List Nat => ((S.map fun x => ws[x]?.getD 0).sum, S)).length ≤ line := by rw [List.length_map]; exact h1
  simp only [lstR_g, gd_ok hl, R.ok_bind]
  rw [min_Lc (cP cN (cT cN)) (fun _ => rfl) (fun e => covers_ne hs (List.map_eq_nil_iff.mp e))]
  rfl
theorem w_way_to_end (hk : 6 ≤ k) {hs : Hands} (H : Ok hs) : callD PM k 60 [cH.e hs] = .ok ((cT cN).e ((leastN hs)[0]'(least_pos hs)), []) := by
  obtain ⟨j, rfl⟩ : ∃ j, k = j + 6 := ⟨k - 6, by omega⟩
  rw [call_s p_way_to_end rfl]
  have h := least_pos hs
  simp [d_way_to_end, w_need_hands _ H, w_least_in _ H, h]
theorem w_count_covers (hk : 5 ≤ k) {hs : Hands} (H : Ok hs) : callD PM k 63 [cH.e hs] = .ok ((cT cN).e (countCN hs), []) := by
  obtain ⟨j, rfl⟩ : ∃ j, k = j + 5 := ⟨k - 5, by omega⟩
  rw [call_s p_count_covers rfl]
  have h1 : (coversN hs).length ≤ line := line_of (by have := covers_len H; omega)
  have h2 : hs.length + 1 ≤ big9 := le_big9 (by have := H.le; omega)
  simp [d_count_covers, w_need_hands _ H, w_covers_in _ H, h1, h2, count_L]
  refine gd_fin2 (line_of (by have := H.le; omega)) ?_
  have e : (List.range (hs.length + 1)).map (fun x => ((coversN hs).map List.length).count x) = countCN hs := List.map_congr_left fun x _ => by
    rw [List.count, List.countP_map, List.countP_eq_length_filter]
    congr 1
  rw [e]
theorem w_apart (hk : 6 ≤ k) {hs : Hands} (H : Ok hs) : callD PM k 64 [cH.e hs] = .ok ((cL (cT cN)).e (apartN hs), []) := by
  obtain ⟨j, rfl⟩ : ∃ j, k = j + 6 := ⟨k - 6, by omega⟩
  rw [call_s p_apart rfl]
  have h1 : (leastN hs).length ≤ line := ln_filter (line_of (by have := covers_len H; omega))
  simp [d_apart, w_need_hands _ H, w_least_in _ H, H.le9]
  refine gd_fin2 (fun x _ => ln_filter (by rw [List.length_range]; exact H.line)) (gd_fin2 h1 ?_)
  have e : (leastN hs).map (fun x => (List.range hs.length).filter fun y => !decide (y ∈ x)) = (leastN hs).map (restN hs.length) := List.map_congr_left fun x _ => List.filter_congr fun y _ => by simp
  rw [e]
  rfl
/-! ### pairs side by side -/
def sideStep (f : List (List Nat)) (e : Nat × Nat) : List (List Nat) := f ++ (f.filter fun u => decide (e.1 ∉ u ∧ e.2 ∉ u)).map fun u => u ++ [e.1, e.2]
def sidesN (es : List (Nat × Nat)) : List (List Nat) := es.foldl sideStep [[]]
theorem sides_snoc (es : List (Nat × Nat)) (e : Nat × Nat) : sidesN (es ++ [e]) = sideStep (sidesN es) e := by simp [sidesN]
theorem mem_step {f : List (List Nat)} {e : Nat × Nat} {v : List Nat} : v ∈ sideStep f e ↔ v ∈ f ∨ ∃ u ∈ f, e.1 ∉ u ∧ e.2 ∉ u ∧ v = u ++ [e.1, e.2] := by
  unfold sideStep
  rw [List.mem_append, List.mem_map]
  constructor
  · rintro (h | ⟨u, h, rfl⟩)
    · exact .inl h
    · obtain ⟨h1, h2⟩ := List.mem_filter.mp h
      exact .inr ⟨u, h1, (of_decide_eq_true h2).1, (of_decide_eq_true h2).2, rfl⟩
  · rintro (h | ⟨u, h1, h2, h3, rfl⟩)
    · exact .inl h
    · exact .inr ⟨u, List.mem_filter.mpr ⟨h1, decide_eq_true ⟨h2, h3⟩⟩, rfl⟩
theorem snoc_ind {α : Type} {p : List α → Prop} (h0 : p []) (h : ∀ l x, p l → p (l ++ [x])) (l : List α) : p l := by
  have : ∀ m : List α, p m.reverse := fun m => by
    induction m with
    | nil => exact h0
    | cons x m ih => rw [List.reverse_cons]; exact h _ _ ih
  have e := this l.reverse
  rwa [List.reverse_reverse] at e
theorem nil_sides (es : List (Nat × Nat)) : [] ∈ sidesN es := snoc_ind (p := fun es => [] ∈ sidesN es) (by simp [sidesN]) (fun l x ih => by rw [sides_snoc]; exact mem_step.mpr (.inl ih)) es
theorem sides_len (es : List (Nat × Nat)) : (sidesN es).length ≤ 2 ^ es.length := snoc_ind (p := fun es => (sidesN es).length ≤ 2 ^ es.length) (by simp [sidesN]) (fun l x ih => by
  have h : ((sidesN l).filter fun u => decide (x.1 ∉ u ∧ x.2 ∉ u)).length ≤ (sidesN l).length := List.length_filter_le _ _
  rw [sides_snoc, sideStep, List.length_append, List.length_map, List.length_append, List.length_singleton, Nat.pow_succ]
  omega) es
/-- pairs of unlike people below n -/
def PrOk (n : Nat) (es : List (Nat × Nat)) : Prop := ∀ e ∈ es, e.1 ≠ e.2 ∧ e.1 < n ∧ e.2 < n
theorem pairs_ok (hs : Hands) : PrOk hs.length (pairsN hs) := fun e he => by
  obtain ⟨h1, h2, _⟩ := mem_pairs.mp (show (e.1, e.2) ∈ pairsN hs from he)
  exact ⟨by omega, by omega, h2⟩
theorem PrOk.init {n : Nat} {l : List (Nat × Nat)} {x : Nat × Nat} (h : PrOk n (l ++ [x])) : PrOk n l := fun e he => h e (List.mem_append_left _ he)
theorem sides_ok {n : Nat} : ∀ es : List (Nat × Nat), PrOk n es → ∀ u ∈ sidesN es, u.Nodup ∧ (∀ x ∈ u, x < n) ∧ u.length % 2 = 0 := snoc_ind (by
  intro _ u hu
  rw [List.mem_singleton.mp (show u ∈ [[]] from hu)]
  simp) fun l x ih h u hu => by
  rw [sides_snoc] at hu
  obtain ⟨h1, h2, h3⟩ := h x (by simp)
  rcases mem_step.mp hu with hu | ⟨v, hv, g1, g2, rfl⟩
  · exact ih h.init u hu
  · obtain ⟨i1, i2, i3⟩ := ih h.init v hv
    refine ⟨List.nodup_append.mpr ⟨i1, by simp [h1], ?_⟩, ?_, ?_⟩
    · rintro y hy z hz rfl
      rcases List.mem_cons.mp hz with rfl | hz
      · exact g1 hy
      · exact g2 (List.mem_singleton.mp hz ▸ hy)
    · intro y hy
      rcases List.mem_append.mp hy with hy | hy
      · exact i2 y hy
      · rcases List.mem_cons.mp hy with rfl | hy
        · exact h2
        · rw [List.mem_singleton.mp hy]; exact h3
    · rw [List.length_append]
      simp
      omega
/-- another pair can be put in -/
theorem sides_more {a b : Nat} : ∀ es : List (Nat × Nat), ∀ u ∈ sidesN es, (a, b) ∈ es → a ∉ u → b ∉ u → ∃ v ∈ sidesN es, v.length = u.length + 2 ∧ ∀ x, x ∈ v ↔ x ∈ u ∨ x = a ∨ x = b := snoc_ind (fun u _ h => by cases h) fun l x ih u hu hab ha hb => by
  rw [sides_snoc] at hu ⊢
  rcases mem_step.mp hu with hu1 | ⟨w, hw, g1, g2, rfl⟩
  · rcases List.mem_append.mp hab with h | h
    · obtain ⟨v, v1, v2, v3⟩ := ih u hu1 h ha hb
      exact ⟨v, mem_step.mpr (.inl v1), v2, v3⟩
    · have e := List.mem_singleton.mp h
      subst e
      refine ⟨u ++ [a, b], mem_step.mpr (.inr ⟨u, hu1, ha, hb, rfl⟩), by simp, fun y => by simp⟩
  · rw [List.mem_append, not_or] at ha hb
    have ha2 : a ≠ x.1 ∧ a ≠ x.2 := by simpa using ha.2
    have hb2 : b ≠ x.1 ∧ b ≠ x.2 := by simpa using hb.2
    rcases List.mem_append.mp hab with h | h
    · obtain ⟨v, v1, v2, v3⟩ := ih w hw h ha.1 hb.1
      refine ⟨v ++ [x.1, x.2], mem_step.mpr (.inr ⟨v, v1, ?_, ?_, rfl⟩), by simp [v2], fun y => ?_⟩
      · rw [v3]
        rintro (h | h | h)
        · exact g1 h
        · exact ha2.1 h.symm
        · exact hb2.1 h.symm
      · rw [v3]
        rintro (h | h | h)
        · exact g2 h
        · exact ha2.2 h.symm
        · exact hb2.2 h.symm
      · rw [List.mem_append, List.mem_append, v3]
        constructor
        · rintro ((h | h) | h)
          · exact .inl (.inl h)
          · exact .inr h
          · exact .inl (.inr h)
        · rintro ((h | h) | h)
          · exact .inl (.inl h)
          · exact .inr h
          · exact .inl (.inr h)
    · have e := List.mem_singleton.mp h
      exact absurd (congrArg Prod.fst e) ha2.1
/-- each pair has one of a cover -/
theorem sides_cover {S : List Nat} (hS : S.Nodup) : ∀ es : List (Nat × Nat), (∀ e ∈ es, e.1 ∈ S ∨ e.2 ∈ S) → ∀ u ∈ sidesN es, u.length ≤ 2 * (S.filter fun x => decide (x ∈ u)).length := snoc_ind (fun _ u hu => by
  rw [List.mem_singleton.mp (show u ∈ [[]] from hu)]
  exact Nat.zero_le _) fun l x ih h u hu => by
  rw [sides_snoc] at hu
  rcases mem_step.mp hu with hu | ⟨v, hv, g1, g2, rfl⟩
  · exact ih (fun e he => h e (List.mem_append_left _ he)) u hu
  · have i := ih (fun e he => h e (List.mem_append_left _ he)) v hv
    have key : ∃ y, y ∈ S ∧ y ∉ v ∧ y ∈ v ++ [x.1, x.2] := by
      rcases h x (by simp) with g | g
      · exact ⟨x.1, g, g1, by simp⟩
      · exact ⟨x.2, g, g2, by simp⟩
    obtain ⟨y, y1, y2, y3⟩ := key
    have hsub : ((S.filter fun z => decide (z ∈ v)) ++ [y]).length ≤ (S.filter fun z => decide (z ∈ v ++ [x.1, x.2])).length := by
      refine nd_sub (List.nodup_append.mpr ⟨hS.filter _, by simp, ?_⟩) fun z hz => ?_
      · rintro z hz w hw rfl
        have := of_decide_eq_true (List.mem_filter.mp hz).2
        exact y2 (List.mem_singleton.mp hw ▸ this)
      · rcases List.mem_append.mp hz with hz | hz
        · obtain ⟨a, b⟩ := List.mem_filter.mp hz
          exact List.mem_filter.mpr ⟨a, decide_eq_true (List.mem_append_left _ (of_decide_eq_true b))⟩
        · rw [List.mem_singleton.mp hz]
          exact List.mem_filter.mpr ⟨y1, decide_eq_true y3⟩
    rw [List.length_append] at hsub ⊢
    simp only [List.length_cons, List.length_nil] at hsub ⊢
    omega
/-- the greatest number of pairs side by side -/
def bestN (hs : Hands) : Nat := mxL cN ((sidesN (pairsN hs)).map List.length)
theorem best_spec (hs : Hands) : (∃ u ∈ sidesN (pairsN hs), u.length = bestN hs) ∧ ∀ u ∈ sidesN (pairsN hs), u.length ≤ bestN hs := by
  have hne : (sidesN (pairsN hs)).map List.length ≠ [] := fun e => by
    have := nil_sides (pairsN hs)
    rw [List.map_eq_nil_iff.mp e] at this
    cases this
  refine ⟨List.mem_map.mp (mxL_mem cN hne), fun u hu => ?_⟩
  have := mxL_le cN (List.mem_map.mpr ⟨u, hu, rfl⟩ : u.length ∈ (sidesN (pairsN hs)).map List.length)
  rw [ltc_N, decide_eq_false_iff_not] at this
  exact Nat.le_of_not_lt this
theorem best_even (hs : Hands) : bestN hs % 2 = 0 := by
  obtain ⟨⟨u, hu, e⟩, _⟩ := best_spec hs
  rw [← e]
  exact (sides_ok _ (pairs_ok hs) u hu).2.2
theorem best_few (hs : Hands) : bestN hs / 2 ≤ fewN hs := by
  obtain ⟨⟨u, hu, e⟩, _⟩ := best_spec hs
  obtain ⟨S, hS, eS⟩ := few_mem hs
  obtain ⟨p1, p2⟩ := mem_covers.mp hS
  have h1 := sides_cover (p1.asc.imp fun h => Nat.ne_of_lt h) (pairsN hs) p2 u hu
  have h2 : (S.filter fun x => decide (x ∈ u)).length ≤ S.length := List.length_filter_le _ _
  omega
theorem few_best (hs : Hands) : fewN hs ≤ bestN hs := by
  obtain ⟨⟨u, hu, e⟩, hmax⟩ := best_spec hs
  obtain ⟨u1, u2, _⟩ := sides_ok _ (pairs_ok hs) u hu
  have hp := srt_perm cN u
  have hT : srt cN u ∈ coversN hs := mem_covers.mpr ⟨⟨srt_asc u1, fun q hq => u2 q (hp.mem_iff.mp hq)⟩, fun e he => by
    refine Classical.byContradiction fun g => ?_
    rw [not_or, hp.mem_iff, hp.mem_iff] at g
    obtain ⟨v, v1, v2, _⟩ := sides_more (pairsN hs) u hu (show (e.1, e.2) ∈ pairsN hs from he) g.1 g.2
    have := hmax v v1
    omega⟩
  have := few_le hT
  rw [hp.length_eq] at this
  omega
theorem max2_N' (m n : Nat) : bltop .max2 [cN.e m, cN.e n] = .ok (cN.e (max m n)) := max2_N m n
/-- one turn of the inner loop -/
def inStep (e : Nat × Nat) (s : Nat × List (List Nat × Nat)) (x : List Nat × Nat) : Nat × List (List Nat × Nat) := if e.1 ∉ x.1 ∧ e.2 ∉ x.1 then (max s.1 (x.2 + 1), s.2 ++ [(x.1 ++ [e.1, e.2], x.2 + 1)]) else s
def halfL (f : List (List Nat)) : List (List Nat × Nat) := f.map fun u => (u, u.length / 2)
theorem in_fold (e : Nat × Nat) : ∀ (f : List (List Nat)) (s : Nat × List (List Nat × Nat)), (f.map fun u => (u, u.length / 2)).foldl (inStep e) s =
    (((f.filter fun u => decide (e.1 ∉ u ∧ e.2 ∉ u)).map fun u => (u ++ [e.1, e.2]).length / 2).foldl max s.1, s.2 ++ halfL ((f.filter fun u => decide (e.1 ∉ u ∧ e.2 ∉ u)).map fun u => u ++ [e.1, e.2]))
  | [], s => by simp [halfL]
  | u :: f, s => by
    rw [List.map_cons, List.foldl_cons, in_fold e f]
    have hl : (u ++ [e.1, e.2]).length / 2 = u.length / 2 + 1 := by simp
    unfold inStep
    by_cases h : e.1 ∉ u ∧ e.2 ∉ u
    · rw [if_pos h, List.filter_cons, if_pos (decide_eq_true h), List.map_cons, List.foldl_cons, hl]
      simp [halfL, hl]
    · rw [if_neg h, List.filter_cons, if_neg (fun z => h (of_decide_eq_true z))]
def bstN (es : List (Nat × Nat)) : Nat := ((sidesN es).map fun u => u.length / 2).foldl max 0
theorem foldl_max_app (l m : List Nat) (b : Nat) : (l ++ m).foldl max b = m.foldl max (l.foldl max b) := List.foldl_append ..
theorem foldl_max_spec : ∀ (l : List Nat) (b : Nat), (l.foldl max b = b ∨ l.foldl max b ∈ l) ∧ b ≤ l.foldl max b ∧ ∀ x ∈ l, x ≤ l.foldl max b
  | [], b => ⟨.inl rfl, Nat.le_refl _, fun x hx => by cases hx⟩
  | y :: l, b => by
    obtain ⟨h1, h2, h3⟩ := foldl_max_spec l (max b y)
    rw [List.foldl_cons]
    refine ⟨?_, by omega, fun x hx => ?_⟩
    · rcases h1 with h1 | h1
      · rw [h1]
        rcases Nat.le_total b y with g | g
        · rw [Nat.max_eq_right g]; exact .inr List.mem_cons_self
        · rw [Nat.max_eq_left g]; exact .inl rfl
      · exact .inr (List.mem_cons_of_mem _ h1)
    · rcases List.mem_cons.mp hx with rfl | hx
      · omega
      · exact h3 x hx
theorem bst_best (hs : Hands) : bstN (pairsN hs) = bestN hs / 2 := by
  obtain ⟨⟨u, hu, e⟩, hmax⟩ := best_spec hs
  have hev := best_even hs
  obtain ⟨h1, h2, h3⟩ := foldl_max_spec ((sidesN (pairsN hs)).map fun u => u.length / 2) 0
  have a := h3 _ (List.mem_map.mpr ⟨u, hu, rfl⟩)
  unfold bstN
  rw [e] at a
  refine Nat.le_antisymm ?_ a
  rcases h1 with h1 | h1
  · omega
  · obtain ⟨v, hv, ev⟩ := List.mem_map.mp h1
    have := hmax v hv
    omega
theorem flat_sum {α β : Type} (f : α → List β) (g : α → Nat) : ∀ l : List α, (∀ x ∈ l, (f x).length ≤ g x) → (l.flatMap f).length ≤ (l.map g).sum
  | [], _ => Nat.zero_le _
  | x :: l, h => by
    have h1 := h x List.mem_cons_self
    have h2 := flat_sum f g l fun y hy => h y (List.mem_cons_of_mem _ hy)
    rw [List.flatMap_cons, List.length_append, List.map_cons, List.sum_cons]
    omega
theorem pairs_21 {hs : Hands} (h : hs.length ≤ 7) : (pairsN hs).length ≤ 21 := by
  have h1 : (pairsN hs).length ≤ ((List.range hs.length).map fun a => hs.length - (a + 1)).sum := flat_sum _ _ _ fun a _ => pairF_len ..
  have h2 : ∀ n, n < 8 → ((List.range n).map fun a => n - (a + 1)).sum ≤ 21 := by decide
  exact Nat.le_trans h1 (h2 _ (by omega))
theorem mapE_two {α : Type} (c : Co α) (l : List α) (x y : α) : mapE c l ++ [c.e x, c.e y] = mapE c (l ++ [x, y]) := by
  unfold mapE
  rw [List.map_append]
  rfl
theorem tupR_0 (n : Nat) : tupR [PyData.tuple [], cN.e n] = .ok ((cP (cT cN) cN).e ([], n)) := nrfl rfl
theorem sides_21 {hs : Hands} (h : hs.length ≤ 7) (n : Nat) : (sidesN ((pairsN hs).take n)).length ≤ 2097152 := by
  have h1 := sides_len ((pairsN hs).take n)
  have h2 : ((pairsN hs).take n).length ≤ 21 := by rw [List.length_take]; have := pairs_21 h; omega
  have h3 : 2 ^ ((pairsN hs).take n).length ≤ 2 ^ 21 := Nat.pow_le_pow_right (by omega) h2
  exact Nat.le_trans h1 (Nat.le_trans h3 (by decide))
theorem w_most_pairs {k : Nat} (hk : 5 ≤ k) {hs : Hands} (H : Ok hs) : callD PM k 65 [cH.e hs] = .ok (cN.e (bestN hs / 2), []) := by
  obtain ⟨j, rfl⟩ : ∃ j, k = j + 5 := ⟨k - 5, by omega⟩
  rw [call_s p_most_pairs rfl]
  simp [d_most_pairs, w_need_hands _ H, w_pairs_in _ H, tupR_0]
  refine forF_idxB (cP cN cN) (fun n => [some (cH.e hs), some (cN.e (bstN ((pairsN hs).take n))), some ((cL (cP (cT cN) cN)).e (halfL (sidesN ((pairsN hs).take n)))), none, none, none, none, none]) rfl (fun n hn => ?_) ?_
  · have hs1 := sides_21 H.le n
    have hs2 := sides_21 H.le (n + 1)
    simp
    refine forF_bind (cP (cT cN) cN) (σ := Nat × List (List Nat × Nat)) (fun s => [some (cH.e hs), some (cN.e s.1), some ((cL (cP (cT cN) cN)).e (halfL (sidesN ((pairsN hs).take n)))), some (cN.e (pairsN hs)[n].1), some (cN.e (pairsN hs)[n].2), some ((cL (cP (cT cN) cN)).e s.2), none, none]) (inStep (pairsN hs)[n]) (fun m s => s.2.length ≤ m) (bstN ((pairsN hs).take n), []) rfl (Nat.zero_le _) (fun m s x hx hm hI => ⟨.inl ?_, ?_⟩) fun hI => ?_
    · obtain ⟨u, hu, rfl⟩ := List.mem_map.mp hx
      have b1 : s.2.length < line := Nat.lt_of_le_of_lt hI (Nat.lt_of_lt_of_le hm (by unfold halfL; rw [List.length_map]; exact line_of (by omega)))
      have hup := sides_ok _ (fun e he => pairs_ok hs e (List.mem_of_mem_take he)) u hu
      have b2 : u.length ≤ 7 := by
        have := nd_sub hup.1 (m := List.range hs.length) fun x hx => List.mem_range.mpr (hup.2.1 x hx)
        rw [List.length_range] at this
        exact Nat.le_trans this H.le
      have b3 : u.length ≤ line := line_of (by omega)
      have b4 : u.length + 2 ≤ line := line_of (by omega)
      by_cases a : (pairsN hs)[n].1 ∈ u
      · simp [a, inStep]
      · by_cases c : (pairsN hs)[n].2 ∈ u
        · simp [a, c, inStep]
        · simp [a, c, inStep, b1, b3, b4, max2_N, mapE_two]
    · unfold inStep
      split
      · rw [List.length_append]; simp; exact hI
      · omega
    · rw [show halfL (sidesN ((pairsN hs).take n)) = (sidesN ((pairsN hs).take n)).map fun u => (u, u.length / 2) from rfl, in_fold]
      simp
      have ef : (sidesN ((pairsN hs).take n)).filter (fun u => !decide ((pairsN hs)[n].1 ∈ u) && !decide ((pairsN hs)[n].2 ∈ u)) = (sidesN ((pairsN hs).take n)).filter fun u => decide ((pairsN hs)[n].1 ∉ u ∧ (pairsN hs)[n].2 ∉ u) := List.filter_congr fun u _ => by simp
      have em : ∀ X : List (List Nat), X.map (fun u => u.length / 2 + 1) = X.map (fun u => (u ++ [(pairsN hs)[n].1, (pairsN hs)[n].2]).length / 2) := fun X => List.map_congr_left fun u _ => by simp
      have et : sidesN ((pairsN hs).take (n + 1)) = sideStep (sidesN ((pairsN hs).take n)) (pairsN hs)[n] := by rw [take_snoc _ hn, sides_snoc]
      have hlen : (sidesN ((pairsN hs).take n)).length + ((halfL (((sidesN ((pairsN hs).take n)).filter fun u => decide ((pairsN hs)[n].1 ∉ u ∧ (pairsN hs)[n].2 ∉ u)).map fun u => u ++ [(pairsN hs)[n].1, (pairsN hs)[n].2]))).length ≤ line := by
        rw [et, sideStep, List.length_append] at hs2
        unfold halfL
        rw [List.length_map]
        exact line_of (by omega)
      rw [ef, em]
      refine gd_fin2 hlen ?_
      have e1 : bstN ((pairsN hs).take (n + 1)) = ((((sidesN ((pairsN hs).take n)).filter fun u => decide ((pairsN hs)[n].1 ∉ u ∧ (pairsN hs)[n].2 ∉ u)).map fun u => (u ++ [(pairsN hs)[n].1, (pairsN hs)[n].2]).length / 2)).foldl max (bstN ((pairsN hs).take n)) := by
        unfold bstN
        rw [et, sideStep, List.map_append, foldl_max_app, List.map_map]
        rfl
      have e2 : halfL (sidesN ((pairsN hs).take (n + 1))) = (sidesN ((pairsN hs).take n)).map (fun u => (u, u.length / 2)) ++ halfL (((sidesN ((pairsN hs).take n)).filter fun u => decide ((pairsN hs)[n].1 ∉ u ∧ (pairsN hs)[n].2 ∉ u)).map fun u => u ++ [(pairsN hs)[n].1, (pairsN hs)[n].2]) := by
        rw [et, sideStep]
        unfold halfL
        rw [List.map_append]
      rw [e1, e2]
  · simp
    rw [bst_best]
theorem cover_of {hs : Hands} {S : List Nat} (h : S ∈ coversN hs) : Ppl hs.length S := (mem_covers.mp h).1
/-- tight: no smaller cover within -/
theorem tight_iff {hs : Hands} {S : List Nat} (hS : S ∈ coversN hs) : (∀ p ∈ S, S.filter (fun q => decide (q ≠ p)) ∉ coversN hs) ↔ ∀ O ∈ coversN hs, ¬ (O.length < S.length ∧ ∀ x ∈ O, x ∈ S) := by
  obtain ⟨p1, p2⟩ := mem_covers.mp hS
  have hn : S.Nodup := p1.asc.imp fun h => Nat.ne_of_lt h
  constructor
  · rintro h O hO ⟨g1, g2⟩
    have : ∃ p, p ∈ S ∧ p ∉ O := Classical.byContradiction fun z => by
      have := nd_sub hn (m := O) fun x hx => Classical.byContradiction fun w => z ⟨x, hx, w⟩
      omega
    obtain ⟨p, hp, hpO⟩ := this
    refine h p hp (mem_covers.mpr ⟨⟨p1.asc.filter _, fun q hq => p1.lt q (List.mem_filter.mp hq).1⟩, cover_mono (mem_covers.mp hO).2 fun x hx => ?_⟩)
    exact List.mem_filter.mpr ⟨g2 x hx, decide_eq_true fun e => hpO (e ▸ hx)⟩
  · intro h p hp hc
    refine h _ hc ⟨?_, fun x hx => (List.mem_filter.mp hx).1⟩
    have hlt : (p :: S.filter fun q => decide (q ≠ p)).length ≤ S.length := by
      refine nd_sub (List.nodup_cons.mpr ⟨fun z => by simpa using (List.mem_filter.mp z).2, hn.filter _⟩) fun x hx => ?_
      rcases List.mem_cons.mp hx with rfl | hx
      · exact hp
      · exact (List.mem_filter.mp hx).1
    rw [List.length_cons] at hlt
    omega
end
theorem lstR_t0 : lstR [PyData.tuple []] = .ok ((cL (cT cN)).e [[]]) := nrfl rfl
theorem cat_TP (u : List Nat) (p : Nat × Nat) : binop .add ((cT cN).e u) ((cP cN cN).e p) = (gd (u.length + 2 ≤ line) >>= fun _ => .ok ((cT cN).e (u ++ [p.1, p.2]))) := cat_T cN u [p.1, p.2]
end Ev
end

section
set_option linter.all false
set_option autoImplicit false
set_option maxRecDepth 10000
/-! Mj: covers with weights; covers and ends. -/
namespace Ev
open T
open PySem (Str PyData)
theorem cheap_spec (hs : Hands) (ws : List Nat) : (cheapN hs ws).2 ∈ coversN hs ∧ (cheapN hs ws).1 = sumW ws (cheapN hs ws).2 ∧ (∀ S ∈ coversN hs, (cheapN hs ws).1 ≤ sumW ws S) ∧ ∀ S ∈ coversN hs, sumW ws S = (cheapN hs ws).1 → ltc (cT cN) S (cheapN hs ws).2 = false := by
  have hm := mnL_mem (cP cN (cT cN)) (l := (coversN hs).map fun S => (sumW ws S, S)) fun e => covers_ne hs (List.map_eq_nil_iff.mp e)
  obtain ⟨S, hS, e⟩ := List.mem_map.mp hm
  have e : (sumW ws S, S) = cheapN hs ws := e
  have hle : ∀ T ∈ coversN hs, ltc (cP cN (cT cN)) (sumW ws T, T) (cheapN hs ws) = false := fun T hT => mnL_le (cP cN (cT cN)) (List.mem_map.mpr ⟨T, hT, rfl⟩)
  rw [← e] at hle ⊢
  refine ⟨hS, rfl, fun T hT => ?_, fun T hT h => ?_⟩
  · have := hle T hT
    rw [ltc_P] at this
    by_cases g : sumW ws T = sumW ws S
    · exact Nat.le_of_eq g.symm
    · rw [if_neg g, ltc_N, decide_eq_false_iff_not] at this
      exact Nat.le_of_not_lt this
  · have := hle T hT
    rw [ltc_P, if_pos h] at this
    exact this
theorem cheap_eq {hs : Hands} {ws S : List Nat} (hS : S ∈ coversN hs) (h : ∀ T ∈ coversN hs, sumW ws S ≤ sumW ws T ∧ (sumW ws T = sumW ws S → ltc (cT cN) T S = false)) : cheapN hs ws = (sumW ws S, S) := by
  refine mnL_eq (cP cN (cT cN)) (List.mem_map.mpr ⟨S, hS, rfl⟩) fun y hy => ?_
  obtain ⟨T, hT, rfl⟩ := List.mem_map.mp hy
  obtain ⟨h1, h2⟩ := h T hT
  rw [ltc_P]
  by_cases g : sumW ws T = sumW ws S
  · rw [if_pos g]; exact h2 g
  · rw [if_neg g, ltc_N]; exact decide_eq_false (by dsimp only; omega)
theorem sum_without (f : Nat → Nat) (p : Nat) : ∀ S : List Nat, S.Nodup → (S.map f).sum = ((S.filter fun q => decide (q ≠ p)).map f).sum + if p ∈ S then f p else 0
  | [], _ => rfl
  | x :: S, h => by
    obtain ⟨h1, h2⟩ := List.nodup_cons.mp h
    have ih := sum_without f p S h2
    rw [List.map_cons, List.sum_cons, ih]
    by_cases e : x = p
    · subst e
      have e0 : decide (x ≠ x) = false := by simp
      rw [List.filter_cons, e0, if_neg h1, if_pos List.mem_cons_self, if_neg (by decide)]
      omega
    · rw [List.filter_cons, if_pos (decide_eq_true e), List.map_cons, List.sum_cons]
      have : (p ∈ x :: S) = (p ∈ S) := propext ⟨fun z => (List.mem_cons.mp z).resolve_left fun w => e w.symm, List.mem_cons_of_mem _⟩
      rw [show (if p ∈ x :: S then f p else 0) = if p ∈ S then f p else 0 by simp only [this]]
      omega
theorem sumW_without {S : List Nat} (hn : S.Nodup) (ws : List Nat) (p : Nat) : sumW ws S = sumW ws (S.filter fun q => decide (q ≠ p)) + if p ∈ S then ws[p]?.getD 0 else 0 := sum_without _ p S hn
theorem sumW_set {S : List Nat} (hn : S.Nodup) {ws : List Nat} {p : Nat} (hp : p < ws.length) (w : Nat) : sumW (ws.set p w) S = sumW ws (S.filter fun q => decide (q ≠ p)) + if p ∈ S then w else 0 := by
  rw [sumW_without hn (ws.set p w) p]
  congr 1
  · unfold sumW
    congr 1
    refine List.map_congr_left fun q hq => ?_
    have : q ≠ p := of_decide_eq_true (List.mem_filter.mp hq).2
    rw [List.getElem?_set_ne (fun e => this e.symm)]
  · rw [List.getElem?_set_self hp]; rfl
theorem Ppl.nodup {n : Nat} {S : List Nat} (h : Ppl n S) : S.Nodup := h.asc.imp fun h => Nat.ne_of_lt h
theorem mem_tight {hs : Hands} {S : List Nat} : S ∈ tightN hs ↔ S ∈ coversN hs ∧ ∀ p ∈ S, S.filter (fun q => decide (q ≠ p)) ∉ coversN hs := by
  unfold tightN
  rw [List.mem_filter, decide_eq_true_iff]
theorem cheap_tight {hs : Hands} {ws : List Nat} (h : ∀ p, p < hs.length → 0 < ws[p]?.getD 0) : (cheapN hs ws).2 ∈ tightN hs := by
  obtain ⟨h1, h2, h3, _⟩ := cheap_spec hs ws
  refine mem_tight.mpr ⟨h1, fun p hp hc => ?_⟩
  have g1 := h3 _ hc
  have g2 := sumW_without (cover_of h1).nodup ws p
  rw [if_pos hp] at g2
  have := h p ((cover_of h1).lt p hp)
  omega
/-- behind the calls of a cover nothing is held by two -/
theorem cover_one {hs : Hands} {S : List Nat} (h : coverN hs S) (t : Nat) : (holdN (afterN hs S) t).length ≤ 1 := by
  by_cases ht : holdN hs t = []
  · have h2 : holdN (afterN hs S) t = [] := by
      refine Classical.byContradiction fun g => ?_
      have := hold_ne.mp g
      rw [things_after] at this
      exact hold_ne.mpr this ht
    rw [h2]
    exact Nat.zero_le _
  · rw [hold_due ht]
    unfold dueN
    by_cases g : ((holdN hs t).filter fun q => decide (q ∉ S)) = []
    · rw [if_pos g]
      cases ((firstsN S).filter fun q => decide (q ∈ holdN hs t)).getLast? <;> simp
    · rw [if_neg g]
      have hasc := (hold_asc hs t).filter (fun q => decide (q ∉ S))
      match hL : (holdN hs t).filter fun q => decide (q ∉ S) with
      | [] => simp
      | [x] => simp
      | x :: y :: r =>
        rw [hL] at hasc
        have hxy : x < y := (List.pairwise_cons.mp hasc).1 y List.mem_cons_self
        have hmem : ∀ z, z ∈ x :: y :: r → z ∈ holdN hs t ∧ z ∉ S := fun z hz => by
          rw [← hL] at hz
          obtain ⟨a, b⟩ := List.mem_filter.mp hz
          exact ⟨a, of_decide_eq_true b⟩
        obtain ⟨hx1, hx2⟩ := hmem x (by simp)
        obtain ⟨hy1, hy2⟩ := hmem y (by simp)
        obtain ⟨_, x2⟩ := mem_hold.mp hx1
        obtain ⟨y1, y2⟩ := mem_hold.mp hy1
        exact absurd (h (x, y) (mem_pairs.mpr ⟨hxy, y1, share_iff.mpr ⟨t, x2, y2⟩⟩)) fun z => z.elim hx2 hy2
theorem pairs_one {hs : Hands} (h : ∀ t, (holdN hs t).length ≤ 1) : pairsN hs = [] := List.eq_nil_iff_forall_not_mem.mpr fun ⟨a, b⟩ hab => by
  obtain ⟨h1, h2, h3⟩ := mem_pairs.mp hab
  obtain ⟨t, t1, t2⟩ := share_iff.mp h3
  have ha : a ∈ holdN hs t := mem_hold.mpr ⟨by omega, t1⟩
  have hb : b ∈ holdN hs t := mem_hold.mpr ⟨h2, t2⟩
  have hl := h t
  match hL : holdN hs t, ha, hb, hl with
  | [x], ha, hb, _ =>
    rw [List.mem_singleton] at ha hb
    omega
theorem cover_end {hs : Hands} {S : List Nat} (h : coverN hs S) : pairsN (afterN hs S) = [] := pairs_one (cover_one h)
theorem rest_calm {hs : Hands} {S : List Nat} (h : coverN hs S) : calmN hs (restN hs.length S) := List.filter_eq_nil_iff.mpr fun e he => by
  rw [decide_eq_true_iff]
  rintro ⟨h1, h2⟩
  have h1 := of_decide_eq_true (List.mem_filter.mp h1).2
  have h2 := of_decide_eq_true (List.mem_filter.mp h2).2
  exact (h e he).elim h1 h2
theorem rest_ppl (n : Nat) (S : List Nat) : Ppl n (restN n S) := ⟨List.pairwise_lt_range.filter _, fun q hq => List.mem_range.mp (List.mem_filter.mp hq).1⟩
/-- who has nothing in common with anybody is in no tight cover -/
theorem lone_out {hs : Hands} {p : Nat} (hn : nearN hs p = []) {S : List Nat} (hS : S ∈ tightN hs) : p ∉ S := fun hp => by
  obtain ⟨h1, h2⟩ := mem_tight.mp hS
  obtain ⟨c1, c2⟩ := mem_covers.mp h1
  refine h2 p hp (mem_covers.mpr ⟨⟨c1.asc.filter _, fun q hq => c1.lt q (List.mem_filter.mp hq).1⟩, fun e he => ?_⟩)
  obtain ⟨p1, p2, p3⟩ := mem_pairs.mp (show (e.1, e.2) ∈ pairsN hs from he)
  have hno : ∀ q, q ∉ nearN hs p := fun q => by rw [hn]; simp
  have n1 : e.1 ≠ p := fun z => hno e.2 (mem_near.mpr ⟨p2, by omega, by rw [← z]; exact p3⟩)
  have n2 : e.2 ≠ p := fun z => hno e.1 (mem_near.mpr ⟨by omega, by omega, by rw [← z, share_comm]; exact p3⟩)
  rcases c2 e he with g | g
  · exact .inl (List.mem_filter.mpr ⟨g, decide_eq_true n1⟩)
  · exact .inr (List.mem_filter.mpr ⟨g, decide_eq_true n2⟩)
theorem least_first {hs : Hands} (S : List Nat) (hS : S ∈ leastN hs) : ltc (cT cN) S ((leastN hs)[0]'(least_pos hs)) = false := by
  have hs' : (leastN hs).Pairwise fun a b => ltc (cT cN) a b = true := by
    unfold leastN coversN
    exact (srt_lo (cT cN) ((choices_nodup _).filter _)).filter _
  have key : ∀ (l : List (List Nat)) (h : 0 < l.length), (l.Pairwise fun a b => ltc (cT cN) a b = true) → S ∈ l → ltc (cT cN) S l[0] = false := fun l h hp hS => by
    match l, h with
    | x :: r, _ =>
      show ltc (cT cN) S x = false
      rcases List.mem_cons.mp hS with rfl | hS
      · exact LO.irr _
      · have := (List.pairwise_cons.mp hp).1 S hS
        cases z : ltc (cT cN) S x with
        | false => rfl
        | true =>
          have := LO.tr (c := cT cN) _ _ _ this z
          rw [LO.irr] at this
          cases this
  exact key _ _ hs' hS
theorem sumW_ones {n : Nat} {S : List Nat} (h : Ppl n S) : sumW (List.replicate n 1) S = S.length := by
  unfold sumW
  have : S.map (fun p => (List.replicate n 1)[p]?.getD 0) = S.map fun _ => 1 := List.map_congr_left fun p hp => by
    rw [List.getElem?_replicate, if_pos (h.lt p hp)]
    rfl
  rw [this]
  clear this h
  induction S with
  | nil => rfl
  | cons x S ih => rw [List.map_cons, List.sum_cons, ih, List.length_cons]; omega
theorem cheap_ones (hs : Hands) : cheapN hs (List.replicate hs.length 1) = (fewN hs, (leastN hs)[0]'(least_pos hs)) := by
  have hm : (leastN hs)[0]'(least_pos hs) ∈ leastN hs := List.getElem_mem _
  obtain ⟨m1, m2⟩ := List.mem_filter.mp hm
  have m2 := of_decide_eq_true m2
  have e := sumW_ones (cover_of m1)
  rw [cheap_eq m1 fun T hT => ?_, e, m2]
  rw [e, sumW_ones (cover_of hT), m2]
  exact ⟨few_le hT, fun g => least_first T (List.mem_filter.mpr ⟨hT, decide_eq_true g⟩)⟩
theorem mul_T1 (x : Nat) {n : Nat} (h : n ≤ 1000) : binop .mul ((cT cN).e [x]) (cN.e n) = .ok ((cT cN).e (List.replicate n x)) := by
  show (if decide (-1000 ≤ (n : Int)) && decide ((n : Int) ≤ 1000) && decide ([cN.e x].length ≤ 1000) then tupR (List.flatten (List.replicate (n : Int).toNat [cN.e x])) else .bad) = _
  rw [decide_eq_true (show (-1000 : Int) ≤ n by omega), decide_eq_true (show (n : Int) ≤ 1000 by omega), decide_eq_true (show [cN.e x].length ≤ 1000 by simp)]
  have e : List.flatten (List.replicate (n : Int).toNat [cN.e x]) = mapE cN (List.replicate n x) := by
    rw [Int.toNat_natCast]
    unfold mapE
    rw [List.map_replicate]
    clear h
    induction n with
    | zero => rfl
    | succ n ih => rw [List.replicate_succ, List.flatten_cons, ih, List.replicate_succ]; rfl
  rw [e]
  exact tupR_m cN _ (by rw [List.length_replicate]; exact line_of (by omega))
theorem ss_forG (cal : Cal) (env : Env) {inv ws : List Nat} {tg : Tg} {it : It} {b r : Ss} : evSs cal (.cons (.for_ inv ws tg it b) r) env = (evIt cal it env >>= fun p => forF (fun x env => bindTg tg x env >>= fun e => evSs cal b e >>= fun f => .ok (wipeF ws f)) p.1 p.2 >>= flK (evSs cal r)) := by
  rw [ss_cons, evS]
  cases evIt cal it env with
  | ok p => rfl
  | exc _ _ => rfl
  | bad => rfl
end Ev
end

section
set_option linter.all false
set_option autoImplicit false
set_option maxRecDepth 10000
/-! Mk: links, clubs, splitters. -/
namespace Ev
open T
open PySem (Str PyData)
section
variable {k : Nat}
/-! ### hands in a list -/
theorem w_pairs_inL (hk : 1 ≤ k) {hs : Hands} (H : Ok hs) : callD PM k 128 [(cL (cT cN)).e hs] = .ok ((cL (cP cN cN)).e (pairsN hs), []) := by
  obtain ⟨j, rfl⟩ : ∃ j, k = j + 1 := ⟨k - 1, by omega⟩
  rw [call_s p_pairs_in rfl]
  have hl := H.le
  simp [d_pairs_in, H.le9]
  refine forF_rng (fun n => [some ((cL (cT cN)).e hs), some ((cL (cP cN cN)).e ((List.range n).flatMap fun a => pairF hs a (hs.length - (a + 1)))), none, none, none]) rfl (fun n hn => ?_) ?_
  · have h1 : n + 1 ≤ big9 := le_big9 (by omega)
    have hb : ((List.range n).flatMap fun a => pairF hs a (hs.length - (a + 1))).length ≤ 49 := by
      refine Nat.le_trans (flat_le _ 7 _ fun a _ => Nat.le_trans (pairF_len ..) (by omega)) ?_
      rw [List.length_range]
      omega
    simp [H.le9, h1]
    refine forF_rng' (fun m => [some ((cL (cT cN)).e hs), some ((cL (cP cN cN)).e (((List.range n).flatMap fun a => pairF hs a (hs.length - (a + 1))) ++ pairF hs n m)), some (cN.e n), none, none]) (by simp [pairF]) (fun m hm => ?_) ?_
    · have h2 : n + 1 + m < hs.length := by omega
      have h3 : hs[n].length ≤ line := H.ln hn
      have h4 := pairF_len hs n m
      have h5 : (((List.range n).flatMap fun a => pairF hs a (hs.length - (a + 1))) ++ pairF hs n m).length < line := by rw [List.length_append]; exact lt_line (by omega)
      have h6 := h5
      rw [List.length_append, List.length_flatMap] at h6
      rw [pairF_snoc]
      cases hc : shareN hs n (n + 1 + m) with
      | true =>
        have hc2 : (hs[n].any fun x => decide (x ∈ hs[n + 1 + m])) = true := by simpa only [shareN, List.getElem?_eq_getElem hn, List.getElem?_eq_getElem h2, Option.getD_some] using hc
        simp [hn, h2, h3, hc2, h6]
      | false =>
        have hc2 : (hs[n].any fun x => decide (x ∈ hs[n + 1 + m])) = false := by simpa only [shareN, List.getElem?_eq_getElem hn, List.getElem?_eq_getElem h2, Option.getD_some] using hc
        simp [hn, h2, h3, hc2]
    · simp [List.range_succ]
  · simp [pairsN]
theorem w_groups_inL (hk : 2 ≤ k) {hs : Hands} (H : Ok hs) : callD PM k 131 [(cL (cT cN)).e hs] = .ok ((cL (cT cN)).e (groupsN hs), []) := by
  obtain ⟨j, rfl⟩ : ∃ j, k = j + 2 := ⟨k - 2, by omega⟩
  rw [call_s p_groups_in rfl]
  have hl := pairs_len hs H.le
  have hle := H.le
  simp [d_groups_in, lrng1_N _ (show hs.length ≤ 10000000 by omega), w_pairs_inL _ H, H.le9]
  refine forF_bind (cP cN cN) (fun g => [some ((cL (cT cN)).e hs), some ((cL cN).e g), none, none, none, none, none, none, none]) relabN (fun _ g => g.length = hs.length) (List.range hs.length) rfl List.length_range (fun n g e he hn hg => ⟨.inl ?_, by rw [relab_len]; exact hg⟩) fun hI => ?_
  · obtain ⟨h1, h2, _⟩ := mem_pairs.mp (show (e.1, e.2) ∈ pairsN hs from he)
    obtain ⟨a, b⟩ := e
    have h1 : a < b := h1
    have h2 : b < hs.length := h2
    have g1 : a < g.length := by omega
    have g2 : b < g.length := by omega
    have g3 : g.length ≤ line := by rw [hg]; exact H.line
    have ef : (fun x => R.ok (if x = g[b] then [cN.e g[a]] else [cN.e x])) = fun x => R.ok [cN.e (if x = g[b] then g[a] else x)] := funext fun x => by split <;> rfl
    simp [g1, g2, g3]
    rw [ef]
    simp [g3]
    simp [relabN, lat, g1, g2]
  · have e0 : List.foldl relabN (List.range (List.length hs)) (pairsN hs) = labN hs := rfl
    rw [e0]
    have s1 : hs.length ≤ 1000 := by omega
    have s2 : (setN (labN hs)).length < 64 := Nat.lt_of_le_of_lt (setN_len _) (by rw [lab_len]; omega)
    have hlt : ∀ x ∈ setN (labN hs), x < hs.length := fun x hx => lab_lt x (mem_setN.mp hx)
    simp [s1, s2]
    refine forF_filter cN (fun acc => [some ((cL (cT cN)).e hs), some ((cL cN).e (labN hs)), some ((cL (cT cN)).e acc), none, none, none, none, none, none]) (clsN hs) (fun _ => true) rfl (show (setN (labN hs)).length ≤ line from line_of (by omega)) (fun x hx acc ha => ?_) ?_
    · simp [H.le9]
      exact gd_fin2 (ln_filter (by rw [List.length_range]; exact H.line)) (gd_fin2 ha rfl)
    · simp [groupsN, filt_all]
/-! ### links -/
theorem in_P (x : Nat) (p : Nat × Nat) : cmpop .in_ (cN.e x) ((cP cN cN).e p) = .ok (.bool (decide (x = p.1 ∨ x = p.2))) := by
  have := in_T cN x [p.1, p.2]
  have e : ((cP cN cN).e p) = (cT cN).e [p.1, p.2] := rfl
  rw [e, this]
  congr 2
  exact decide_eq_decide.mpr (by simp)
theorem near_eq2 (hs : Hands) {p : Nat} (hp : p < hs.length) : srt cN (((pairsN hs).filter fun e => decide (p = e.1 ∨ p = e.2)).map fun e => e.1 + e.2 - p) = nearN hs p := by
  rw [← near_eq hs hp]
  have e1 : (pairsN hs).filter (fun e => decide (p = e.1 ∨ p = e.2)) = (pairsN hs).filter fun e => decide (e.1 = p) || decide (e.2 = p) := List.filter_congr fun e _ => by
    rw [Bool.eq_iff_iff, decide_eq_true_iff, Bool.or_eq_true, decide_eq_true_iff, decide_eq_true_iff]
    exact ⟨Or.imp Eq.symm Eq.symm, Or.imp Eq.symm Eq.symm⟩
  rw [e1]
  congr 1
  refine List.map_congr_left fun e he => ?_
  obtain ⟨h1, h2⟩ := List.mem_filter.mp he
  by_cases g : e.1 = p
  · rw [if_pos g]; omega
  · rw [if_neg g]
    have : e.2 = p := by simpa [g] using h2
    omega
theorem near_len {hs : Hands} {p : Nat} (hp : p < hs.length) : ((pairsN hs).filter fun e => decide (p = e.1 ∨ p = e.2)).length = (nearN hs p).length := by
  rw [← near_eq2 hs hp, (srt_perm cN _).length_eq, List.length_map]
theorem near_le (hs : Hands) (p : Nat) : (nearN hs p).length ≤ hs.length := Nat.le_trans (List.length_filter_le _ _) (by rw [List.length_range]; exact Nat.le_refl _)
theorem w_linked_to (hk : 2 ≤ k) {hs : Hands} (H : Ok hs) {p : Nat} (hp : p < hs.length) : callD PM k 155 [cH.e hs, cN.e p] = .ok ((cL cN).e (nearN hs p), []) := by
  obtain ⟨j, rfl⟩ : ∃ j, k = j + 2 := ⟨k - 2, by omega⟩
  rw [call_s p_linked_to rfl]
  have hl := pairs_len hs H.le
  simp [d_linked_to, w_pairs_in _ H]
  refine forF_filter (cP cN cN) (fun acc => [some (cH.e hs), some (cN.e p), some ((cL cN).e acc), none, none]) (fun e => e.1 + e.2 - p) (fun e => decide (p = e.1 ∨ p = e.2)) rfl (line_of (by omega)) (fun e he acc ha => ?_) ?_
  · obtain ⟨a, b⟩ := e
    by_cases g : p = a ∨ p = b
    · have h1 : p ≤ a + b := by omega
      simp [in_P, g, ha, h1]
    · simp [in_P, g, ha]
  · simp
    rw [show (fun e : Nat × Nat => decide (p = e.1) || decide (p = e.2)) = fun e => decide (p = e.1 ∨ p = e.2) from funext fun e => (Bool.decide_or ..).symm, near_eq2 hs hp]
def linksN (hs : Hands) : List Nat := (List.range hs.length).map fun p => (nearN hs p).length
@[simp] theorem links_len (hs : Hands) : (linksN hs).length = hs.length := by simp [linksN]
theorem w_link_counts (hk : 5 ≤ k) {hs : Hands} (H : Ok hs) : callD PM k 156 [cH.e hs] = .ok ((cT cN).e (linksN hs), []) := by
  obtain ⟨j, rfl⟩ : ∃ j, k = j + 5 := ⟨k - 5, by omega⟩
  rw [call_s p_link_counts rfl]
  simp [d_link_counts, w_need_hands _ H, H.le9]
  rw [loopW_congr (g := fun p => R.ok [cN.e (nearN hs p).length]) rfl fun p hp => by
    rw [w_linked_to (by omega) H (List.mem_range.mp hp)]
    simp]
  rw [loopW_one cN fun p => (nearN hs p).length]
  simp [H.line, linksN]
/-- the first place of a number -/
def ixN (x : Nat) : List Nat → Nat
  | [] => 0
  | y :: l => if y = x then 0 else ixN x l + 1
theorem ixN_spec {x : Nat} : ∀ {l : List Nat}, x ∈ l → ixN x l < l.length ∧ l[ixN x l]? = some x ∧ ∀ j, j < ixN x l → l[j]? ≠ some x
  | [], h => by cases h
  | y :: l, h => by
    unfold ixN
    by_cases e : y = x
    · rw [if_pos e]
      exact ⟨by simp, by simp [e], fun j hj => absurd hj (Nat.not_lt_zero _)⟩
    · rw [if_neg e]
      obtain ⟨h1, h2, h3⟩ := ixN_spec ((List.mem_cons.mp h).resolve_left fun z => e z.symm)
      refine ⟨by rw [List.length_cons]; omega, by simpa using h2, fun j hj => ?_⟩
      cases j with
      | zero => simp [e]
      | succ j => simpa using h3 j (by omega)
theorem findIx_N (x : Nat) : ∀ l : List Nat, x ∈ l → findIx (l.map cN.e) (cN.e x) = some (ixN x l)
  | [], h => by cases h
  | y :: l, h => by
    rw [List.map_cons, findIx, eqv_N, ixN]
    by_cases e : y = x
    · rw [if_pos (decide_eq_true e), if_pos e]
    · rw [if_neg (fun z => e (of_decide_eq_true z)), if_neg e, findIx_N x l ((List.mem_cons.mp h).resolve_left fun z => e z.symm)]
      rfl
theorem index_L {l : List Nat} {x : Nat} (h : x ∈ l) : mthop .index ((cL cN).e l) [cN.e x] = .ok (cN.e (ixN x l)) := by
  have h2 : Nat.min (PyData.depthAll (l.map cN.e)) (cN.e x).depth ≤ 48 := Nat.le_trans (Nat.min_le_left _ _) (Nat.le_trans (depthAll_map cN (n := 20) l) (by decide))
  rw [cL_e, mthop, cN.pl, plainAll_map, decide_eq_true h2, findIx_N x l h]
  rfl
def mostLN (hs : Hands) : Nat := mxL cN (linksN hs)
theorem links_ne {hs : Hands} (H : Ok hs) : linksN hs ≠ [] := fun e => by
  have := links_len hs
  rw [e] at this
  have h := H.pos
  simp at this
  omega
theorem most_linked_eq {hs : Hands} (H : Ok hs) : mnL (cP cI cN) ((List.range hs.length).map fun p => (-(((nearN hs p).length : Nat) : Int), p)) = (-((mostLN hs : Nat) : Int), ixN (mostLN hs) (linksN hs)) := by
  have hm : mostLN hs ∈ linksN hs := mxL_mem cN (links_ne H)
  obtain ⟨h1, h2, h3⟩ := ixN_spec hm
  rw [links_len] at h1
  have hat : ∀ p, p < hs.length → (linksN hs)[p]? = some (nearN hs p).length := fun p hp => by
    unfold linksN
    rw [List.getElem?_map, List.getElem?_eq_getElem (by rw [List.length_range]; exact hp), List.getElem_range]
    rfl
  have e1 := hat _ h1
  rw [h2] at e1
  have e1 := Option.some.inj e1
  refine mnL_eq (cP cI cN) (List.mem_map.mpr ⟨ixN (mostLN hs) (linksN hs), List.mem_range.mpr h1, by rw [← e1]⟩) fun y hy => ?_
  obtain ⟨p, hp, rfl⟩ := List.mem_map.mp hy
  have hp := List.mem_range.mp hp
  have hle : ltc cN (mostLN hs) (nearN hs p).length = false := mxL_le cN (List.mem_map.mpr ⟨p, List.mem_range.mpr hp, rfl⟩)
  rw [ltc_N, decide_eq_false_iff_not] at hle
  rw [ltc_P]
  by_cases g : (nearN hs p).length = mostLN hs
  · rw [if_pos (by rw [g]), ltc_N]
    refine decide_eq_false fun z => h3 p z ?_
    rw [hat p hp, g]
  · rw [if_neg (fun z => g (by have := Int.neg_inj.mp z; omega)), ltc_I]
    exact decide_eq_false (by dsimp only; omega)
theorem w_most_linked (hk : 5 ≤ k) {hs : Hands} (H : Ok hs) : callD PM k 157 [cH.e hs] = .ok ((cP cN cN).e (mostLN hs, ixN (mostLN hs) (linksN hs)), []) := by
  obtain ⟨j, rfl⟩ : ∃ j, k = j + 5 := ⟨k - 5, by omega⟩
  rw [call_s p_most_linked rfl]
  simp [d_most_linked, w_need_hands _ H, H.le9]
  rw [loopW_congr (g := fun p => R.ok [(cP cI cN).e (-(((nearN hs p).length : Nat) : Int), p)]) rfl fun p hp => by
    rw [w_linked_to (by omega) H (List.mem_range.mp hp)]
    simp]
  rw [loopW_one (cP cI cN) fun p => (-(((nearN hs p).length : Nat) : Int), p)]
  have hl : ((List.range hs.length).map fun p => (-(((nearN hs p).length : Nat) : Int), p)).length ≤ line := by rw [List.length_map, List.length_range]; exact H.line
  simp only [lstR_g, gd_ok hl, R.ok_bind]
  rw [min_Lc (cP cI cN) (fun _ => rfl) (fun e => by
    have h1 : 0 ∈ List.range hs.length := List.mem_range.mpr H.pos
    rw [List.map_eq_nil_iff.mp e] at h1
    cases h1), most_linked_eq H]
  simp
  rfl
/-! ### clubs -/
def clubN (hs : Hands) (S : List Nat) : Prop := ∀ a ∈ S, ∀ b ∈ S, a < b → (a, b) ∈ pairsN hs
instance (hs : Hands) (S : List Nat) : Decidable (clubN hs S) := inferInstanceAs (Decidable (∀ a ∈ S, ∀ b ∈ S, a < b → (a, b) ∈ pairsN hs))
def allClubs (hs : Hands) : List (List Nat) := (choicesN hs.length).filter fun S => decide (clubN hs S)
def fullN (hs : Hands) : List (List Nat) := (allClubs hs).filter fun S => decide (∀ O ∈ allClubs hs, ¬ (S.length < O.length ∧ ∀ x ∈ S, x ∈ O))
def clubsN (hs : Hands) : List (List Nat) := srt (cT cN) (fullN hs)
theorem mem_allClubs {hs : Hands} {S : List Nat} : S ∈ allClubs hs ↔ Ppl hs.length S ∧ clubN hs S := by
  unfold allClubs
  rw [List.mem_filter, mem_choices, decide_eq_true_iff]
theorem club_snoc {hs : Hands} {S : List Nat} {n : Nat} (h : ∀ x ∈ S, x < n) : clubN hs (S ++ [n]) ↔ clubN hs S ∧ ∀ x ∈ S, (x, n) ∈ pairsN hs := by
  constructor
  · intro g
    refine ⟨fun a ha b hb hab => g a (List.mem_append_left _ ha) b (List.mem_append_left _ hb) hab, fun x hx => g x (List.mem_append_left _ hx) n (by simp) (h x hx)⟩
  · rintro ⟨g1, g2⟩ a ha b hb hab
    rcases List.mem_append.mp ha with ha | ha <;> rcases List.mem_append.mp hb with hb | hb
    · exact g1 a ha b hb hab
    · rw [List.mem_singleton.mp hb]; exact g2 a ha
    · have := h b hb; rw [List.mem_singleton] at ha; omega
    · rw [List.mem_singleton] at ha hb; omega
def clubsUp (hs : Hands) (n : Nat) : List (List Nat) := (choicesN n).filter fun S => decide (clubN hs S)
theorem clubsUp_succ (hs : Hands) (n : Nat) : clubsUp hs (n + 1) = clubsUp hs n ++ ((clubsUp hs n).filter fun S => decide (∀ x ∈ S, (x, n) ∈ pairsN hs)).map fun S => S ++ [n] := by
  unfold clubsUp
  rw [choicesN, List.filter_append, List.filter_map, List.filter_filter]
  congr 2
  refine List.filter_congr fun S hS => ?_
  rw [Bool.eq_iff_iff, Bool.and_eq_true, decide_eq_true_iff, decide_eq_true_iff]
  show decide (clubN hs (S ++ [n])) = true ↔ _
  rw [decide_eq_true_iff, club_snoc (mem_choices.mp hS).lt]
  exact And.comm
theorem clubsUp_len {hs : Hands} {n : Nat} (h : n ≤ 7) : (clubsUp hs n).length ≤ 128 := Nat.le_trans (List.length_filter_le _ _) (choices_line h)
theorem mem_clubsUp {hs : Hands} {n : Nat} {S : List Nat} : S ∈ clubsUp hs n ↔ Ppl n S ∧ clubN hs S := by
  unfold clubsUp
  rw [List.mem_filter, mem_choices, decide_eq_true_iff]
theorem loopW_ifB {α : Type} (q : α → Bool) (p : α → Prop) [DecidablePred p] (l : List α) : loopW (fun x => R.ok (if p x then [PyData.bool (q x)] else [])) l = R.ok (mapE cB ((l.filter fun x => decide (p x)).map q)) := loopW_if cB q p l
theorem all_club (hs : Hands) (S : List Nat) : (S.flatMap fun x => (S.filter fun y => decide (x < y)).map fun y => decide ((x, y) ∈ pairsN hs)).all id = decide (clubN hs S) := by
  rw [Bool.eq_iff_iff, decide_eq_true_iff, List.all_eq_true]
  constructor
  · intro h a ha b hb hab
    exact of_decide_eq_true (h (decide ((a, b) ∈ pairsN hs)) (List.mem_flatMap.mpr ⟨a, ha, List.mem_map.mpr ⟨b, List.mem_filter.mpr ⟨hb, decide_eq_true hab⟩, rfl⟩⟩))
  · intro h z hz
    obtain ⟨a, ha, hz⟩ := List.mem_flatMap.mp hz
    obtain ⟨b, hb, rfl⟩ := List.mem_map.mp hz
    obtain ⟨hb, hab⟩ := List.mem_filter.mp hb
    exact decide_eq_true (h a ha b hb (of_decide_eq_true hab))
theorem w_is_club (hk : 5 ≤ k) {hs : Hands} (H : Ok hs) {S : List Nat} (hp : Ppl hs.length S) : callD PM k 158 [cH.e hs, (cT cN).e S] = .ok (.bool (decide (clubN hs S)), []) := by
  obtain ⟨j, rfl⟩ : ∃ j, k = j + 5 := ⟨k - 5, by omega⟩
  rw [call_s p_is_club rfl]
  simp [d_is_club, w_need_hands _ H, w_need_people _ H hp, w_pairs_in _ H]
  have hS : S.length ≤ 7 := Nat.le_trans hp.len H.le
  rw [loopW_congr (g := fun x => R.ok (mapE cB ((S.filter fun y => decide (x < y)).map fun y => decide ((x, y) ∈ pairsN hs)))) rfl fun x hx => by
    rw [loopW_ifB]
    exact congrArg (fun z => R.ok (mapE cB z)) (List.map_congr_left fun y _ => decide_eq_decide.mpr Iff.rfl)]
  rw [loopW_m cB]
  have hl : (S.flatMap fun x => (S.filter fun y => decide (x < y)).map fun y => decide ((x, y) ∈ pairsN hs)).length ≤ line := by
    refine line_of (Nat.le_trans (flat_le _ 7 S fun x hx => ?_) (by omega))
    rw [List.length_map]
    exact Nat.le_trans (List.length_filter_le _ _) hS
  simp only [lstR_g, gd_ok hl, R.ok_bind, all_L, all_club]
theorem w_is_part (hk : 1 ≤ k) {S O : List Nat} (hS : S.length ≤ line) : callD PM k 160 [(cT cN).e S, (cT cN).e O] = .ok (.bool (decide (S.length < O.length ∧ ∀ x ∈ S, x ∈ O)), []) := by
  obtain ⟨j, rfl⟩ : ∃ j, k = j + 1 := ⟨k - 1, by omega⟩
  rw [call_s p_is_part rfl]
  simp [d_is_part, hS]
  congr 1
  rw [Bool.eq_iff_iff]
  simp
theorem w_clubs (hk : 5 ≤ k) {hs : Hands} (H : Ok hs) : callD PM k 159 [cH.e hs] = .ok ((cL (cT cN)).e (clubsN hs), []) := by
  obtain ⟨j, rfl⟩ : ∃ j, k = j + 5 := ⟨k - 5, by omega⟩
  rw [call_s p_clubs rfl]
  simp [d_clubs, w_need_hands _ H, w_pairs_in _ H, lstR_t0, H.le9]
  refine forF_rng (fun n => [some (cH.e hs), none, some ((cL (cT cN)).e (clubsUp hs n)), some ((cL (cP cN cN)).e (pairsN hs)), none, none, none]) (by simp [clubsUp, choicesN, clubN]) (fun n hn => ?_) ?_
  · have hl : ∀ S ∈ clubsUp hs n, S.length ≤ 7 := fun S hS => Nat.le_trans (mem_clubsUp.mp hS).1.len (by have := H.le; omega)
    simp
    rw [loopW_congr (g := fun S => R.ok (if ∀ x ∈ S, (x, n) ∈ pairsN hs then [(cT cN).e (S ++ [n])] else [])) rfl fun S hS => by
      have h1 := hl S hS
      have h2 : S.length ≤ line := line_of (by omega)
      have h3 : S.length + 1 ≤ line := line_of (by omega)
      generalize hb : List.all S _ = b
      have e : b = decide (∀ x ∈ S, (x, n) ∈ pairsN hs) := by
        rw [← hb, Bool.eq_iff_iff]
        simp
      rw [e]
      simp [h2, h3]]
    rw [loopW_if (cT cN) fun S => S ++ [n]]
    have g1 := clubsUp_len (hs := hs) (show n ≤ 7 by have := H.le; omega)
    have g2 : (((clubsUp hs n).filter fun S => decide (∀ x ∈ S, (x, n) ∈ pairsN hs)).map fun S => S ++ [n]).length ≤ 128 := by
      rw [List.length_map]
      exact Nat.le_trans (List.length_filter_le _ _) g1
    simp only [lstR_g, gd_ok (line_of (show (((clubsUp hs n).filter fun S => decide (∀ x ∈ S, (x, n) ∈ pairsN hs)).map fun S => S ++ [n]).length ≤ 16777215 by omega)), R.ok_bind, ext_Lg]
    rw [gd_ok (line_of (by omega)), R.ok_bind, clubsUp_succ]
    simp only [R.ok_bind]
  · simp
    have g1 := clubsUp_len (hs := hs) H.le
    have hl : ∀ S ∈ clubsUp hs hs.length, S.length ≤ line := fun S hS => line_of (by have := (mem_clubsUp.mp hS).1.len; have := H.le; omega)
    have g2 : ((clubsUp hs hs.length).filter fun x => !decide (x = [])).length ≤ line := ln_filter (line_of (by omega))
    refine gd_fin2 g2 ?_
    rw [loopW_congr (g := fun S => R.ok (if (((clubsUp hs hs.length).filter fun x => !decide (x = [])).map fun O => decide (S.length < O.length ∧ ∀ x ∈ S, x ∈ O)).any id = false then [(cT cN).e S] else [])) rfl fun S hS => by
      rw [loopW_congr (g := fun O => R.ok [PyData.bool (decide (S.length < O.length ∧ ∀ x ∈ S, x ∈ O))]) rfl fun O hO => by
        rw [w_is_part (by omega) (hl S (List.mem_filter.mp hS).1)]
        rfl]
      rw [loopW_bool fun O : List Nat => decide (S.length < O.length ∧ ∀ x ∈ S, x ∈ O)]
      have g3 : (((clubsUp hs hs.length).filter fun x => !decide (x = [])).map fun O => decide (S.length < O.length ∧ ∀ x ∈ S, x ∈ O)).length ≤ line := by rw [List.length_map]; exact g2
      simp only [lstR_g, gd_ok g3, R.ok_bind, any_L, asB_bool]]
    rw [loopW_if (cT cN) (fun x => x), List.map_id']
    have ef : ((clubsUp hs hs.length).filter fun x => !decide (x = [])).filter (fun S => decide ((((clubsUp hs hs.length).filter fun x => !decide (x = [])).map fun O => decide (S.length < O.length ∧ ∀ x ∈ S, x ∈ O)).any id = false)) = fullN hs := by
      rw [List.filter_filter]
      refine List.filter_congr fun S hS => ?_
      rw [Bool.eq_iff_iff, Bool.and_eq_true, decide_eq_true_iff, decide_eq_true_iff, List.any_eq_false]
      constructor
      · rintro ⟨h1, h2⟩ O hO hSO
        have hO2 : O ∈ (clubsUp hs hs.length).filter fun x => !decide (x = []) := List.mem_filter.mpr ⟨hO, by
          have : O ≠ [] := fun e => by rw [e] at hSO; simp at hSO
          simp [this]⟩
        exact h1 _ (List.mem_map.mpr ⟨O, hO2, rfl⟩) (decide_eq_true hSO)
      · intro h
        refine ⟨fun b hb => ?_, ?_⟩
        · obtain ⟨O, hO, rfl⟩ := List.mem_map.mp hb
          exact fun z => h O (List.mem_filter.mp hO).1 (of_decide_eq_true z)
        · by_cases e : S = []
          · subst e
            have h0 : [0] ∈ allClubs hs := mem_allClubs.mpr ⟨⟨List.pairwise_singleton _ _, fun q hq => by rw [List.mem_singleton.mp hq]; exact H.pos⟩, fun a ha b hb hab => by
              rw [List.mem_singleton] at ha hb
              omega⟩
            exact absurd ⟨by simp, fun x hx => by cases hx⟩ (h _ h0)
          · simp [e]
    have g4 : (fullN hs).length ≤ line := by
      rw [← ef]
      exact ln_filter g2
    rw [ef]
    simp [g4]
    rfl
theorem most_gen {C D : List (List Nat)} (h : C ≠ []) (hm : ∀ S, S ∈ D ↔ S ∈ C) : mnL (cP cI (cT cN)) (C.map fun S => (-(S.length : Int), S)) = (-((sizeL D : Nat) : Int), bestL D) := by
  have hne : D ≠ [] := fun e => by
    obtain ⟨x, hx⟩ := List.exists_mem_of_ne_nil _ h
    have := (hm x).mpr hx
    rw [e] at this
    cases this
  have hsz : sizeL D ∈ D.map List.length := mxL_mem cN fun e => hne (List.map_eq_nil_iff.mp e)
  obtain ⟨S0, h0, e0⟩ := List.mem_map.mp hsz
  have hb : bestL D ∈ D.filter fun S => decide (S.length = sizeL D) := mnL_mem (cT cN) (List.ne_nil_of_mem (List.mem_filter.mpr ⟨h0, decide_eq_true e0⟩))
  obtain ⟨b1, b2⟩ := List.mem_filter.mp hb
  have b2 := of_decide_eq_true b2
  refine mnL_eq (cP cI (cT cN)) (List.mem_map.mpr ⟨_, (hm _).mp b1, by rw [b2]⟩) fun y hy => ?_
  obtain ⟨S, hS, rfl⟩ := List.mem_map.mp hy
  rw [ltc_P]
  have hle : ltc cN (sizeL D) S.length = false := mxL_le cN (List.mem_map.mpr ⟨S, (hm S).mpr hS, rfl⟩)
  rw [ltc_N, decide_eq_false_iff_not] at hle
  by_cases g : S.length = sizeL D
  · rw [if_pos (by rw [g])]
    exact mnL_le (cT cN) (List.mem_filter.mpr ⟨(hm S).mpr hS, decide_eq_true g⟩)
  · rw [if_neg (fun z => g (by have := Int.neg_inj.mp z; omega)), ltc_I]
    exact decide_eq_false (by omega)
theorem full_ne {hs : Hands} : fullN hs ≠ [] := by
  have h0 : allClubs hs ≠ [] := List.ne_nil_of_mem (mem_allClubs.mpr ⟨⟨.nil, fun q hq => by cases hq⟩, fun a ha => by cases ha⟩ : [] ∈ allClubs hs)
  have hsz : sizeL (allClubs hs) ∈ (allClubs hs).map List.length := mxL_mem cN fun e => h0 (List.map_eq_nil_iff.mp e)
  obtain ⟨S, h1, h2⟩ := List.mem_map.mp hsz
  refine List.ne_nil_of_mem (List.mem_filter.mpr ⟨h1, decide_eq_true fun O hO g => ?_⟩ : S ∈ fullN hs)
  have := mxL_le cN (List.mem_map.mpr ⟨O, hO, rfl⟩ : O.length ∈ (allClubs hs).map List.length)
  rw [show mxL cN ((allClubs hs).map List.length) = sizeL (allClubs hs) from rfl, ← h2, ltc_N, decide_eq_false_iff_not] at this
  exact this g.1
theorem mem_clubs {hs : Hands} {S : List Nat} : S ∈ clubsN hs ↔ S ∈ fullN hs := (srt_perm (cT cN) _).mem_iff
theorem clubs_ne {hs : Hands} : clubsN hs ≠ [] := fun e => by
  obtain ⟨x, hx⟩ := List.exists_mem_of_ne_nil _ (full_ne (hs := hs))
  have := mem_clubs.mpr hx
  rw [e] at this
  cases this
theorem full_len {hs : Hands} (H : Ok hs) : (fullN hs).length ≤ 128 := Nat.le_trans (List.length_filter_le _ _) (clubsUp_len H.le)
theorem clubs_len {hs : Hands} (H : Ok hs) : (clubsN hs).length ≤ 128 := by
  unfold clubsN
  rw [(srt_perm (cT cN) _).length_eq]
  exact full_len H
theorem full_ppl {hs : Hands} {S : List Nat} (h : S ∈ fullN hs) : Ppl hs.length S := (mem_allClubs.mp (List.mem_filter.mp h).1).1
theorem w_greatest_club (hk : 6 ≤ k) {hs : Hands} (H : Ok hs) : callD PM k 161 [cH.e hs] = .ok ((cP cN (cT cN)).e (sizeL (fullN hs), bestL (fullN hs)), []) := by
  obtain ⟨j, rfl⟩ : ∃ j, k = j + 6 := ⟨k - 6, by omega⟩
  rw [call_s p_greatest_club rfl]
  have h1 : (clubsN hs).length ≤ line := line_of (by have := clubs_len H; omega)
  simp [d_greatest_club, w_clubs _ H, h1]
  rw [min_Lc (cP cI (cT cN)) (fun _ => rfl) (fun e => clubs_ne (List.map_eq_nil_iff.mp e)), most_gen clubs_ne (fun S => mem_clubs.symm)]
  simp
  rfl
theorem groups_pos {hs : Hands} (H : Ok hs) : 1 ≤ (groupsN hs).length := by
  rw [groups_count]
  exact List.length_pos_of_mem (mem_setN.mpr (lat_mem H.pos))
def splitN (hs : Hands) : List Nat := (List.range hs.length).filter fun p => decide (1 < hs.length ∧ (groupsN hs).length - (if nearN hs p = [] then 1 else 0) < (groupsN (leaveN hs p)).length)
theorem w_splitters (hk : 5 ≤ k) {hs : Hands} (H : Ok hs) : callD PM k 162 [cH.e hs] = .ok ((cT cN).e (splitN hs), []) := by
  obtain ⟨j, rfl⟩ : ∃ j, k = j + 5 := ⟨k - 5, by omega⟩
  rw [call_s p_splitters rfl]
  have hg := groups_pos H
  simp [d_splitters, w_need_hands _ H, w_groups_in _ H, H.le9]
  refine forF_filter cN (fun acc => [some (cH.e hs), none, some ((cL cN).e acc), some (cN.e (groupsN hs).length), none, none]) id (fun p => decide (1 < hs.length ∧ (groupsN hs).length - (if nearN hs p = [] then 1 else 0) < (groupsN (leaveN hs p)).length)) rfl (by rw [List.length_range]; exact H.line) (fun p hp acc ha => ?_) ?_
  · have hp := List.mem_range.mp hp
    have g1 : min p hs.length + (hs.length - (p + 1)) ≤ line := line_of (by have := H.le; omega)
    have g2 : (if nearN hs p = [] then 1 else 0) ≤ (groupsN hs).length := by split <;> omega
    have e : hs.take p ++ hs.drop (p + 1) = leaveN hs p := rfl
    by_cases h1 : 1 < hs.length
    · have HL := H.leave hp h1
      by_cases h2 : (groupsN hs).length - (if nearN hs p = [] then 1 else 0) < (groupsN (leaveN hs p)).length
      · simp [g1, e, w_linked_to _ H hp, h1, w_groups_in _ HL, int_B, g2, h2, ha]
      · simp [g1, e, w_linked_to _ H hp, h1, w_groups_in _ HL, int_B, g2, h2, ha]
    · simp [g1, e, w_linked_to _ H hp, h1]
  · simp [splitN]
def keyN (hs : Hands) : List Nat := (thingsN hs).filter fun t => decide ((groupsN hs).length < (groupsN (dropN hs t)).length)
theorem w_key_things (hk : 5 ≤ k) {hs : Hands} (H : Ok hs) : callD PM k 163 [cH.e hs] = .ok ((cT cN).e (keyN hs), []) := by
  obtain ⟨j, rfl⟩ : ∃ j, k = j + 5 := ⟨k - 5, by omega⟩
  rw [call_s p_key_things rfl]
  simp [d_key_things, w_need_hands _ H, w_groups_in _ H, w_things_in _ H]
  refine forF_filter cN (fun acc => [some (cH.e hs), none, some ((cL cN).e acc), some (cN.e (groupsN hs).length), none, none, none]) id (fun t => decide ((groupsN hs).length < (groupsN (dropN hs t)).length)) rfl H.things.line (fun t ht acc ha => ?_) ?_
  · have HD := H.drop t
    have e : hs.map (fun h => h.filter fun x => !decide (x = t)) = dropN hs t := by
      unfold dropN
      simp
    have g1 : ∀ x ∈ hs, (x.filter fun y => !decide (y = t)).length ≤ line := fun x hx => ln_filter (H.hd x hx).line
    simp
    refine gd_fin2 g1 (gd_fin2 H.line ?_)
    rw [e]
    by_cases h2 : (groupsN hs).length < (groupsN (dropN hs t)).length
    · simp [w_groups_inL _ HD, h2, ha]
    · simp [w_groups_inL _ HD, h2, ha]
  · simp [keyN]
theorem w_is_tree (hk : 5 ≤ k) {hs : Hands} (H : Ok hs) : callD PM k 164 [cH.e hs] = .ok (.bool (decide ((groupsN hs).length = 1 ∧ (pairsN hs).length = hs.length - 1)), []) := by
  obtain ⟨j, rfl⟩ : ∃ j, k = j + 5 := ⟨k - 5, by omega⟩
  rw [call_s p_is_tree rfl]
  have h1 : 1 ≤ hs.length := H.pos
  simp [d_is_tree, w_need_hands _ H, w_groups_in _ H, w_pairs_in _ H, h1]
def linkTN (hs : Hands) : List ((Nat × Nat) × List Nat) := (pairsN hs).map fun e => (e, commonN hs e.1 e.2)
theorem w_link_things (hk : 5 ≤ k) {hs : Hands} (H : Ok hs) : callD PM k 168 [cH.e hs] = .ok ((cT (cP (cP cN cN) (cT cN))).e (linkTN hs), []) := by
  obtain ⟨j, rfl⟩ : ∃ j, k = j + 5 := ⟨k - 5, by omega⟩
  rw [call_s p_link_things rfl]
  have hl := pairs_len hs H.le
  simp [d_link_things, w_need_hands _ H, w_pairs_in _ H]
  refine forF_filter (cP cN cN) (fun acc => [some (cH.e hs), some ((cL (cP (cP cN cN) (cT cN))).e acc), none, none, none]) (fun e => (e, commonN hs e.1 e.2)) (fun _ => true) rfl (line_of (by omega)) (fun e he acc ha => ?_) ?_
  · obtain ⟨h1, h2, _⟩ := mem_pairs.mp (show (e.1, e.2) ∈ pairsN hs from he)
    obtain ⟨a, b⟩ := e
    have h1 : a < b := h1
    have h2 : b < hs.length := h2
    have ha1 : a < hs.length := by omega
    have hla : hs[a].length ≤ line := H.ln ha1
    simp [ha1, h2, hla, ha, commonN]
  · simp [linkTN, filt_all]
def mostHN (hs : Hands) : Nat := mxL cN (0 :: (thingsN hs).map fun t => (holdN hs t).length)
def popN (hs : Hands) : List Nat := (thingsN hs).filter fun t => decide ((holdN hs t).length = mostHN hs)
theorem w_popular (hk : 5 ≤ k) {hs : Hands} (H : Ok hs) : callD PM k 170 [cH.e hs] = .ok ((cT cN).e (popN hs), []) := by
  obtain ⟨j, rfl⟩ : ∃ j, k = j + 5 := ⟨k - 5, by omega⟩
  rw [call_s p_popular rfl]
  have h1 := H.things.line
  simp [d_popular, w_need_hands _ H, w_things_in _ H, w_holders_in _ H, h1]
  have ep : ((thingsN hs).map (Prod.fst ∘ fun x => ((holdN hs x).length, x))) = (thingsN hs).map fun t => (holdN hs t).length := rfl
  have key : ∀ m : Nat, m = mostHN hs → (forF
          (fun x env => do
            let e ← bindTg (Tg.tup [4, 5]) x env
            let a ← look e 4
            let a_1 ← look e 2
            let a ← cmpop Cop.eq a a_1
            let a ← asB a
            R.tf a
                (do
                  let a ← look e 3
                  let _ ← asL a
                  let a_3 ← look e 5
                  let a ← appL a a_3
                  R.ok (Fl.nx (((List.set e 3 (some a)).set 5 none).set 4 none)))
                (R.ok (Fl.nx ((List.set e 5 none).set 4 none))))
          (mapE (cP cN cN) (List.map (fun x => ((holdN hs x).length, x)) (thingsN hs)))
          [some (cH.e hs), some ((cL (cP cN cN)).e (List.map (fun x => ((holdN hs x).length, x)) (thingsN hs))),
            some (cN.e m), some (PyData.list []), none, none] >>=
        fun a =>
        flK (evSs (callD PM (j + 4)) (Ss.cons (S.ret (X.blt Blt.tuple (Xs.cons (X.var 3) Xs.nil))) Ss.nil)) a >>=
          finD []) =
    R.ok ((cT cN).e (popN hs), []) := fun m hm => by
    refine forF_filter (cP cN cN) (fun acc => [some (cH.e hs), some ((cL (cP cN cN)).e (List.map (fun x => ((holdN hs x).length, x)) (thingsN hs))), some (cN.e m), some ((cL cN).e acc), none, none]) Prod.snd (fun x => decide (x.1 = m)) rfl (by rw [List.length_map]; exact h1) (fun x hx acc ha => ?_) ?_
    · obtain ⟨a, b⟩ := x
      by_cases g : a = m
      · simp [g, ha]
      · simp [g, ha]
    · rw [List.filter_map, List.map_map]
      have e : ((thingsN hs).filter ((fun x : Nat × Nat => decide (x.1 = m)) ∘ fun x => ((holdN hs x).length, x))).map (Prod.snd ∘ fun x => ((holdN hs x).length, x)) = popN hs := by
        rw [show (Prod.snd ∘ fun x => ((holdN hs x).length, x)) = (id : Nat → Nat) from rfl, List.map_id]
        unfold popN
        rw [← hm]
        rfl
      rw [e]
      simp
  by_cases h : thingsN hs = []
  · rw [decide_eq_true h]
    refine key 0 ?_
    unfold mostHN
    rw [h]
    rfl
  · have hne : (thingsN hs).map (fun t => (holdN hs t).length) ≠ [] := fun e => h (List.map_eq_nil_iff.mp e)
    rw [decide_eq_false h, ep, max_Lc cN (fun _ => rfl) hne]
    refine key _ ?_
    unfold mostHN
    refine (mxL_eq cN (List.mem_cons_of_mem _ (mxL_mem cN hne)) fun y hy => ?_).symm
    rcases List.mem_cons.mp hy with rfl | hy
    · rw [ltc_N]; exact decide_eq_false (Nat.not_lt_zero _)
    · exact mxL_le cN hy
theorem forF_findB {α β : Type} (c : Co α) {f : AV → Env → R Fl} {l : List α} {env : Env} {K : Fl → R β} {X : R β} (p : α → Bool) (v : α → AV) (h1 : ∀ x ∈ l, p x = false → f (c.e x) env = .ok (.nx env)) (h2 : ∀ x ∈ l, p x = true → ∃ e, f (c.e x) env = .ok (.rt (v x) e))
    (hX1 : ∀ x e, l.find? p = some x → K (.rt (v x) e) = X) (hX2 : l.find? p = none → K (.nx env) = X) : (forF f (mapE c l) env >>= K) = X := by
  obtain ⟨f1, f2⟩ := forF_find c (f := f) p v env l h1 h2
  cases hf : l.find? p with
  | none => rw [f2 hf, R.ok_bind]; exact hX2 hf
  | some x =>
    obtain ⟨e, he⟩ := f1 x hf
    rw [he, R.ok_bind]
    exact hX1 x e hf
theorem lset_L (l : List Nat) (h : l.length ≤ 1000) : bltop .lset [(cL cN).e l] = .ok (cN.e (setN l).length) := by
  show (match ints? (mapE cN l) with
    | some is => if decide (is.length ≤ 1000) = true then R.ok (PyData.int ((isetI is).length : Nat)) else .bad
    | none => .bad) = _
  rw [ints_N]
  dsimp only
  rw [List.length_map, decide_eq_true h, if_pos rfl, isetI_cast, List.length_map]
  rfl
theorem w__law_groups (hk : 2 ≤ k) {hs : Hands} (H : Ok hs) : callD PM k 328 [cH.e hs] = .ok (cN.e (groupsN hs).length, []) := by
  obtain ⟨j, rfl⟩ : ∃ j, k = j + 2 := ⟨k - 2, by omega⟩
  rw [call_s p__law_groups rfl]
  have hl := pairs_len hs H.le
  have hle := H.le
  simp [d__law_groups, lrng1_N _ (show hs.length ≤ 10000000 by omega), w__law_pairs _ H]
  refine forF_bind (cP cN cN) (fun g => [some (cH.e hs), some ((cL cN).e g), some ((cL (cP cN cN)).e (pairsN hs)), none, none, none, none, none]) relabN (fun _ g => g.length = hs.length) (List.range hs.length) rfl List.length_range (fun n g e he hn hg => ⟨.inl ?_, by rw [relab_len]; exact hg⟩) fun hI => ?_
  · obtain ⟨h1, h2, _⟩ := mem_pairs.mp (show (e.1, e.2) ∈ pairsN hs from he)
    obtain ⟨a, b⟩ := e
    have h1 : a < b := h1
    have h2 : b < hs.length := h2
    have g1 : a < g.length := by omega
    have g2 : b < g.length := by omega
    have g3 : g.length ≤ line := by rw [hg]; exact H.line
    have ef : (fun x => R.ok (if x = g[b] then [cN.e g[a]] else [cN.e x])) = fun x => R.ok [cN.e (if x = g[b] then g[a] else x)] := funext fun x => by split <;> rfl
    simp [g1, g2, g3]
    rw [ef]
    simp [g3]
    simp [relabN, lat, g1, g2]
  · have e0 : List.foldl relabN (List.range (List.length hs)) (pairsN hs) = labN hs := rfl
    rw [e0]
    have s1 : (labN hs).length ≤ 1000 := by rw [lab_len]; omega
    simp [lset_L _ s1, groups_count]
theorem w__law_close (hk : 1 ≤ k) {ps : List (Nat × Nat)} {S : List Nat} (hS : S.length ≤ line) : callD PM k 329 [(cL (cP cN cN)).e ps, (cT cN).e S] = .ok (.bool (decide (∀ a ∈ S, ∀ b ∈ S, a < b → (a, b) ∈ ps)), []) := by
  obtain ⟨j, rfl⟩ : ∃ j, k = j + 1 := ⟨k - 1, by omega⟩
  rw [call_s p__law_close rfl]
  simp [d__law_close]
  refine forF_findB cN (fun a => decide (∃ b ∈ S, a < b ∧ (a, b) ∉ ps)) (fun _ => PyData.bool false) (fun a ha hf => ?_) (fun a ha ht => ?_) (fun a e he => ?_) fun he => ?_
  · have hf := of_decide_eq_false hf
    have e : S.filter (fun b => decide (a < b ∧ (a, b) ∉ ps)) = [] := by
      rw [List.filter_eq_nil_iff]
      intro b hb g
      exact hf ⟨b, hb, of_decide_eq_true g⟩
    simp
    rw [loopW_congr (g := fun x => R.ok (if a < x ∧ (a, x) ∉ ps then [cN.e x] else [])) rfl fun x hx => by
      by_cases g : a < x
      · by_cases h : (a, x) ∈ ps
        · rw [if_pos g, if_pos h, if_neg fun z => z.2 h]
        · rw [if_pos g, if_neg h, if_pos ⟨g, h⟩]
      · rw [if_neg g, if_neg fun z => g z.1]]
    rw [loopW_if cN (fun x => x), List.map_id']
    have hl : (S.filter fun x => decide (a < x ∧ (a, x) ∉ ps)).length ≤ line := ln_filter hS
    simp only [lstR_g, gd_ok hl, R.ok_bind, ne_Lnil, asB_bool]
    rw [decide_eq_false (fun z => z e), if_neg (by decide)]
    simp
  · have ht := of_decide_eq_true ht
    refine ⟨[some ((cL (cP cN cN)).e ps), some ((cT cN).e S), some (cN.e a), none], ?_⟩
    obtain ⟨b, hb, hab⟩ := ht
    have e : S.filter (fun b => decide (a < b ∧ (a, b) ∉ ps)) ≠ [] := List.ne_nil_of_mem (List.mem_filter.mpr ⟨hb, decide_eq_true hab⟩)
    simp
    rw [loopW_congr (g := fun x => R.ok (if a < x ∧ (a, x) ∉ ps then [cN.e x] else [])) rfl fun x hx => by
      by_cases g : a < x
      · by_cases h : (a, x) ∈ ps
        · rw [if_pos g, if_pos h, if_neg fun z => z.2 h]
        · rw [if_pos g, if_neg h, if_pos ⟨g, h⟩]
      · rw [if_neg g, if_neg fun z => g z.1]]
    rw [loopW_if cN (fun x => x), List.map_id']
    have hl : (S.filter fun x => decide (a < x ∧ (a, x) ∉ ps)).length ≤ line := ln_filter hS
    simp only [lstR_g, gd_ok hl, R.ok_bind, ne_Lnil, asB_bool]
    rw [decide_eq_true e, if_pos rfl]
    simp
  · have h0 := List.find?_some he
    have h1 : ∃ b ∈ S, a < b ∧ (a, b) ∉ ps := of_decide_eq_true h0
    obtain ⟨b, hb, hab, hn⟩ := h1
    have ha := List.mem_of_find?_eq_some he
    have : ¬ ∀ a ∈ S, ∀ b ∈ S, a < b → (a, b) ∈ ps := fun z => hn (z a ha b hb hab)
    rw [decide_eq_false this]
    simp
  · rw [List.find?_eq_none] at he
    have : ∀ a ∈ S, ∀ b ∈ S, a < b → (a, b) ∈ ps := fun a ha b hb hab => Classical.byContradiction fun z => he a ha (decide_eq_true ⟨b, hb, hab, z⟩)
    rw [decide_eq_true this]
    simp
end
end Ev
end

section
set_option linter.all false
set_option autoImplicit false
set_option maxRecDepth 10000
/-! Ml: colours. -/
namespace Ev
open T
open PySem (Str PyData)
def okC (hs : Hands) (i : Nat) (row : List Nat) (c : Nat) : Prop := ∀ e ∈ pairsN hs, e.2 = i → row[e.1]?.getD 0 ≠ c
instance (hs : Hands) (i : Nat) (row : List Nat) (c : Nat) : Decidable (okC hs i row c) := inferInstanceAs (Decidable (∀ e ∈ pairsN hs, e.2 = i → row[e.1]?.getD 0 ≠ c))
def nextC (hs : Hands) (m i : Nat) (row : List Nat) : List (List Nat) := ((List.range m).filter fun c => decide (okC hs i row c)).map fun c => row ++ [c]
/-- the ways to colour the first people -/
def colsN (hs : Hands) (m : Nat) : Nat → List (List Nat)
  | 0 => [[]]
  | i + 1 => (colsN hs m i).flatMap (nextC hs m i)
theorem next_len (hs : Hands) (m i : Nat) (row : List Nat) : (nextC hs m i row).length ≤ m := by
  unfold nextC
  rw [List.length_map]
  exact Nat.le_trans (List.length_filter_le _ _) (by rw [List.length_range]; exact Nat.le_refl _)
theorem cols_len (hs : Hands) (m : Nat) : ∀ i, (colsN hs m i).length ≤ m ^ i
  | 0 => Nat.le_refl _
  | i + 1 => by
    rw [colsN, Nat.pow_succ]
    refine Nat.le_trans (flat_le _ m _ fun x _ => next_len ..) (Nat.mul_le_mul_right m (cols_len hs m i))
theorem pow_77 {m i : Nat} (hm : m ≤ 7) (hi : i ≤ 7) : m ^ i ≤ 823543 := by
  refine Nat.le_trans (Nat.pow_le_pow_left hm i) ?_
  exact Nat.le_trans (Nat.pow_le_pow_right (by omega) hi) (by decide)
/-- a colouring of the first i -/
structure Col (hs : Hands) (m i : Nat) (row : List Nat) : Prop where
  len : row.length = i
  lt : ∀ c ∈ row, c < m
  ok : ∀ e ∈ pairsN hs, e.2 < i → row[e.1]?.getD 0 ≠ row[e.2]?.getD 0
theorem pr_lt {hs : Hands} {e : Nat × Nat} (he : e ∈ pairsN hs) : e.1 < e.2 ∧ e.2 < hs.length := by
  obtain ⟨h1, h2, _⟩ := mem_pairs.mp (show (e.1, e.2) ∈ pairsN hs from he)
  exact ⟨h1, h2⟩
theorem at_left {l m : List Nat} {i : Nat} (h : i < l.length) : (l ++ m)[i]?.getD 0 = l[i]?.getD 0 := by rw [List.getElem?_append_left h]
theorem at_last (l : List Nat) (c : Nat) : (l ++ [c])[l.length]?.getD 0 = c := by simp
theorem mem_cols {hs : Hands} {m : Nat} : ∀ {i : Nat} {row : List Nat}, row ∈ colsN hs m i ↔ Col hs m i row
  | 0, row => by
    rw [colsN, List.mem_singleton]
    constructor
    · rintro rfl; exact ⟨rfl, (fun c hc => by cases hc), fun e _ h => absurd h (Nat.not_lt_zero _)⟩
    · intro h; exact List.eq_nil_of_length_eq_zero h.len
  | i + 1, row => by
    have ih : ∀ {row : List Nat}, row ∈ colsN hs m i ↔ Col hs m i row := mem_cols
    rw [colsN, List.mem_flatMap]
    constructor
    · rintro ⟨r, hr, h⟩
      have hr := ih.mp hr
      unfold nextC at h
      obtain ⟨c, hc, rfl⟩ := List.mem_map.mp h
      obtain ⟨h1, h2⟩ := List.mem_filter.mp hc
      have h2 : okC hs i r c := of_decide_eq_true h2
      have hl := hr.len
      refine ⟨by rw [List.length_append, hr.len]; rfl, fun x hx => ?_, fun e he hlt => ?_⟩
      · rcases List.mem_append.mp hx with hx | hx
        · exact hr.lt x hx
        · rw [List.mem_singleton.mp hx]; exact List.mem_range.mp h1
      · obtain ⟨e1, _⟩ := pr_lt he
        by_cases g : e.2 = i
        · rw [at_left (by omega), show e.2 = r.length by omega, at_last]
          exact h2 e he g
        · rw [at_left (by omega), at_left (by omega)]
          exact hr.ok e he (by omega)
    · intro h
      have hne : row ≠ [] := fun e => by have := h.len; rw [e] at this; cases this
      obtain ⟨r, c, rfl⟩ : ∃ r c, row = r ++ [c] := ⟨row.dropLast, row.getLast hne, (List.dropLast_concat_getLast hne).symm⟩
      have hl : r.length = i := by have := h.len; rw [List.length_append] at this; simp at this; exact this
      have hr : Col hs m i r := ⟨hl, fun x hx => h.lt x (List.mem_append_left _ hx), fun e he hlt => by
        obtain ⟨e1, _⟩ := pr_lt he
        have := h.ok e he (by omega)
        rw [at_left (by omega), at_left (by omega)] at this
        exact this⟩
      refine ⟨r, ih.mpr hr, List.mem_map.mpr ⟨c, List.mem_filter.mpr ⟨List.mem_range.mpr (h.lt c (by simp)), decide_eq_true fun e he g => ?_⟩, rfl⟩⟩
      obtain ⟨e1, _⟩ := pr_lt he
      have := h.ok e he (by omega)
      rw [at_left (by omega), show e.2 = r.length by omega, at_last] at this
      exact this
/-- unlike colours for pairs -/
def Proper (hs : Hands) (m : Nat) (f : Nat → Nat) : Prop := (∀ a, a < hs.length → f a < m) ∧ ∀ e ∈ pairsN hs, f e.1 ≠ f e.2
theorem cols_proper {hs : Hands} {m : Nat} : colsN hs m hs.length ≠ [] ↔ ∃ f, Proper hs m f := by
  constructor
  · intro h
    obtain ⟨row, hr⟩ := List.exists_mem_of_ne_nil _ h
    have hr := mem_cols.mp hr
    refine ⟨fun a => row[a]?.getD 0, fun a ha => hr.lt _ (getD_mem (by rw [hr.len]; exact ha)), fun e he => hr.ok e he (pr_lt he).2⟩
  · rintro ⟨f, h1, h2⟩
    refine List.ne_nil_of_mem (mem_cols.mpr (⟨by simp, fun c hc => ?_, fun e he hlt => ?_⟩ : Col hs m hs.length ((List.range hs.length).map f)))
    · obtain ⟨a, ha, rfl⟩ := List.mem_map.mp hc
      exact h1 a (List.mem_range.mp ha)
    · obtain ⟨e1, e2⟩ := pr_lt he
      have e3 : e.1 < hs.length := by omega
      simp [e2, e3]
      exact h2 e he
theorem proper_id (hs : Hands) : Proper hs hs.length id := ⟨fun a ha => ha, fun e he h => by have := (pr_lt he).1; simp at h; omega⟩
theorem proper_mono {hs : Hands} {m m' : Nat} {f : Nat → Nat} (h : Proper hs m f) (hm : m ≤ m') : Proper hs m' f := ⟨fun a ha => Nat.lt_of_lt_of_le (h.1 a ha) hm, h.2⟩
theorem aug_N (m n : Nat) : augV .add (cN.e m) (cN.e n) = .ok (cN.e (m + n)) := rfl
section
variable {k : Nat}
theorem w_colourings (hk : 2 ≤ k) {hs : Hands} (H : Ok hs) {m : Nat} (hm : m ≤ 7) : callD PM k 165 [cH.e hs, cN.e m] = .ok ((cL (cT cN)).e (colsN hs m hs.length), []) := by
  obtain ⟨j, rfl⟩ : ∃ j, k = j + 2 := ⟨k - 2, by omega⟩
  rw [call_s p_colourings rfl]
  have hle := H.le
  have hpl : (pairsN hs).length ≤ line := line_of (by have := pairs_21 H.le; omega)
  simp [d_colourings, w_pairs_in _ H, H.le9]
  refine forF_rng (fun i => [some (cH.e hs), some (cN.e m), some ((cL (cT cN)).e (colsN hs m i)), some ((cL (cP cN cN)).e (pairsN hs)), none, none, none, none, none, none]) rfl (fun i hi => ?_) ?_
  · have hcl := cols_len hs m i
    have hcl2 := cols_len hs m (i + 1)
    have hp1 := pow_77 hm (show i + 1 ≤ 7 by omega)
    simp
    refine forF_idxB (cT cN) (fun n => [some (cH.e hs), some (cN.e m), some ((cL (cT cN)).e (colsN hs m i)), some ((cL (cP cN cN)).e (pairsN hs)), some (cN.e i), some ((cL (cT cN)).e (((colsN hs m i).take n).flatMap (nextC hs m i))), none, none, none, none]) rfl (fun n hn => ?_) ?_
    · have hrow : Col hs m i (colsN hs m i)[n] := mem_cols.mp (List.getElem_mem hn)
      have hb9 : m ≤ big9 := le_big9 (by omega)
      have hlr := hrow.len
      have g1 : (((colsN hs m i).take n).flatMap (nextC hs m i)).length ≤ n * m := by
        refine Nat.le_trans (flat_le _ m _ fun x _ => next_len ..) (Nat.mul_le_mul_right m ?_)
        rw [List.length_take]; omega
      have g2 : n * m + m ≤ 823543 := by
        have a : n + 1 ≤ m ^ i := by omega
        have b : (n + 1) * m ≤ m ^ (i + 1) := by rw [Nat.pow_succ]; exact Nat.mul_le_mul_right m a
        rw [Nat.add_mul, Nat.one_mul] at b
        omega
      simp [hb9]
      refine forF_rng (fun c => [some (cH.e hs), some (cN.e m), some ((cL (cT cN)).e (colsN hs m i)), some ((cL (cP cN cN)).e (pairsN hs)), some (cN.e i), some ((cL (cT cN)).e (((colsN hs m i).take n).flatMap (nextC hs m i) ++ ((List.range c).filter fun c => decide (okC hs i (colsN hs m i)[n] c)).map fun c => (colsN hs m i)[n] ++ [c])), some ((cT cN).e (colsN hs m i)[n]), none, none, none]) (by simp) (fun c hc => ?_) ?_
      · have g3 : (((List.range c).filter fun c => decide (okC hs i (colsN hs m i)[n] c)).map fun c => (colsN hs m i)[n] ++ [c]).length ≤ c := by
          rw [List.length_map]
          exact Nat.le_trans (List.length_filter_le _ _) (by rw [List.length_range]; exact Nat.le_refl _)
        have g4 : (((colsN hs m i).take n).flatMap (nextC hs m i) ++ ((List.range c).filter fun c => decide (okC hs i (colsN hs m i)[n] c)).map fun c => (colsN hs m i)[n] ++ [c]).length < line := by
          rw [List.length_append]
          exact lt_line (by omega)
        generalize hacc : ((colsN hs m i).take n).flatMap (nextC hs m i) ++ ((List.range c).filter fun c => decide (okC hs i (colsN hs m i)[n] c)).map (fun c => (colsN hs m i)[n] ++ [c]) = acc at g4
        have hacc2 : ((colsN hs m i).take n).flatMap (nextC hs m i) ++ ((List.range (c + 1)).filter fun c => decide (okC hs i (colsN hs m i)[n] c)).map (fun c => (colsN hs m i)[n] ++ [c]) = if okC hs i (colsN hs m i)[n] c then acc ++ [(colsN hs m i)[n] ++ [c]] else acc := by
          rw [List.range_succ, List.filter_append, List.map_append, ← List.append_assoc, hacc]
          by_cases g : okC hs i (colsN hs m i)[n] c
          · rw [if_pos g]; simp [g]
          · rw [if_neg g]; simp [g]
        rw [hacc2]
        generalize (colsN hs m i)[n] = row at hrow hlr
        simp
        refine gd_fin2 (fun a b hab hbi => by have := (pr_lt hab).1; rw [hlr, ← hbi]; exact this) ?_
        rw [loopW_ifB]
        have hl : (((pairsN hs).filter fun x => decide (x.2 = i)).map fun x => !decide (row[x.1]?.getD 0 = c)).length ≤ line := by rw [List.length_map]; exact ln_filter hpl
        simp only [lstR_g, gd_ok hl, R.ok_bind, all_L, asB_bool]
        generalize hb : List.all _ _ = b
        have eb : b = decide (okC hs i row c) := by
          rw [← hb, Bool.eq_iff_iff, decide_eq_true_iff, List.all_eq_true]
          constructor
          · intro h e he hei
            have := h _ (List.mem_map.mpr ⟨e, List.mem_filter.mpr ⟨he, decide_eq_true hei⟩, rfl⟩)
            simpa using this
          · intro h z hz
            obtain ⟨e, he, rfl⟩ := List.mem_map.mp hz
            obtain ⟨h1, h2⟩ := List.mem_filter.mp he
            have := h e h1 (of_decide_eq_true h2)
            simpa using this
        rw [eb]
        have r1 : row.length ≤ line := line_of (by omega)
        have r2 : row.length + 1 ≤ line := line_of (by omega)
        by_cases g : okC hs i row c
        · rw [decide_eq_true g, R.tf_true, if_pos g]
          simp [r1, r2, g4]
        · rw [decide_eq_false g, R.tf_false, if_neg g]
      · simp
        rw [take_snoc _ hn, List.flatMap_append, List.flatMap_singleton]
        rfl
    · simp [colsN]
  · simp
theorem w_count_colourings (hk : 5 ≤ k) {hs : Hands} (H : Ok hs) {m : Nat} (hm : m ≤ 4) : callD PM k 167 [cH.e hs, cN.e m] = .ok (cN.e (colsN hs m hs.length).length, []) := by
  obtain ⟨j, rfl⟩ : ∃ j, k = j + 5 := ⟨k - 5, by omega⟩
  rw [call_s p_count_colourings rfl]
  simp [d_count_colourings, w_need_hands _ H, w_is_in, hm, w_colourings _ H (show m ≤ 7 by omega)]
/-- the fewest colours -/
structure Least (hs : Hands) (L : Nat) : Prop where
  pos : 1 ≤ L
  le : L ≤ hs.length
  has : colsN hs L hs.length ≠ []
  min : ∀ m, 1 ≤ m → m < L → colsN hs m hs.length = []
theorem w_least_colours (hk : 5 ≤ k) {hs : Hands} (H : Ok hs) : ∃ L, Least hs L ∧ callD PM k 166 [cH.e hs] = .ok (cN.e L, []) := by
  obtain ⟨j, rfl⟩ : ∃ j, k = j + 5 := ⟨k - 5, by omega⟩
  have hle := H.le
  have hpos := H.pos
  have hid : colsN hs hs.length hs.length ≠ [] := cols_proper.mpr ⟨id, proper_id hs⟩
  have key : Ex (callD PM (j + 5) 166 [cH.e hs]) fun r => ∃ L, Least hs L ∧ r = (cN.e L, []) := by
    rw [call_s p_least_colours rfl]
    simp [d_least_colours, w_need_hands _ H]
    rw [ss_whl _ _ rfl]
    simp only [R.assoc]
    refine whl_Ex (σ := Nat) (fun m => [some (cH.e hs), some (cN.e m)]) (fun m => decide (colsN hs m hs.length = [])) (fun m => m + 1) (fun m => hs.length - m) (fun m => 1 ≤ m ∧ m ≤ hs.length ∧ ∀ m', 1 ≤ m' → m' < m → colsN hs m' hs.length = []) 1 rfl ⟨Nat.le_refl _, hpos, fun m' h1 h2 => absurd h1 (by omega)⟩ ?_ ?_ ?_ ?_ ?_
    · show hs.length - 1 < 100000
      omega
    · rintro m ⟨h1, h2, _⟩
      simp [w_colourings _ H (show m ≤ 7 by omega)]
    · rintro m ⟨h1, h2, _⟩ hg
      simp [aug_N]
    · rintro m ⟨h1, h2, h3⟩ hg
      have hg := of_decide_eq_true hg
      have hmn : m ≠ hs.length := fun e => hid (e ▸ hg)
      refine ⟨⟨by omega, by omega, fun m' g1 g2 => ?_⟩, by omega⟩
      by_cases e : m' = m
      · rw [e]; exact hg
      · exact h3 m' g1 (by omega)
    · rintro m ⟨h1, h2, h3⟩ hg
      have hg := of_decide_eq_false hg
      simp
      exact ⟨m, ⟨h1, h2, hg, h3⟩, rfl⟩
  obtain ⟨r, e, L, hL, rfl⟩ := key
  exact ⟨L, hL, e⟩
/-! ### bounds -/
theorem least_le {hs : Hands} {L m : Nat} (h : Least hs L) (hm : 1 ≤ m) {f : Nat → Nat} (hf : Proper hs m f) : L ≤ m := Nat.le_of_not_lt fun z => cols_proper.mpr ⟨f, hf⟩ (h.min m hm z)
/-- a club wants as many colours -/
theorem club_colours {hs : Hands} {S : List Nat} {m : Nat} {f : Nat → Nat} (hS : Ppl hs.length S) (hc : clubN hs S) (hf : Proper hs m f) : S.length ≤ m := by
  have h1 : (S.map f).Nodup := by
    rw [List.Nodup, List.pairwise_map]
    refine List.Pairwise.imp_of_mem (fun {a b} ha hb hab e => ?_) hS.asc
    exact hf.2 (a, b) (hc a ha b hb hab) e
  have h2 := nd_sub h1 (m := List.range m) fun x hx => by
    obtain ⟨a, ha, rfl⟩ := List.mem_map.mp hx
    exact List.mem_range.mpr (hf.1 a (hS.lt a ha))
  rwa [List.length_map, List.length_range] at h2
/-- a number below that is not in a list -/
theorem free_below (l : List Nat) : ∃ c, c ≤ l.length ∧ c ∉ l := Classical.byContradiction fun h => by
  have h1 : ∀ c ∈ List.range (l.length + 1), c ∈ l := fun c hc => Classical.byContradiction fun z => h ⟨c, by have := List.mem_range.mp hc; omega, z⟩
  have := nd_sub List.nodup_range h1
  rw [List.length_range] at this
  omega
/-- one after another, each takes the first colour that no neighbor has -/
theorem greedy {hs : Hands} {D : Nat} (hD : ∀ p, p < hs.length → (nearN hs p).length ≤ D) : ∀ i, i ≤ hs.length → colsN hs (D + 1) i ≠ []
  | 0, _ => by simp [colsN]
  | i + 1, hi => by
    obtain ⟨row, hr⟩ := List.exists_mem_of_ne_nil _ (greedy hD i (by omega))
    obtain ⟨c, hc, hn⟩ := free_below ((nearN hs i).map fun q => row[q]?.getD 0)
    rw [List.length_map] at hc
    have hd := hD i (by omega)
    refine List.ne_nil_of_mem (List.mem_flatMap.mpr ⟨row, hr, List.mem_map.mpr ⟨c, List.mem_filter.mpr ⟨List.mem_range.mpr (by omega), decide_eq_true fun e he hei g => ?_⟩, rfl⟩⟩)
    obtain ⟨p1, p2, p3⟩ := mem_pairs.mp (show (e.1, e.2) ∈ pairsN hs from he)
    refine hn (List.mem_map.mpr ⟨e.1, mem_near.mpr ⟨by omega, by omega, ?_⟩, g⟩)
    rw [← hei, share_comm]
    exact p3
theorem least_most {hs : Hands} (H : Ok hs) {L : Nat} (h : Least hs L) : L ≤ mostLN hs + 1 := by
  have hD : ∀ p, p < hs.length → (nearN hs p).length ≤ mostLN hs := fun p hp => by
    have := mxL_le cN (List.mem_map.mpr ⟨p, List.mem_range.mpr hp, rfl⟩ : (nearN hs p).length ∈ linksN hs)
    rw [ltc_N, decide_eq_false_iff_not] at this
    exact Nat.le_of_not_lt this
  obtain ⟨f, hf⟩ := cols_proper.mp (greedy hD hs.length (Nat.le_refl _))
  exact least_le h (by omega) hf
theorem club_least {hs : Hands} {L : Nat} (h : Least hs L) : sizeL (fullN hs) ≤ L := by
  obtain ⟨f, hf⟩ := cols_proper.mp h.has
  have hsz : sizeL (fullN hs) ∈ (fullN hs).map List.length := mxL_mem cN fun e => full_ne (List.map_eq_nil_iff.mp e)
  obtain ⟨S, hS, e⟩ := List.mem_map.mp hsz
  obtain ⟨h1, h2⟩ := mem_allClubs.mp (List.mem_filter.mp hS).1
  rw [← e]
  exact club_colours h1 h2 hf
end
end Ev
end

section
set_option linter.all false
set_option autoImplicit false
set_option maxRecDepth 10000
namespace Ev
open T
open PySem (Str PyData)
def d_law20 : Def := { ps := 1, n := 17, io := [], body :=
  (.cons (.asg 1 (.lst (.cons (.var 0) (.cons (.con (.int 0)) (.cons (.con (.int 9720)) (.cons (.con (.int 0)) .nil))))))
   (.cons (.asg 2 (.call 307 (.io 1 (.cons (.con (.int 6)) (.cons (.con (.int 8)) .nil)))))
   (.cons (.par [5, 6] (.cons (.call 311 (.cons (.var 2) .nil)) (.tmp (.lst .nil) .nil)))
   (.cons (.for_ [6, 1] [3, 7, 8, 11, 12, 13] (.var 3) (.rng1 (.con (.int 5)))
    (.cons (.asg 7 (.lst (.cons (.tup .nil) .nil)))
     (.cons (.for_ [7, 6, 1] [8, 11, 12, 13] (.var 8) (.rng1 (.blt .len (.cons (.var 2) .nil)))
      (.cons (.asg 11 (.lst .nil))
       (.cons (.for_ [11, 6, 1] [12, 13] (.var 12) (.expr (.var 7))
        (.cons (.asg 13 (.comp [14, 15] (.cons [14, 15] (.tup [14, 15]) (.expr (.var 5)) (.some (.cmp .eq (.var 15) (.var 8))) .nil) (.idx (.var 12) (.var 14))))
         (.cons (.asg 11 (.bin .add (.var 11) (.comp [16] (.cons [16] (.var 16) (.rng1 (.var 3)) (.some (.cmp .nin (.var 16) (.var 13))) .nil) (.bin .add (.var 12) (.tup (.cons (.var 16) .nil)))))) .nil)))
       (.cons (.move 7 11) .nil))))
     (.cons (.app 6 (.blt .len (.cons (.var 7) .nil)))
     (.cons (.ite (.not (.call 306 (.cons (.call 167 (.cons (.var 2) (.cons (.var 3) .nil))) (.cons (.blt .len (.cons (.var 7) .nil)) .nil))))
      (.cons (.ret (.con (.bool false))) .nil)
      .nil) .nil)))))
   (.cons (.par [9, 10] (.cons (.call 166 (.cons (.var 2) .nil)) (.cons (.idx (.call 161 (.cons (.var 2) .nil)) (.con (.int 0))) .nil)))
   (.cons (.ite (.not (.chain .le .le (.var 10) (.var 9) (.bin .add (.blt .max (.cons (.call 156 (.cons (.var 2) .nil)) .nil)) (.con (.int 1)))))
    (.cons (.ret (.con (.bool false))) .nil)
    .nil)
   (.cons (.asg 4 (.comp [3] (.cons [3] (.var 3) (.rng1 (.con (.int 5))) (.some (.cmp .gt (.idx (.var 6) (.var 3)) (.con (.int 0)))) .nil) (.var 3)))
   (.cons (.ret (.ite (.cmp .eq (.var 4) (.lst .nil)) (.cmp .gt (.var 9) (.con (.int 4))) (.call 306 (.cons (.var 9) (.cons (.idx (.var 4) (.con (.int 0))) .nil))))) .nil)))))))) }
theorem range_5 : List.range 5 = [0, 1, 2, 3, 4] := rfl
theorem plain20 (ns : List Int) (hn : ns.length ≤ 63) : runD (callD PM 59) d_law20 [.list (ns.map .int)] = .ok (.bool true, []) := by
  refine Ex.eq ?_
  rw [run_eq rfl]
  have hr0 : RowOk (.list [.list (ns.map .int), cN.e 0, .int 9720, cN.e 0]) := ⟨ns, 0, 9720, 0, rfl, hn, by omega, by omega, by omega⟩
  simp [d_law20, lstR_4]
  refine hands_Ex (by omega) hr0 (by omega) (by omega) (by omega) fun hs r1 hD hr1 => ?_
  have H := hD.ok (by omega) (by omega)
  have hle := H.le
  have hpl : (pairsN hs).length ≤ line := line_of (by have := pairs_21 H.le; omega)
  have h5 : 5 ≤ big9 := le_big9 (by omega)
  simp [w__law_pairs _ H, h5]
  refine forF_rngY (fun m => [some (.list (ns.map .int)), some r1, some (cH.e hs), none, none, some ((cL (cP cN cN)).e (pairsN hs)), some ((cL cN).e ((List.range m).map fun m => (colsN hs m hs.length).length)), none, none, none, none, none, none, none, none, none, none]) rfl (fun m hm => ?_) ?_
  · have hm7 : m ≤ 7 := by omega
    simp [H.le9]
    refine forF_rng (fun i => [some (.list (ns.map .int)), some r1, some (cH.e hs), some (cN.e m), none, some ((cL (cP cN cN)).e (pairsN hs)), some ((cL cN).e ((List.range m).map fun m => (colsN hs m hs.length).length)), some ((cL (cT cN)).e (colsN hs m i)), none, none, none, none, none, none, none, none, none]) rfl (fun i hi => ?_) ?_
    · have hcl := cols_len hs m i
      have hcl2 := cols_len hs m (i + 1)
      have hp1 := pow_77 hm7 (show i + 1 ≤ 7 by omega)
      simp
      refine forF_idxB (cT cN) (fun n => [some (.list (ns.map .int)), some r1, some (cH.e hs), some (cN.e m), none, some ((cL (cP cN cN)).e (pairsN hs)), some ((cL cN).e ((List.range m).map fun m => (colsN hs m hs.length).length)), some ((cL (cT cN)).e (colsN hs m i)), some (cN.e i), none, none, some ((cL (cT cN)).e (((colsN hs m i).take n).flatMap (nextC hs m i))), none, none, none, none, none]) rfl (fun n hn => ?_) ?_
      · have hrow : Col hs m i (colsN hs m i)[n] := mem_cols.mp (List.getElem_mem hn)
        have hb9 : m ≤ big9 := le_big9 (by omega)
        have hlr := hrow.len
        have hl1 : (((colsN hs m i).take n).flatMap (nextC hs m i)).length ≤ n * m := by
          refine Nat.le_trans (flat_le _ m _ fun x _ => next_len ..) (Nat.mul_le_mul_right m ?_)
          rw [List.length_take]; omega
        have g2 : n * m + m ≤ 823543 := by
          have a : n + 1 ≤ m ^ i := by omega
          have b : (n + 1) * m ≤ m ^ (i + 1) := by rw [Nat.pow_succ]; exact Nat.mul_le_mul_right m a
          rw [Nat.add_mul, Nat.one_mul] at b
          omega
        have enx : ((colsN hs m i).take (n + 1)).flatMap (nextC hs m i) = ((colsN hs m i).take n).flatMap (nextC hs m i) ++ nextC hs m i (colsN hs m i)[n] := by rw [take_snoc _ hn, List.flatMap_append, List.flatMap_singleton]
        have hnl := next_len hs m i (colsN hs m i)[n]
        rw [enx]
        generalize (colsN hs m i)[n] = row at hrow hlr hnl
        simp [hb9]
        refine gd_fin2 (fun a b hab hbi => by have := (pr_lt hab).1; rw [hlr, ← hbi]; exact this) (gd_fin2 (ln_filter hpl) (gd_fin2 (fun x _ _ => line_of (by omega)) ?_))
        have ef : (List.range m).filter (fun x => !decide (x ∈ List.map (fun x => row[x.fst]?.getD 0) (List.filter (fun x => decide (x.snd = i)) (pairsN hs)))) = (List.range m).filter fun c => decide (okC hs i row c) := List.filter_congr fun c _ => by
          rw [← decide_not]
          refine decide_eq_decide.mpr ⟨fun h e he hei z => h (List.mem_map.mpr ⟨e, List.mem_filter.mpr ⟨he, decide_eq_true hei⟩, z⟩), fun h z => ?_⟩
          obtain ⟨e, he, z⟩ := List.mem_map.mp z
          obtain ⟨h1, h2⟩ := List.mem_filter.mp he
          exact h e h1 (of_decide_eq_true h2) z
        rw [ef]
        have hl2 : ((List.range m).filter fun c => decide (okC hs i row c)).length ≤ m := Nat.le_trans (List.length_filter_le _ _) (by rw [List.length_range]; exact Nat.le_refl _)
        have hl3 := hl1
        simp at hl3
        exact gd_fin2 (line_of (by omega)) (gd_fin2 (line_of (by omega)) rfl)
      · simp [colsN]
    · simp
      refine gd_fin2 (lt_line (by omega)) ?_
      simp [w_count_colourings _ H (show m ≤ 4 by omega), alk_N, List.range_succ]
  obtain ⟨L, hL, eL⟩ := w_least_colours (k := 59) (by omega) H
  have hge : linksN hs ≠ [] := links_ne H
  have c1 := club_least hL
  have c2 := least_most H hL
  have em : mxL cN (linksN hs) = mostLN hs := rfl
  simp [eL, w_greatest_club _ H, w_link_counts _ H, max_Tc cN (fun _ => rfl) hge, em, c1, c2]
  have hz : ∀ m, 0 < (colsN hs m hs.length).length ↔ L ≤ m := fun m => by
    have hpos := H.pos
    rw [List.length_pos_iff]
    constructor
    · intro h
      refine Nat.le_of_not_lt fun z => ?_
      by_cases e0 : m = 0
      · have := cols_len hs m hs.length
        rw [e0, Nat.zero_pow hpos] at this
        rw [e0] at h
        exact h (List.eq_nil_of_length_eq_zero (Nat.le_zero.mp this))
      · exact h (hL.min m (by omega) z)
    · intro h
      obtain ⟨f, hf⟩ := cols_proper.mp hL.has
      exact cols_proper.mpr ⟨f, proper_mono hf h⟩
  have hv : ∀ x, 0 < (Option.map (fun m => (colsN hs m (List.length hs)).length) (List.range 5)[x]?).getD 0 ↔ x < 5 ∧ L ≤ x := fun x => by
    by_cases h : x < 5
    · rw [List.getElem?_eq_getElem (by rw [List.length_range]; exact h), List.getElem_range]
      show 0 < (colsN hs x hs.length).length ↔ _
      rw [hz]
      exact ⟨fun g => ⟨h, g⟩, fun g => g.2⟩
    · rw [List.getElem?_eq_none (by rw [List.length_range]; omega)]
      exact ⟨fun g => absurd g (Nat.lt_irrefl 0), fun g => absurd g.1 h⟩
  have hv0 : ∀ x, (Option.map (fun m => (colsN hs m (List.length hs)).length) (List.range 5)[x]?).getD 0 = 0 ↔ ¬ (x < 5 ∧ L ≤ x) := fun x => by
    rw [← hv]; omega
  refine Ex.gd h5 ?_
  have hq : ∀ {d : Decidable (∀ a : Nat, a < 5 → (Option.map (fun m => (colsN hs m (List.length hs)).length) (List.range 5)[a]?).getD 0 = 0)}, @decide _ d = decide (4 < L) := fun {d} => decide_eq_decide.mpr ⟨fun h => Nat.lt_of_not_le fun z => (hv0 4).mp (h 4 (by omega)) ⟨by omega, z⟩, fun h a ha => (hv0 a).mpr fun z => by omega⟩
  rw [hq]
  simp only [hv]
  by_cases h4 : L ≤ 4
  · rw [decide_eq_false (by omega), R.tf_false]
    refine Ex.gd ⟨4, by omega, by omega, h4⟩ ?_
    have hp := hL.pos
    have ef : (List.filter (fun x => decide (x < 5 ∧ L ≤ x)) (List.range 5))[0]?.getD 0 = L := by
      have : L = 1 ∨ L = 2 ∨ L = 3 ∨ L = 4 := by omega
      rcases this with h | h | h | h <;> rw [h] <;> decide
    rw [ef, alk_N (by omega)]
    simp
  · rw [decide_eq_true (by omega), R.tf_true]
    simp [show 4 < L by omega]
end Ev
end
section
set_option Elab.async false
set_option linter.all false
set_option maxRecDepth 100000
set_option maxHeartbeats 0
namespace LW
open PySem PySem.Spec PyProof.Rows L2 Ev
def top (i : Nat) : Stmt := PySem.Challenge.pw_lastholders_k20_whole_colours.main.body.getD i (.Pass ⟨0, 0, 0, 0⟩)
def mkS (id : Nat) (x : Str) (i : Nat) (ps N : List Str) (D : Def) : Src := ⟨id, x, N, ps, D, defArgs (top i), defBody (top i), defScope (top i)⟩
def s_is_integer : Src := mkS 34 "is_integer" 1 ["value"] ["value"] Ev.T.d_is_integer
def s_is_in : Src := mkS 35 "is_in" 2 ["value", "least", "most"] ["value", "least", "most"] Ev.T.d_is_in
def s_is_list : Src := mkS 36 "is_list" 3 ["value", "least", "most"] ["value", "least", "most"] Ev.T.d_is_list
def s_is_hand : Src := mkS 112 "is_hand" 11 ["value"] ["value", "thing"] Ev.T.d_is_hand
def s_need_hands : Src := mkS 113 "need_hands" 12 ["hands"] ["hands", "index", "hand"] Ev.T.d_need_hands
def s_pairs_in : Src := mkS 128 "pairs_in" 13 ["hands"] ["hands", "found", "one", "other", "thing"] Ev.T.d_pairs_in
def s_linked_to : Src := mkS 155 "linked_to" 15 ["hands", "person"] ["hands", "person", "found", "one", "other"] Ev.T.d_linked_to
def s_link_counts : Src := mkS 156 "link_counts" 16 ["hands"] ["hands", "person"] Ev.T.d_link_counts
def s_clubs : Src := mkS 159 "clubs" 17 ["hands"] ["hands", "person", "found", "some", "row", "one", "other"] Ev.T.d_clubs
def s_is_part : Src := mkS 160 "is_part" 18 ["row", "other"] ["row", "other", "person"] Ev.T.d_is_part
def s_greatest_club : Src := mkS 161 "greatest_club" 19 ["hands"] ["hands", "many", "row"] Ev.T.d_greatest_club
def s_colourings : Src := mkS 165 "colourings" 20 ["hands", "many"] ["hands", "many", "found", "some", "person", "later", "row", "colour", "one", "other"] Ev.T.d_colourings
def s_least_colours : Src := mkS 166 "least_colours" 21 ["hands"] ["hands", "many"] Ev.T.d_least_colours
def s_count_colourings : Src := mkS 167 "count_colourings" 22 ["hands", "many"] ["hands", "many"] Ev.T.d_count_colourings
def s__law_taken : Src := mkS 305 "_law_taken" 24 ["_law_row", "_law_many"] ["_law_row", "_law_many", "_law_cell", "_law_found"] Ev.T.d__law_taken
def s__law_alike : Src := mkS 306 "_law_alike" 25 ["_law_found", "_law_due"] ["_law_found", "_law_due", "_law_k"] Ev.T.d__law_alike
def s__law_hands : Src := mkS 307 "_law_hands" 26 ["_law_row", "_law_people", "_law_kinds"] ["_law_row", "_law_people", "_law_kinds", "_law_rare", "_law_person", "_law_many", "_law_size", "_law_found", "_law_thing"] Ev.T.d__law_hands
def s__law_pairs : Src := mkS 311 "_law_pairs" 27 ["_law_hands_here"] ["_law_hands_here", "_law_found", "_law_one", "_law_other", "_law_thing"] Ev.T.d__law_pairs
def s_law : Src := mkS 310 "law" 28 ["_law_script"] ["_law_script", "_law_row", "_law_hands_here", "_law_many", "_law_good", "_law_pairs_here", "_law_counts", "_law_found", "_law_person", "_law_least", "_law_size", "_law_later", "_law_part", "_law_taken_here", "_law_one", "_law_other", "_law_colour"] Ev.d_law20
def srcs : List Src := [s_is_integer, s_is_in, s_is_list, s_is_hand, s_need_hands, s_pairs_in, s_linked_to, s_link_counts, s_clubs, s_is_part, s_greatest_club, s_colourings, s_least_colours, s_count_colourings, s__law_taken, s__law_alike, s__law_hands, s__law_pairs, s_law]
def gs : List (Str × AV) := [("MOST_PEOPLE", (.int 7)), ("MOST_THINGS", (.int 8))]
def P : Tab := tabOf srcs gs
def ids : List Nat := [34, 35, 36, 112, 113, 128, 155, 156, 159, 160, 161, 165, 166, 167, 305, 306, 307, 311]
theorem same : AllL (fun f => P f = PM f) ids := ⟨rfl, rfl, rfl, rfl, rfl, rfl, rfl, rfl, rfl, rfl, rfl, rfl, rfl, rfl, rfl, rfl, rfl, rfl, trivial⟩
theorem used : usT P ids = true := by kernel_rfl
theorem used_law : usSs (inL ids) Ev.d_law20.body = true := by kernel_rfl
theorem bnd : AllB srcs := ⟨fun _ _ _ _ _ _ us hl => match us, hl with | [_], _ => rfl, fun _ _ _ _ _ _ us hl => match us, hl with | [_, _, _], _ => rfl, fun _ _ _ _ _ _ us hl => match us, hl with | [_, _, _], _ => rfl, fun _ _ _ _ _ _ us hl => match us, hl with | [_], _ => rfl, fun _ _ _ _ _ _ us hl => match us, hl with | [_], _ => rfl, fun _ _ _ _ _ _ us hl => match us, hl with | [_], _ => rfl, fun _ _ _ _ _ _ us hl => match us, hl with | [_, _], _ => rfl, fun _ _ _ _ _ _ us hl => match us, hl with | [_], _ => rfl, fun _ _ _ _ _ _ us hl => match us, hl with | [_], _ => rfl, fun _ _ _ _ _ _ us hl => match us, hl with | [_, _], _ => rfl, fun _ _ _ _ _ _ us hl => match us, hl with | [_], _ => rfl, fun _ _ _ _ _ _ us hl => match us, hl with | [_, _], _ => rfl, fun _ _ _ _ _ _ us hl => match us, hl with | [_], _ => rfl, fun _ _ _ _ _ _ us hl => match us, hl with | [_, _], _ => rfl, fun _ _ _ _ _ _ us hl => match us, hl with | [_, _], _ => rfl, fun _ _ _ _ _ _ us hl => match us, hl with | [_, _], _ => rfl, fun _ _ _ _ _ _ us hl => match us, hl with | [_, _, _], _ => rfl, fun _ _ _ _ _ _ us hl => match us, hl with | [_], _ => rfl, fun _ _ _ _ _ _ us hl => match us, hl with | [_], _ => rfl, trivial⟩
theorem chk : srcs.all (srcB P) = true := by kernel_rfl
abbrev hk : PySem.W.Hook := hookX 4 srcs gs
abbrev R : PySem.W.OpenRow := PySem.W.OpenLaw.row PySem.Challenge.rw_lastholders_k20_whole_colours
def ob (s : PySem.W.SharedT) : He.AlD := obsXG 4 srcs gs (HandSHeadRun.getT s)
theorem ob_eq (s : PySem.W.SharedT) : ob s = hk.obs s.abs := obsXG_eq (HandSHeadRun.getT_eq s)
def loose : List Str := (["is_integer", "is_in", "is_list", "HoldError", "BadHands", "BadNumber", "MOST_PEOPLE", "MOST_THINGS", "is_hand", "need_hands", "pairs_in", "linked_to", "link_counts", "clubs", "is_part", "greatest_club", "colourings", "least_colours", "count_colourings", "_law_taken", "_law_alike", "_law_hands", "_law_pairs"] : List Str)
theorem run (w : World) : HandSHeadRun.RunEq R (PySem.W.view R.prog [28]) hk ob 8000 loose w := by
  intro os
  kernel_rfl
theorem plain (ns : List Int) (h : ns.length ≤ 63) : callD P 60 s_law.id [.list (ns.map .int)] = .ok (.bool true, []) := (bridge (P := P) (P' := PM) (D := Ev.d_law20) same used used_law rfl _).trans (Ev.plain20 ns h)
end LW
end
open PySem PySem.W PySem.Calls PyProof.Rows
theorem PySem.Challenge.cw_lastholders_k20_whole_colours_holds : PySem.Challenge.rw_lastholders_k20_whole_colours.Holds := by
  w_on; o_law
  refine HandSHeadRun.head_any (r := LW.R) (q := view LW.R.prog [28]) (H := LW.hk) (ob := LW.ob) (M := 8000) (loose := LW.loose) (d := HandSHeadRun.topDef LW.R.prog 28) (kwd := []) LW.ob_eq
    (by kernel_rfl) (fun s => by kernel_rfl) LW.run (by kernel_rfl) (by kernel_rfl) (by kernel_rfl) (by rfl) (by first | assumption | decide +kernel) (by decide +kernel) ⟨rfl, rfl, rfl, rfl, rfl, by decide +kernel⟩ ?hw ?hc
  case hw => w_witness2
  case hc =>
    refine Ev.walk_ofX (l := PySem.Challenge.rw_lastholders_k20_whole_colours) (n := 63) (k := 60) (x := "_law_script") rfl (by decide) (by kernel_rfl) ⟨rfl, by decide, by decide⟩ LW.plain ?F
    intro w mg fa h Y G hmg0
    obtain ⟨K, KX, c⟩ := Y
    have hmg : mg ("law" : PySem.Str) = some (.ref fa) := by
      have e : (HandSHeadRun.topDef LW.R.prog 28).name = ("law" : PySem.Str) := by kernel_rfl
      rw [← e]
      exact hmg0
    obtain ⟨fd, hb, hF⟩ := Ev.law_facts (srcs := LW.srcs) (gs := LW.gs) (e0 := LW.s_law) (x := "_law_script") (prog := PySem.Challenge.rw_lastholders_k20_whole_colours.prog) (w := w) (k := 59) KX G c LW.bnd LW.chk rfl rfl rfl (by simp [LW.srcs]) hmg
    exact ⟨K, fd, KX, hb, hF⟩
