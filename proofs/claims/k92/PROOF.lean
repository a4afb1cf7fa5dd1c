import PyProof.Rows.All
import Wide.All
import OpenK.AllK
import Wide.FinOn
import KE.KStateDown
import Lean
import HandS.Base
import HandS.Call
import HandS.Ends
import HandS.More
import HandS.Words
import HandS.WordsExc
import HandS.Defaults
import PySem.PyData
import PyProof.P3Statements
import KE.LtData
import KE.DataEq
import HandS.ForMost
import HandS.Walk
import KE.KeyNested
import KE.KDictCopyH
import HandS.Dict
import HandS.Conv
import HandS.Small
import KE.KDictKeyed
import PyProof.Rows.TupDisplay
import HandS.TupAny
import HandS.TupMul
import HandS.Wide
import KE.DataFind
import KE.DataMinMax
import KE.DataAny
import KE.DataCmp
import KE.SortData
import HandS.DictEq
import HandS.Star
import HandS.Iter
import KE.KDictWalk
import KE.KDictLaw
import HandS.Comp
import HandS.DictComp
import HandS.Style
import HandS.Codes
import KE.KTupSum
import HandS.IsInst
import HandS.Deep
import HandS.StrMore
import KE.KDictItemsList
import HandS.DictTup
import KE.GoesMore
import HandS.Strs
import HandS.SetFor
import HandS.TupSets
import HandS.Head0
import HandS.Head1
import HandS.Head2
import HandS.HeadEnd
import HandS.HeadHook1
import HandS.HeadHook2
import PySem.Challenge.RW_lastholders_k92_whole_end_by_waits
set_option Elab.async false
set_option linter.all false
set_option maxRecDepth 100000
set_option maxHeartbeats 0
section
set_option linter.all false
set_option autoImplicit false
/-! Ev0: a small language without positions, its values (PyData), a big-step evaluator with value semantics. -/
namespace Ev
open PySem (Str PyData)
abbrev AV := PyData
/-- what a run ends with -/
inductive R (α : Type) where
  | ok (a : α) | exc (c : Str) (args : List AV) | bad
namespace R
@[inline] def bind {α β : Type} : R α → (α → R β) → R β
  | .ok a, f => f a
  | .exc c as, _ => .exc c as
  | .bad, _ => .bad
instance : Monad R where
  pure := .ok
  bind := R.bind
theorem nrfl0 {α : Sort _} {a b : α} (h : a = b) : a = b := h
@[simp] theorem ok_bind {α β : Type} (a : α) (f : α → R β) : ((R.ok a : R α) >>= f) = f a := nrfl0 rfl
@[simp] theorem exc_bind {α β : Type} (c : Str) (as : List AV) (f : α → R β) : ((R.exc c as : R α) >>= f) = .exc c as := nrfl0 rfl
@[simp] theorem bad_bind {α β : Type} (f : α → R β) : ((R.bad : R α) >>= f) = .bad := nrfl0 rfl
@[simp] theorem pure_ok {α : Type} (a : α) : (pure a : R α) = .ok a := nrfl0 rfl
theorem bind_eq_ok {α β : Type} {x : R α} {f : α → R β} {b : β} (h : (x >>= f) = .ok b) : ∃ a, x = .ok a ∧ f a = .ok b := by
  cases x with
  | ok a => exact ⟨a, rfl, h⟩
  | exc c as => cases h
  | bad => cases h
end R
abbrev Env := List (Option AV)
def line : Nat := 16777216
/-- a value where it may be as long as the machine has it -/
def lstR (xs : List AV) : R AV := if xs.length ≤ line then .ok (.list xs) else .bad
def tupR (xs : List AV) : R AV := if xs.length ≤ line then .ok (.tuple xs) else .bad
inductive Bop | add | sub | mul | fdiv | mod | pow deriving DecidableEq
inductive Cop | eq | ne | lt | le | gt | ge | isN | notN | in_ | nin | isB deriving DecidableEq
inductive Blt | len | sum | all | any | min | max | min2 | max2 | sorted | list | tuple | int | abs | str | sset | lset | dict
  | isInt | isBool | isTup | isStr | isTL | isList | lrng1 | lrng2 | trng1 | trng2 | lvals | litems | sitems | rev deriving DecidableEq
inductive Mth | index | count | get1 | get2 | join | split | replace deriving DecidableEq
inductive Tg | var (i : Nat) | tup (is : List Nat) deriving DecidableEq
mutual
inductive X
  | var (i : Nat) | con (a : AV)
  | bin (op : Bop) (a b : X) | neg (a : X) | not (a : X) | and (a b : X) | or (a b : X)
  | cmp (op : Cop) (a b : X) | chain (op op' : Cop) (a b c : X)
  | ite (c a b : X)
  | tup (es : Xs) | lst (es : Xs) | dict (es : Ds)
  | idx (a i : X) | slc (a : X) (lo hi : Ox)
  | comp (own : List Nat) (cs : Cs) (e : X) | dcomp (own : List Nat) (cs : Cs) (k v : X)
  | call (f : Nat) (es : Xs) | blt (f : Blt) (es : Xs) | meth (m : Mth) (o : X) (es : Xs)
  | pop (i : Nat) (e : Ox)
/-- arguments, items; star: spliced in; io: a name whose list or dict the callee may change; tmp: a new list or dict that the callee may change -/
inductive Xs | nil | cons (e : X) (r : Xs) | star (e : X) (r : Xs) | io (i : Nat) (r : Xs) | tmp (e : X) (r : Xs)
inductive Ox | none | some (e : X)
inductive Ds | nil | kv (k v : X) (r : Ds) | star (d : X) (r : Ds)
/-- the clauses of a comprehension; ws: forgotten at each turn -/
inductive Cs | nil | cons (ws : List Nat) (tg : Tg) (it : It) (c : Ox) (r : Cs)
inductive It | expr (e : X) | rng1 (a : X) | rng2 (a b : X) | enum (e : X) | items (e : X) | vals (e : X)
end
mutual
inductive S
  | asg (i : Nat) (e : X) | move (i j : Nat)
  | unp (is : List Nat) (e : X) | par (is : List Nat) (es : Xs)
  | seti (i : Nat) (k v : X) | app (i : Nat) (e : X) | ext (i : Nat) (e : X)
  | aug (i : Nat) (op : Bop) (e : X)
  | expr (e : X) | ret (e : X)
  | ite (c : X) (a b : Ss)
  | whl (inv ws : List Nat) (c : X) (b : Ss)
  | for_ (inv ws : List Nat) (tg : Tg) (it : It) (b : Ss)
  | raise | brk | cont | pass
inductive Ss | nil | cons (s : S) (r : Ss)
end
/-- how a statement ends -/
inductive Fl | nx (e : Env) | bk (e : Env) | ct (e : Env) | rt (v : AV) (e : Env)
structure Def where
  ps : Nat
  n : Nat
  io : List Nat
  body : Ss
/-! ### values -/
mutual
/-- x < y, for alike values -/
def ltD : AV → AV → Bool
  | .int a, .int b => decide (a < b)
  | .bool a, .bool b => !a && b
  | .str x, .str y => decide (x.cps.toList < y.cps.toList)
  | .tuple xs, .tuple ys => ltL xs ys
  | .list xs, .list ys => ltL xs ys
  | _, _ => false
def ltL : List AV → List AV → Bool
  | [], [] => false
  | [], _ :: _ => true
  | _ :: _, [] => false
  | x :: xs, y :: ys => if PyData.eqv x y then ltL xs ys else ltD x y
end
def alikeA (xs : List AV) : Bool := PyData.plainAll xs && xs.all fun x => xs.all fun y => PySem.W.alike x y
def isort : List AV → List AV
  | [] => []
  | x :: xs => insB x (isort xs)
where
  /-- put in its place: ahead of those that are not less -/
  insB (x : AV) : List AV → List AV
  | [] => [x]
  | y :: ys => if ltD y x then y :: insB x ys else x :: y :: ys
def dOk (a b : AV) : Bool := decide (Nat.min a.depth b.depth ≤ 48)
def dOk1 (a : AV) : Bool := decide (a.depth ≤ 48)
def tupNE : AV → Bool
  | .tuple (_ :: _) => true
  | _ => false
def notTup : AV → Bool
  | .tuple _ => false
  | .none => false
  | _ => true
def isTup0 : AV → Bool
  | .tuple _ => true
  | _ => false
def sortD (xs : List AV) : R AV := if alikeA xs && xs.all dOk1 && (xs.all isTup0 || xs.all notTup) then .ok (.list (isort xs)) else .bad
def minD' : AV → List AV → AV
  | b, [] => b
  | b, x :: xs => minD' (if ltD x b then x else b) xs
def maxD' : AV → List AV → AV
  | b, [] => b
  | b, x :: xs => maxD' (if ltD b x then x else b) xs
def isTup : AV → Bool
  | .tuple _ => true
  | _ => false
/-- a key: a number or a text -/
def leafK : AV → Bool
  | .int _ => true
  | .str _ => true
  | _ => false
mutual
/-- numbers, texts, tuples of such -/
def nestB : AV → Bool
  | .int _ => true
  | .str _ => true
  | .tuple ds => nestBs ds
  | _ => false
def nestBs : List AV → Bool
  | [] => true
  | d :: ds => nestB d && nestBs ds
end
/-- a key: a tuple -/
def tupKey : AV → Bool
  | .tuple ds => nestBs ds && decide (PyData.depthAll ds ≤ 7)
  | _ => false
/-- keys are of one kind: leaves, or tuples -/
def kindOk (kvs : List (AV × AV)) (k : AV) : Bool := match kvs with
  | [] => leafK k || tupKey k
  | (k0, _) :: _ => (leafK k0 && leafK k) || (tupKey k0 && tupKey k)
def dget (kvs : List (AV × AV)) (k : AV) : Option AV := match kvs with
  | [] => none
  | (a, v) :: r => if PyData.eqv a k then some v else dget r k
def dput (kvs : List (AV × AV)) (k v : AV) : List (AV × AV) := if (kvs.any fun p => PyData.eqv p.1 k) = true then kvs.map fun p => if PyData.eqv p.1 k = true then (p.1, v) else p else kvs ++ [(k, v)]
def dput' (kvs : List (AV × AV)) (k v : AV) : R (List (AV × AV)) := if kindOk kvs k && decide (kvs.length < line) then .ok (dput kvs k v) else .bad
def dputs : List (AV × AV) → List (AV × AV) → R (List (AV × AV))
  | kvs, [] => .ok kvs
  | kvs, (k, v) :: r => do dputs (← dput' kvs k v) r
def pairs? : List AV → Option (List (AV × AV))
  | [] => some []
  | .tuple [k, v] :: r => (pairs? r).map ((k, v) :: ·)
  | _ :: _ => none
/-- the entries of a comprehension: keys are numbers or texts -/
def dispL (vs : List AV) : R (List (AV × AV)) := match pairs? vs with
  | some kvs => if kvs.all (fun p => leafK p.1) then dputs [] kvs else .bad
  | none => .bad
/-! ### operators -/
def big : Int := 18446744073709551616
def smallI (i : Int) : Bool := decide (-big < i) && decide (i < big)
/-- numbers below 2 ^ 8000 -/
def wide (i : Int) : Bool := decide (i.natAbs.log2 < 8000)
def binop : Bop → AV → AV → R AV
  | .add, .int a, .int b => .ok (.int (a + b))
  | .add, .list a, .list b => lstR (a ++ b)
  | .add, .tuple a, .tuple b => tupR (a ++ b)
  | .add, .str a, .str b => if a.length + b.length ≤ line then .ok (.str (a ++ b)) else .bad
  | .sub, .int a, .int b => .ok (.int (a - b))
  | .mul, .int a, .int b => if smallI a || smallI b || (wide a && wide b) then .ok (.int (a * b)) else .bad
  | .mul, .list a, .int b => if decide (0 ≤ b) && decide (b < 1000) then lstR (List.flatten (List.replicate b.toNat a)) else .bad
  | .mul, .tuple a, .int b => if decide (-1000 ≤ b) && decide (b ≤ 1000) && decide (a.length ≤ 1000) then tupR (List.flatten (List.replicate b.toNat a)) else .bad
  | .fdiv, .int a, .int b => if decide (b ≠ 0) && decide (b.natAbs < 1073741824) then .ok (.int (a.fdiv b)) else if decide (0 < b) && wide a && wide b then .ok (.int (a.fdiv b)) else .bad
  | .mod, .int a, .int b => if decide (b ≠ 0) then .ok (.int (a.fmod b)) else .bad
  | .pow, .int a, .int b => if decide (0 ≤ b) && decide (b ≤ 1000) && smallI a then .ok (.int (a ^ b.toNat)) else .bad
  | _, _, _ => .bad
def isNone : AV → Bool
  | .none => true
  | _ => false
def ordop (f : AV → AV → Bool) (a b : AV) : R AV := if PySem.W.alike a b && a.plain && b.plain && dOk a b && !isNone a then .ok (.bool (f a b)) else .bad
def items? : AV → Option (List AV)
  | .list xs => some xs
  | .tuple xs => some xs
  | _ => none
/-- a text within a text -/
def subIn (x y : Str) : Bool := !(PySem.Builtin.Str.occurrences y x 0 y.length 1).isEmpty
def inop (x c : AV) : R Bool := match c with
  | .list xs => if x.plain && PyData.plainAll xs && decide (Nat.min (PyData.depthAll xs) x.depth ≤ 48) then .ok (xs.any fun y => PyData.eqv y x) else .bad
  | .tuple xs => if x.plain && PyData.plainAll xs && decide (Nat.min (PyData.depthAll xs) x.depth ≤ 48) then .ok (xs.any fun y => PyData.eqv y x) else .bad
  | .str y => match x with
    | .str z => .ok (subIn z y)
    | _ => .bad
  | .dict kvs => if kindOk kvs x then .ok (dget kvs x).isSome else .bad
  | _ => .bad
/-- a dict whose keys are numbers or texts, and an empty one -/
def eqD : AV → AV → R Bool
  | .dict kvs, .dict [] => if kvs.all (fun p => leafK p.1) then .ok kvs.isEmpty else .bad
  | _, _ => .bad
def eqop (a b : AV) : R Bool := if a.plain && b.plain && dOk a b then .ok (PyData.eqv a b) else eqD a b
def cmpop : Cop → AV → AV → R AV
  | .eq, a, b => do .ok (.bool (← eqop a b))
  | .ne, a, b => do .ok (.bool (!(← eqop a b)))
  | .lt, a, b => ordop ltD a b
  | .gt, a, b => ordop (fun a b => ltD b a) a b
  | .le, a, b => ordop (fun a b => !ltD b a) a b
  | .ge, a, b => ordop (fun a b => !ltD a b) a b
  | .isN, a, .none => .ok (.bool (isNone a))
  | .notN, a, .none => .ok (.bool (!isNone a))
  | .in_, a, b => do .ok (.bool (← inop a b))
  | .isB, .bool a, .bool b => .ok (.bool (a == b))
  | .nin, a, b => do .ok (.bool (!(← inop a b)))
  | _, _, _ => .bad
/-- the place of an index -/
def isL : AV → R Unit
  | .list _ => .ok ()
  | _ => .bad
def ixOf (n : Nat) (i : Int) : Option Nat := if 0 ≤ i then (if i < n then some i.toNat else none) else if -(n : Int) ≤ i then some (i + n).toNat else none
def idxop : AV → AV → R AV
  | .list xs, .int i => match ixOf xs.length i with
    | some k => match xs[k]? with
      | some v => .ok v
      | none => .bad
    | none => .bad
  | .tuple xs, .int i => match ixOf xs.length i with
    | some k => match xs[k]? with
      | some v => .ok v
      | none => .bad
    | none => .bad
  | .dict kvs, k => if kindOk kvs k then match dget kvs k with
      | some v => .ok v
      | none => .bad
    else .bad
  | _, _ => .bad
/-- the ends of a slice -/
def slIx (n d : Nat) : Option Int → Nat
  | none => d
  | some i => if i < 0 then (i + n).toNat else Nat.min i.toNat n
def cutL (xs : List AV) (lo hi : Option Int) : List AV := (xs.drop (slIx xs.length 0 lo)).take (slIx xs.length xs.length hi - slIx xs.length 0 lo)
def slcop (a : AV) (lo hi : Option Int) : R AV := match a with
  | .list xs => .ok (.list (cutL xs lo hi))
  | .tuple xs => .ok (.tuple (cutL xs lo hi))
  | _ => .bad
/-! ### built-ins -/
def ints? : List AV → Option (List Int)
  | [] => some []
  | .int i :: r => (ints? r).map (i :: ·)
  | _ :: _ => none
def bools? : List AV → Option (List Bool)
  | [] => some []
  | .bool i :: r => (bools? r).map (i :: ·)
  | _ :: _ => none
/-- tuples of numbers, all as many -/
def rows? : List AV → Option (List (List Int))
  | [] => some []
  | .tuple t :: r => match ints? t, rows? r with
    | some x, some xs => some (x :: xs)
    | _, _ => none
  | _ :: _ => none
def insI (x : Int) : (List Int → List Int)
  | [] => [x]
  | y :: ys => if y < x then y :: insI x ys else if x = y then y :: ys else x :: y :: ys
/-- sorted(set(..)) of numbers -/
def isetI : List Int → List Int
  | [] => []
  | x :: xs => insI x (isetI xs)
def insR (x : List Int) : List (List Int) → List (List Int)
  | [] => [x]
  | y :: ys => if y < x then y :: insR x ys else if x = y then y :: ys else x :: y :: ys
def isetR : List (List Int) → List (List Int)
  | [] => []
  | x :: xs => insR x (isetR xs)
def rowOk (d : Nat) (r : List Int) : Bool := decide (r.length = d) && r.all fun i => decide (0 ≤ i) && decide (i < 64)
/-- sorted(set(..)) of tuples of small numbers, all as many -/
def ssetR (xs : List AV) : R AV := match rows? xs with
  | some (r :: rs) => if decide (rs.length < 63) && decide (0 < r.length) && (r :: rs).all (rowOk r.length) then .ok (.list ((isetR (r :: rs)).map fun t => .tuple (t.map .int))) else .bad
  | _ => .bad
/-- sorted(set(..)) -/
def ssetD (xs : List AV) : R AV := match ints? xs with
  | some is => if decide (is.length ≤ 1000) && decide ((isetI is).length < 64) then .ok (.list ((isetI is).map .int)) else .bad
  | none => ssetR xs
def rangeD (lo hi : Int) : List AV := (List.range (hi - lo).toNat).map fun (k : Nat) => .int (lo + (k : Int))
def okRng (i : Int) : Bool := decide (-1000000000 ≤ i) && decide (i ≤ 1000000000)
def bltop : Blt → List AV → R AV
  | .len, [.list xs] => .ok (.int xs.length)
  | .len, [.tuple xs] => .ok (.int xs.length)
  | .len, [.str x] => if x.length ≤ line then .ok (.int x.length) else .bad
  | .len, [.dict kvs] => .ok (.int kvs.length)
  | .sum, [.list xs] => match ints? xs with
    | some is => .ok (.int is.sum)
    | none => .bad
  | .sum, [.tuple xs] => match ints? xs with
    | some is => .ok (.int is.sum)
    | none => .bad
  | .all, [.list xs] => match bools? xs with
    | some bs => .ok (.bool (bs.all id))
    | none => .bad
  | .any, [.list xs] => match bools? xs with
    | some bs => .ok (.bool (bs.any id))
    | none => .bad
  | .min, [.list (x :: xs)] => if alikeA (x :: xs) && (x :: xs).all dOk1 && !isNone x then .ok (minD' x xs) else .bad
  | .min, [.tuple (x :: xs)] => if alikeA (x :: xs) && (x :: xs).all dOk1 && !isNone x then .ok (minD' x xs) else .bad
  | .max, [.list (x :: xs)] => if alikeA (x :: xs) && (x :: xs).all dOk1 && !isNone x then .ok (maxD' x xs) else .bad
  | .max, [.tuple (x :: xs)] => if alikeA (x :: xs) && (x :: xs).all dOk1 && !isNone x then .ok (maxD' x xs) else .bad
  | .min2, [.int i, .int j] => .ok (.int (if j < i then j else i))
  | .max2, [.int i, .int j] => .ok (.int (if j > i then j else i))
  | .sorted, [.list xs] => sortD xs
  | .sorted, [.tuple xs] => sortD xs
  | .list, [.list xs] => .ok (.list xs)
  | .list, [.tuple xs] => .ok (.list xs)
  | .list, [.dict kvs] => .ok (.list (kvs.map (·.1)))
  | .tuple, [.list xs] => .ok (.tuple xs)
  | .tuple, [.tuple xs] => .ok (.tuple xs)
  | .int, [.int i] => .ok (.int i)
  | .int, [.bool b] => .ok (.int (if b then 1 else 0))
  | .abs, [.int i] => .ok (.int (if i < 0 then -i else i))
  | .str, [.int i] => if decide (i.natAbs.log2 < 1920) then .ok (.str (Str.ofString (toString i))) else .bad
  | .sset, [.list xs] => ssetD xs
  | .sset, [.tuple xs] => if (ints? xs).isSome then ssetD xs else .bad
  | .lset, [.list xs] => match ints? xs with
    | some is => if decide (is.length ≤ 1000) then .ok (.int (isetI is).length) else .bad
    | none => .bad
  | .dict, [.tuple xs] => match pairs? xs with
    | some kvs => do .ok (.dict (← dputs [] kvs))
    | none => .bad
  | .isInt, [a] => match a with
    | .int _ => .ok (.bool true)
    | .bool _ => .ok (.bool true)
    | .dict _ => .bad
    | _ => .ok (.bool false)
  | .isBool, [a] => match a with
    | .bool _ => .ok (.bool true)
    | .dict _ => .bad
    | _ => .ok (.bool false)
  | .isTup, [a] => match a with
    | .tuple _ => .ok (.bool true)
    | .dict _ => .bad
    | _ => .ok (.bool false)
  | .isStr, [a] => match a with
    | .str _ => .ok (.bool true)
    | .dict _ => .bad
    | _ => .ok (.bool false)
  | .isList, [a] => match a with
    | .list _ => .ok (.bool true)
    | .dict _ => .bad
    | _ => .ok (.bool false)
  | .isTL, [a] => match a with
    | .tuple _ => .ok (.bool true)
    | .list _ => .ok (.bool true)
    | .dict _ => .bad
    | _ => .ok (.bool false)
  | .lrng1, [.int n] => if okRng n then lstR (rangeD 0 n) else .bad
  | .lrng2, [.int m, .int n] => if okRng m && okRng n then lstR (rangeD m n) else .bad
  | .trng1, [.int n] => if okRng n then tupR (rangeD 0 n) else .bad
  | .trng2, [.int m, .int n] => if okRng m && okRng n then tupR (rangeD m n) else .bad
  | .lvals, [.dict kvs] => .ok (.list (kvs.map (·.2)))
  | .litems, [.dict kvs] => .ok (.list (kvs.map fun p => .tuple [p.1, p.2]))
  | .sitems, [.dict kvs] => sortD (kvs.map fun p => .tuple [p.1, p.2])
  | .rev, [.list xs] => .ok (.list xs.reverse)
  | .rev, [.tuple xs] => .ok (.tuple xs.reverse)
  | _, _ => .bad
def findIx (xs : List AV) (x : AV) : Option Nat := match xs with
  | [] => none
  | y :: ys => if PyData.eqv y x then some 0 else (findIx ys x).map (· + 1)
def mthop : Mth → AV → List AV → R AV
  | .index, .list xs, [x] => if x.plain && PyData.plainAll xs && decide (Nat.min (PyData.depthAll xs) x.depth ≤ 48) then (match findIx xs x with
    | some k => .ok (.int k)
    | none => .bad) else .bad
  | .count, .list xs, [x] => if x.plain && PyData.plainAll xs && decide (Nat.min (PyData.depthAll xs) x.depth ≤ 48) then .ok (.int (xs.countP fun y => PyData.eqv y x)) else .bad
  | .get1, .dict kvs, [k] => if kindOk kvs k then .ok ((dget kvs k).getD .none) else .bad
  | .get2, .dict kvs, [k, d] => if kindOk kvs k then .ok ((dget kvs k).getD d) else .bad
  | _, _, _ => .bad
/-- a list or a dict: what may be changed -/
def mutA : AV → Bool
  | .list _ => true
  | .dict _ => true
  | _ => false
/-! ### the evaluator -/
def wipeE (env : Env) : List Nat → Env
  | [] => env
  | i :: is => (wipeE env is).set i none
/-- behind a comprehension: its own names as they were -/
def back (env0 env : Env) : List Nat → Env
  | [] => env
  | i :: is => (back env0 env is).set i (env0[i]?.getD none)
def setAll : List Nat → List AV → Env → Option Env
  | [], [], env => some env
  | i :: is, v :: vs, env => setAll is vs (env.set i (some v))
  | _, _, _ => none
def bindTg : Tg → AV → Env → R Env
  | .var i, v, env => .ok (env.set i (some v))
  | .tup is, .tuple vs, env => match setAll is vs env with
    | some e => .ok e
    | none => .bad
  | _, _, _ => .bad
def look (env : Env) (i : Nat) : R AV := match env[i]? with
  | some (some v) => .ok v
  | _ => .bad
def asB : AV → R Bool
  | .bool b => .ok b
  | _ => .bad
def asL : AV → R (List AV)
  | .list xs => .ok xs
  | _ => .bad
def enumD : Nat → List AV → List AV
  | _, [] => []
  | k, x :: xs => .tuple [.int k, x] :: enumD (k + 1) xs
def loopC (f : AV → Env → R (List AV × Env)) : List AV → Env → R (List AV × Env)
  | [], env => .ok ([], env)
  | x :: xs, env => do
    let (a, env1) ← f x env
    let (b, env2) ← loopC f xs env1
    .ok (a ++ b, env2)
/-- the io slots' new values -/
def putIos : Xs → List AV → Env → R Env
  | .nil, [], env => .ok env
  | .cons _ r, vs, env => putIos r vs env
  | .star _ r, vs, env => putIos r vs env
  | .io i r, v :: vs, env => putIos r vs (env.set i (some v))
  | .tmp _ r, _ :: vs, env => putIos r vs env
  | _, _, _ => .bad
abbrev Cal := Nat → List AV → R (AV × List AV)
section
variable (cal : Cal)
mutual
def evE : X → Env → R (AV × Env)
  | .var i, env => do .ok (← look env i, env)
  | .con a, env => .ok (a, env)
  | .bin op a b, env => do
    let (x, env1) ← evE a env
    let (y, env2) ← evE b env1
    .ok (← binop op x y, env2)
  | .neg a, env => do
    let (x, env1) ← evE a env
    match x with
    | .int i => .ok (.int (-i), env1)
    | _ => .bad
  | .not a, env => do
    let (x, env1) ← evE a env
    .ok (.bool (!(← asB x)), env1)
  | .and a b, env => do
    let (x, env1) ← evE a env
    match (← asB x) with
    | true => do
      let (y, env2) ← evE b env1
      .ok (.bool (← asB y), env2)
    | false => .ok (.bool false, env1)
  | .or a b, env => do
    let (x, env1) ← evE a env
    match (← asB x) with
    | true => .ok (.bool true, env1)
    | false => do
      let (y, env2) ← evE b env1
      .ok (.bool (← asB y), env2)
  | .cmp op a b, env => do
    let (x, env1) ← evE a env
    let (y, env2) ← evE b env1
    .ok (← cmpop op x y, env2)
  | .chain op op' a b c, env => do
    let (x, env1) ← evE a env
    let (y, env2) ← evE b env1
    match (← asB (← cmpop op x y)) with
    | true => do
      let (z, env3) ← evE c env2
      .ok (.bool (← asB (← cmpop op' y z)), env3)
    | false => .ok (.bool false, env2)
  | .ite c a b, env => do
    let (x, env1) ← evE c env
    match (← asB x) with
    | true => evE a env1
    | false => evE b env1
  | .tup es, env => do
    let (vs, env1) ← evXs es env
    .ok (← tupR vs, env1)
  | .lst es, env => do
    let (vs, env1) ← evXs es env
    .ok (← lstR vs, env1)
  | .dict es, env => do
    let (kvs, env1) ← evDs es [] env
    .ok (.dict kvs, env1)
  | .idx a i, env => do
    let (x, env1) ← evE a env
    let (y, env2) ← evE i env1
    .ok (← idxop x y, env2)
  | .slc a lo hi, env => do
    let (x, env1) ← evE a env
    let (l, env2) ← evOx lo env1
    let (h, env3) ← evOx hi env2
    match l, h with
    | none, none => .ok (← slcop x none none, env3)
    | some (.int i), none => .ok (← slcop x (some i) none, env3)
    | none, some (.int j) => .ok (← slcop x none (some j), env3)
    | some (.int i), some (.int j) => .ok (← slcop x (some i) (some j), env3)
    | _, _ => .bad
  | .comp own cs e, env => do
    let (vs, env1) ← evCs cs (fun env => do let (v, env') ← evE e env; .ok ([v], env')) env
    .ok (← lstR vs, back env env1 own)
  | .dcomp own cs k v, env => do
    let (vs, env1) ← evCs cs (fun env => do
      let (a, env1) ← evE k env
      let (b, env2) ← evE v env1
      .ok ([.tuple [a, b]], env2)) env
    .ok (.dict (← dispL vs), back env env1 own)
  | .call f es, env => do
    let (vs, env1) ← evXs es env
    let (v, outs) ← cal f vs
    .ok (v, ← putIos es outs env1)
  | .blt f es, env => do
    let (vs, env1) ← evXs es env
    .ok (← bltop f vs, env1)
  | .meth m o es, env => do
    let (x, env1) ← evE o env
    let (vs, env2) ← evXs es env1
    .ok (← mthop m x vs, env2)
  | .pop i e, env => do
    let x0 ← look env i
    let _ ← isL x0
    let (k, env1) ← evOx e env
    match (← look env1 i), k with
    | .list xs, none => match xs.getLast? with
      | some v => .ok (v, env1.set i (some (.list xs.dropLast)))
      | none => .bad
    | .list xs, some (.int j) => match ixOf xs.length j with
      | some n => match xs[n]? with
        | some v => .ok (v, env1.set i (some (.list (xs.eraseIdx n))))
        | none => .bad
      | none => .bad
    | _, _ => .bad
def evXs : Xs → Env → R (List AV × Env)
  | .nil, env => .ok ([], env)
  | .cons e r, env => do
    let (v, env1) ← evE e env
    let (vs, env2) ← evXs r env1
    .ok (v :: vs, env2)
  | .star e r, env => do
    let (v, env1) ← evE e env
    let (vs, env2) ← evXs r env1
    match items? v with
    | some xs => if xs.length ≤ line then .ok (xs ++ vs, env2) else .bad
    | none => .bad
  | .tmp e r, env => do
    let (v, env1) ← evE e env
    let (vs, env2) ← evXs r env1
    if mutA v then .ok (v :: vs, env2) else .bad
  | .io i r, env => do
    let _ ← look env i
    let (vs, env1) ← evXs r env
    let v ← look env1 i
    if mutA v then .ok (v :: vs, env1) else .bad
def evOx : Ox → Env → R (Option AV × Env)
  | .none, env => .ok (none, env)
  | .some e, env => do
    let (v, env1) ← evE e env
    .ok (some v, env1)
def evDs : Ds → List (AV × AV) → Env → R (List (AV × AV) × Env)
  | .nil, acc, env => .ok (acc, env)
  | .kv k v r, acc, env => do
    let (a, env1) ← evE k env
    let (b, env2) ← evE v env1
    evDs r (← dput' acc a b) env2
  | .star d r, acc, env => do
    let (a, env1) ← evE d env
    match a with
    | .dict kvs => if acc.isEmpty && kvs.all (fun p => leafK p.1) then (evDs r kvs env1 >>= fun p2 => if p2.1.all (fun p => leafK p.1) then R.ok (p2.1, p2.2) else .bad) else .bad
    | _ => .bad
def evCs : Cs → (Env → R (List AV × Env)) → Env → R (List AV × Env)
  | .nil, last, env => last env
  | .cons ws tg it c r, last, env => do
    let (xs, env1) ← evIt it env
    loopC (fun x env => do
      let env2 ← bindTg tg x (wipeE env ws)
      let (b, env3) ← evOx c env2
      match b with
      | none => evCs r last env3
      | some b => match (← asB b) with
        | true => evCs r last env3
        | false => .ok ([], env3)) xs env1
def evIt : It → Env → R (List AV × Env)
  | .expr e, env => do
    let (v, env1) ← evE e env
    match v with
    | .list xs => .ok (xs, env1)
    | .tuple xs => .ok (xs, env1)
    | .dict kvs => .ok (kvs.map (·.1), env1)
    | _ => .bad
  | .rng1 a, env => do
    let (v, env1) ← evE a env
    match v with
    | .int n => if okRng n then .ok (rangeD 0 n, env1) else .bad
    | _ => .bad
  | .rng2 a b, env => do
    let (v, env1) ← evE a env
    let (u, env2) ← evE b env1
    match v, u with
    | .int m, .int n => if okRng m && okRng n then .ok (rangeD m n, env2) else .bad
    | _, _ => .bad
  | .enum e, env => do
    let (v, env1) ← evE e env
    match items? v with
    | some xs => .ok (enumD 0 xs, env1)
    | none => .bad
  | .items e, env => do
    let (v, env1) ← evE e env
    match v with
    | .dict kvs => .ok (kvs.map (fun p => .tuple [p.1, p.2]), env1)
    | _ => .bad
  | .vals e, env => do
    let (v, env1) ← evE e env
    match v with
    | .dict kvs => .ok (kvs.map (·.2), env1)
    | _ => .bad
end
def forF (f : AV → Env → R Fl) : List AV → Env → R Fl
  | [], env => .ok (.nx env)
  | x :: xs, env => do
    match (← f x env) with
    | .nx e => forF f xs e
    | .ct e => forF f xs e
    | .bk e => .ok (.nx e)
    | .rt v e => .ok (.rt v e)
def whlF (c : Env → R (Bool × Env)) (f : Env → R Fl) : Nat → Env → R Fl
  | 0, _ => .bad
  | n + 1, env => do
    let (b, env1) ← c env
    match b with
    | true => match (← f env1) with
      | .nx e => whlF c f n e
      | .ct e => whlF c f n e
      | .bk e => .ok (.nx e)
      | .rt v e => .ok (.rt v e)
    | false => .ok (.nx env1)
/-- forgotten slots at a turn's end -/
def wipeF (ws : List Nat) : Fl → Fl
  | .nx e => .nx (wipeE e ws)
  | .ct e => .ct (wipeE e ws)
  | .bk e => .bk e
  | .rt v e => .rt v e
def turns : Nat := 100000
mutual
def evS : S → Env → R Fl
  | .asg i e, env => do
    let (v, env1) ← evE cal e env
    .ok (.nx (env1.set i (some v)))
  | .move i j, env => do
    let v ← look env j
    .ok (.nx ((env.set j none).set i (some v)))
  | .unp is e, env => do
    let (v, env1) ← evE cal e env
    .ok (.nx (← bindTg (.tup is) v env1))
  | .par is es, env => do
    let (vs, env1) ← evXs cal es env
    match setAll is vs env1 with
    | some e => .ok (.nx e)
    | none => .bad
  | .seti i k v, env => do
    let (x, env1) ← evE cal v env
    let _ ← look env1 i
    let (y, env2) ← evE cal k env1
    match (← look env2 i), y with
    | .list xs, .int j => match ixOf xs.length j with
      | some n => .ok (.nx (env2.set i (some (.list (xs.set n x)))))
      | none => .bad
    | .dict kvs, y => do
      let kvs' ← dput' kvs y x
      .ok (.nx (env2.set i (some (.dict kvs'))))
    | _, _ => .bad
  | .app i e, env => do
    let _ ← (do asL (← look env i))
    let (x, env1) ← evE cal e env
    match (← look env1 i) with
    | .list xs => if xs.length < line then .ok (.nx (env1.set i (some (.list (xs ++ [x]))))) else .bad
    | _ => .bad
  | .ext i e, env => do
    let _ ← (do asL (← look env i))
    let (x, env1) ← evE cal e env
    match (← look env1 i), x with
    | .list xs, .list ys => if xs.length + ys.length ≤ line then .ok (.nx (env1.set i (some (.list (xs ++ ys))))) else .bad
    | _, _ => .bad
  | .aug i op e, env => do
    let x ← look env i
    let (y, env1) ← evE cal e env
    match op, x, y with
    | .add, .int a, .int b => .ok (.nx (env1.set i (some (.int (a + b)))))
    | .sub, .int a, .int b => .ok (.nx (env1.set i (some (.int (a - b)))))
    | _, _, _ => .bad
  | .expr e, env => do
    let (_, env1) ← evE cal e env
    .ok (.nx env1)
  | .ret e, env => do
    let (v, env1) ← evE cal e env
    .ok (.rt v env1)
  | .ite c a b, env => do
    let (x, env1) ← evE cal c env
    match (← asB x) with
    | true => evSs a env1
    | false => evSs b env1
  | .whl _ ws c b, env => whlF (fun env => do
      let (x, env1) ← evE cal c env
      .ok (← asB x, env1)) (fun env => do .ok (wipeF ws (← evSs b env))) turns env
  | .for_ _ ws tg it b, env => do
    let (xs, env1) ← evIt cal it env
    forF (fun x env => do
      let env2 ← bindTg tg x env
      .ok (wipeF ws (← evSs b env2))) xs env1
  | .raise, _ => .bad
  | .brk, env => .ok (.bk env)
  | .cont, env => .ok (.ct env)
  | .pass, env => .ok (.nx env)
def evSs : Ss → Env → R Fl
  | .nil, env => .ok (.nx env)
  | .cons s r, env => do
    match (← evS s env) with
    | .nx e => evSs r e
    | .bk e => .ok (.bk e)
    | .ct e => .ok (.ct e)
    | .rt v e => .ok (.rt v e)
end
end
def outsOf (env : Env) : List Nat → R (List AV)
  | [] => .ok []
  | i :: is => do
    let v ← look env i
    let vs ← outsOf env is
    if mutA v then .ok (v :: vs) else .bad
def runD (cal : Cal) (D : Def) (vs : List AV) : R (AV × List AV) :=
  if vs.length = D.ps then do
    match (← evSs cal D.body (vs.map some ++ List.replicate (D.n - D.ps) none)) with
    | .rt v env => .ok (v, ← outsOf env D.io)
    | .nx env => .ok (.none, ← outsOf env D.io)
    | _ => .bad
  else .bad
/-- the defs by their names -/
structure Tab where
  d : Nat → Option Def
  /-- their names -/
  nm : Nat → Str
  /-- the module's constants -/
  g : Str → Option AV
instance : CoeFun Tab (fun _ => Nat → Option Def) := ⟨Tab.d⟩
mutual
def beqA : AV → AV → Bool
  | .int a, .int b => decide (a = b)
  | .str a, .str b => decide (a = b)
  | .tuple a, .tuple b => beqAs a b
  | _, _ => false
def beqAs : List AV → List AV → Bool
  | [], [] => true
  | x :: xs, y :: ys => beqA x y && beqAs xs ys
  | _, _ => false
end
def callD (P : Tab) : Nat → Cal
  | 0, _, _ => .bad
  | d + 1, f, vs => match P f with
    | some D => runD (callD P d) D vs
    | none => .bad
end Ev
end
section
set_option linter.all false
set_option autoImplicit false
/-! EvA: which names alone hold their list or dict (owned slots), along a text. O: owned slots. -/
namespace Ev
abbrev Sl := List Nat
def er (O : Sl) (i : Nat) : Sl := O.filter fun j => j != i
def minus (O P : Sl) : Sl := O.filter fun j => !P.contains j
def meet (A B : Sl) : Sl := A.filter fun j => B.contains j
def sub (A B : Sl) : Bool := A.all fun j => B.contains j
def apartS (A B : Sl) : Bool := A.all fun j => !B.contains j
def isVar : X → Option Nat
  | .var i => some i
  | _ => none
/-- built-ins that give a new list or dict -/
def freshB (b : Blt) : Bool := [Blt.list, .sorted, .sset, .dict, .lrng1, .lrng2, .lvals, .litems, .sitems, .rev].contains b
/-- a new list or dict, if any -/
def freshE : X → Bool
  | .lst _ | .comp .. | .dcomp .. | .dict _ | .slc .. => true
  | .bin .add _ _ | .bin .mul _ _ => true
  | .blt b _ => freshB b
  | _ => false
mutual
/-- nothing that is held is changed -/
def prE : X → Bool
  | .var _ | .con _ => true
  | .bin _ a b => prE a && prE b
  | .neg a => prE a
  | .not a => prE a
  | .and a b => prE a && prE b
  | .or a b => prE a && prE b
  | .cmp _ a b => prE a && prE b
  | .chain _ _ a b c => prE a && prE b && prE c
  | .ite c a b => prE c && prE a && prE b
  | .tup es => prXs es
  | .lst es => prXs es
  | .dict es => prDs es
  | .idx a i => prE a && prE i
  | .slc a lo hi => prE a && prOx lo && prOx hi
  | .comp _ cs e => prCs cs && prE e
  | .dcomp _ cs k v => prCs cs && prE k && prE v
  | .call _ es => prXs es
  | .blt _ es => prXs es
  | .meth _ o es => prE o && prXs es
  | .pop _ _ => false
def prXs : Xs → Bool
  | .nil => true
  | .cons e r => prE e && prXs r
  | .star e r => prE e && prXs r
  | .tmp _ _ => false
  | .io _ _ => false
def prOx : Ox → Bool
  | .none => true
  | .some e => prE e
def prDs : Ds → Bool
  | .nil => true
  | .kv k v r => prE k && prE v && prDs r
  | .star d r => prE d && prDs r
def prCs : Cs → Bool
  | .nil => true
  | .cons _ _ it c r => prIt it && prOx c && prCs r
def prIt : It → Bool
  | .expr e => prE e
  | .rng1 a => prE a
  | .rng2 a b => prE a && prE b
  | .enum e => prE e
  | .items e => prE e
  | .vals e => prE e
end
/-- the io slots of an argument list -/
def iosOf : Xs → Sl
  | .nil => []
  | .cons _ r => iosOf r
  | .star _ r => iosOf r
  | .tmp _ r => iosOf r
  | .io i r => i :: iosOf r
def tgsOf : Tg → Sl
  | .var i => [i]
  | .tup is => is
/-- an operand that is looked at alone: a name keeps what it holds -/
def bor (e : X) (O : Sl) (r : Option Sl) : Option Sl := match isVar e with
  | some _ => some O
  | none => r
def andThen (r : Option Sl) (f : Sl → Option Sl) : Option Sl := match r with
  | some O => f O
  | none => none
def both (a b : Option Sl) : Option Sl := match a, b with
  | some A, some B => some (meet A B)
  | _, _ => none
/-- turns: what is owned behind one turn is owned behind the next -/
def steady (l : Sl) (f : Sl → Option Sl) (O : Sl) : Option Sl := match f O with
  | some O1 => match f O1 with
    | some O2 => if sub O1 O && sub O1 O2 && apartS l O1 then some O1 else none
    | none => none
  | none => none
mutual
def owE (O : Sl) : X → Option Sl
  | .var i => some (er O i)
  | .con _ => some O
  | .bin _ a b => andThen (if prE b then bor a O (owE O a) else owE O a) fun O1 => bor b O1 (owE O1 b)
  | .neg a => owE O a
  | .not a => owE O a
  | .and a b => andThen (owE O a) fun O1 => both (some O1) (owE O1 b)
  | .or a b => andThen (owE O a) fun O1 => both (some O1) (owE O1 b)
  | .cmp _ a b => andThen (if prE b then bor a O (owE O a) else owE O a) fun O1 => bor b O1 (owE O1 b)
  | .chain _ _ a b c => andThen (owE O a) fun O1 => andThen (owE O1 b) fun O2 => both (some O2) (owE O2 c)
  | .ite c a b => andThen (owE O c) fun O1 => both (owE O1 a) (owE O1 b)
  | .tup es => owXs O es
  | .lst es => owXs O es
  | .dict es => owDs O es
  | .idx a i => andThen (if prE i then bor a O (owE O a) else owE O a) fun O1 => bor i O1 (owE O1 i)
  | .slc a lo hi => andThen (if prOx lo && prOx hi then bor a O (owE O a) else owE O a) fun O1 => andThen (owOx O1 lo) fun O2 => owOx O2 hi
  | .comp own cs e => if apartS own O then owCs O cs (prE e) fun O => owE O e else none
  | .dcomp own cs k v => if apartS own O then owCs O cs (prE k && prE v) fun O => andThen (owE O k) fun O1 => owE O1 v else none
  | .call _ es => owXs O es
  | .blt _ (.cons e .nil) => bor e O (owE O e)
  | .blt _ es => owXs O es
  | .meth _ o es => andThen (if prXs es then bor o O (owE O o) else owE O o) fun O1 => owXs O1 es
  | .pop i e => andThen (owOx O e) fun O1 => if O1.contains i then some O1 else none
def owXs (O : Sl) : Xs → Option Sl
  | .nil => some O
  | .cons e r => andThen (owE O e) fun O1 => owXs O1 r
  | .star e r => andThen (bor e O (owE O e)) fun O1 => owXs O1 r
  | .tmp e r => andThen (owE O e) fun O1 => if freshE e then owXs O1 r else none
  | .io i r => andThen (owXs O r) fun O1 => if O1.contains i && !(iosOf r).contains i then some O1 else none
def owOx (O : Sl) : Ox → Option Sl
  | .none => some O
  | .some e => owE O e
def owDs (O : Sl) : Ds → Option Sl
  | .nil => some O
  | .kv k v r => andThen (owE O k) fun O1 => andThen (owE O1 v) fun O2 => owDs O2 r
  | .star d r => andThen (bor d O (owE O d)) fun O1 => owDs O1 r
/-- pb: the last part changes nothing that is held -/
def owCs (O : Sl) : Cs → Bool → (Sl → Option Sl) → Option Sl
  | .nil, _, last => last O
  | .cons ws tg it c r, pb, last => andThen (owIt (prOx c && prCs r && pb) O it) fun O1 => steady (ws ++ tgsOf tg) (fun O => andThen (owOx (minus O (ws ++ tgsOf tg)) c) fun O2 => both (some O2) (owCs O2 r pb last)) O1
/-- b: what is walked may be a name that keeps what it holds -/
def owIt (b : Bool) (O : Sl) : It → Option Sl
  | .expr e => if b then bor e O (owE O e) else owE O e
  | .rng1 a => owE O a
  | .rng2 a b => andThen (owE O a) fun O1 => owE O1 b
  | .enum e => if b then bor e O (owE O e) else owE O e
  | .items e => if b then bor e O (owE O e) else owE O e
  | .vals e => if b then bor e O (owE O e) else owE O e
end
/-- what is owned where a statement ends, by its ways out -/
structure Flw where
  nx : Option Sl := none
  bk : Option Sl := none
  ct : Option Sl := none
def mo : Option Sl → Option Sl → Option Sl
  | none, b => b
  | a, none => a
  | some a, some b => some (meet a b)
def Flw.join (f g : Flw) : Flw := ⟨mo f.nx g.nx, mo f.bk g.bk, mo f.ct g.ct⟩
def keeps (inv : Sl) : Option Sl → Bool
  | none => true
  | some O => sub inv O
def nxt (r : Option Sl) : Option Flw := r.map fun O => { nx := some O }
def freshs : List Nat → Xs → Option Sl
  | [], .nil => some []
  | _ :: is, .cons _ r => freshs is r
  | i :: is, .tmp _ r => (freshs is r).map fun l => i :: l
  | _, _ => none
mutual
def owS (io O : Sl) : S → Option Flw
  | .asg i e => if io.contains i then none else nxt ((owE O e).map fun O1 => if freshE e then i :: er O1 i else er O1 i)
  | .move i j => if io.contains i || io.contains j || i == j then none else nxt (some (if O.contains j then i :: er (er O j) i else er (er O j) i))
  | .unp is e => if apartS is io then nxt ((owE O e).map fun O1 => minus O1 is) else none
  | .par is es => if apartS is io && decide is.Nodup then nxt (andThen (owXs O es) fun O1 => (freshs is es).map fun l => l ++ minus O1 is) else none
  | .seti i k v => nxt (andThen (owE O v) fun O1 => andThen (owE O1 k) fun O2 => if O2.contains i then some O2 else none)
  | .app i e => nxt (andThen (owE O e) fun O1 => if O1.contains i then some O1 else none)
  | .ext i e => nxt (andThen (bor e O (owE O e)) fun O1 => if O1.contains i then some O1 else none)
  | .aug i _ e => if io.contains i then none else nxt ((owE O e).map fun O1 => er O1 i)
  | .expr e => nxt (owE O e)
  | .ret e => match owE O e with
    | some O1 => if sub io O1 then some {} else none
    | none => none
  | .ite c a b => match owE O c with
    | some O1 => match owSs io O1 a, owSs io O1 b with
      | some f, some g => some (f.join g)
      | _, _ => none
    | none => none
  | .whl inv ws c b => if sub inv O && apartS ws io && apartS ws inv then match owE inv c with
    | some O1 => match owSs io O1 b with
      | some f => if sub inv O1 && keeps inv f.nx && keeps inv f.ct then some { nx := mo (some O1) f.bk } else none
      | none => none
    | none => none else none
  | .for_ inv ws tg it b => match owIt false O it with
    | some O1 => if sub inv O1 && apartS ws io && apartS ws inv && apartS (tgsOf tg) io && apartS (tgsOf tg) inv then match owSs io inv b with
      | some f => if keeps inv f.nx && keeps inv f.ct then some { nx := mo (some inv) f.bk } else none
      | none => none else none
    | none => none
  | .raise => some {}
  | .brk => some { bk := some O }
  | .cont => some { ct := some O }
  | .pass => some { nx := some O }
def owSs (io O : Sl) : Ss → Option Flw
  | .nil => some { nx := some O }
  | .cons s r => match owS io O s with
    | some f => match f.nx with
      | none => some f
      | some O1 => match owSs io O1 r with
        | some g => some { nx := g.nx, bk := mo f.bk g.bk, ct := mo f.ct g.ct }
        | none => none
    | none => none
end
/-- a def whose lists and dicts are changed by the names alone that hold them -/
def owD (D : Def) : Bool := match owSs D.io D.io D.body with
  | some f => keeps D.io f.nx
  | none => false
end Ev
end
section
set_option linter.all false
set_option autoImplicit false
set_option maxRecDepth 100000
/-! EvB: what a value of Ev is over the hand layer's heap; the state that a frame keeps. -/
namespace Ev
open PySem L2
/-! ### keys -/
def keyA : AV → Option Key
  | .int i => some (.inl i)
  | .str x => some (.inr x)
  | _ => none
mutual
def nestK : AV → Option NestedKey
  | .int i => some (.num i)
  | .str x => some (.text x)
  | .tuple ds => (nestKs ds).map .tup
  | _ => none
def nestKs : List AV → Option (List NestedKey)
  | [] => some []
  | d :: ds => match nestK d, nestKs ds with
    | some k, some ks => some (k :: ks)
    | _, _ => none
end
def keyT : AV → Option NestedKey
  | .tuple ds => match nestKs ds with
    | some ks => if (NestedKey.tup ks).depth ≤ 8 then some (.tup ks) else none
    | none => none
  | _ => none
mutual
theorem nestB_ok : ∀ d : AV, nestB d = true → ∃ k, nestK d = some k ∧ k.depth = d.depth
  | .int i, _ => ⟨.num i, rfl, rfl⟩
  | .str x, _ => ⟨.text x, rfl, rfl⟩
  | .tuple ds, h => by
    obtain ⟨ks, h1, h2⟩ := nestBs_ok ds h
    exact ⟨.tup ks, by rw [nestK, h1]; rfl, by rw [NestedKey.depth, h2, PyData.depth]⟩
  | .none, h => by cases h
  | .bool _, h => by cases h
  | .list _, h => by cases h
  | .dict _, h => by cases h
theorem nestBs_ok : ∀ ds : List AV, nestBs ds = true → ∃ ks, nestKs ds = some ks ∧ NestedKey.depthAll ks = PyData.depthAll ds
  | [], _ => ⟨[], rfl, rfl⟩
  | d :: ds, h => by
    rw [nestBs, Bool.and_eq_true] at h
    obtain ⟨k, a1, a2⟩ := nestB_ok d h.1
    obtain ⟨ks, b1, b2⟩ := nestBs_ok ds h.2
    exact ⟨k :: ks, by rw [nestKs, a1, b1], by rw [NestedKey.depthAll, a2, b2, PyData.depthAll]⟩
end
theorem tupKey_ok {k : AV} (h : tupKey k = true) : ∃ nk, keyT k = some nk := by
  cases k with
  | tuple ds =>
    have h : (nestBs ds && decide (PyData.depthAll ds ≤ 7)) = true := h
    rw [Bool.and_eq_true, decide_eq_true_iff] at h
    obtain ⟨ks, h1, h2⟩ := nestBs_ok ds h.1
    have h3 : (NestedKey.tup ks).depth ≤ 8 := by rw [NestedKey.depth, h2]; omega
    exact ⟨.tup ks, by unfold keyT; dsimp only; rw [h1]; exact if_pos h3⟩
  | _ => cases h
mutual
theorem nestK_eqv : ∀ (a b : AV) (x y : NestedKey), nestK a = some x → nestK b = some y → PyData.eqv a b = NestedKey.beq x y
  | .int i, b, x, y, h, g => by
    cases h
    cases b with
    | int j => cases g; rw [PyData.eqv, NestedKey.beq]; exact Bool.eq_iff_iff.mpr (by simp)
    | str z => cases g; rfl
    | tuple es =>
      rw [nestK] at g
      cases h : nestKs es with
      | none => rw [h] at g; cases g
      | some ks => rw [h] at g; cases g; rfl
    | _ => cases g
  | .str u, b, x, y, h, g => by
    cases h
    cases b with
    | int j => cases g; rfl
    | str z => cases g; rw [PyData.eqv, NestedKey.beq]; exact Bool.eq_iff_iff.mpr (by simp)
    | tuple es =>
      rw [nestK] at g
      cases h : nestKs es with
      | none => rw [h] at g; cases g
      | some ks => rw [h] at g; cases g; rfl
    | _ => cases g
  | .tuple ds, b, x, y, h, g => by
    rw [nestK] at h
    cases hd : nestKs ds with
    | none => rw [hd] at h; cases h
    | some ks =>
      rw [hd] at h
      cases h
      cases b with
      | int j => cases g; rfl
      | str z => cases g; rfl
      | tuple es =>
        rw [nestK] at g
        cases he : nestKs es with
        | none => rw [he] at g; cases g
        | some ls => rw [he] at g; cases g; rw [PyData.eqv, NestedKey.beq]; exact nestKs_eqv ds es ks ls hd he
      | _ => cases g
  | .none, _, _, _, h, _ => by cases h
  | .bool _, _, _, _, h, _ => by cases h
  | .list _, _, _, _, h, _ => by cases h
  | .dict _, _, _, _, h, _ => by cases h
theorem nestKs_eqv : ∀ (a b : List AV) (x y : List NestedKey), nestKs a = some x → nestKs b = some y → PyData.eqvAll a b = NestedKey.beqAll x y
  | [], [], x, y, h, g => by cases h; cases g; rfl
  | [], d :: ds, x, y, h, g => by
    cases h
    rw [nestKs] at g
    split at g
    · cases g; rfl
    · cases g
  | d :: ds, [], x, y, h, g => by
    cases g
    rw [nestKs] at h
    split at h
    · cases h; rfl
    · cases h
  | d :: ds, e :: es, x, y, h, g => by
    rw [nestKs] at h g
    split at h
    · rename_i k ks h1 h2
      cases h
      split at g
      · rename_i l ls g1 g2
        cases g
        rw [PyData.eqvAll, NestedKey.beqAll, nestK_eqv d e k l h1 g1, nestKs_eqv ds es ks ls h2 g2]
      · cases g
    · cases h
end
theorem keyT_nest {k : AV} {nk : NestedKey} (h : keyT k = some nk) : nestK k = some nk ∧ nk.depth ≤ 8 ∧ ∃ ds, k = .tuple ds := by
  cases k with
  | tuple ds =>
    unfold keyT at h
    dsimp only at h
    cases hd : nestKs ds with
    | none => rw [hd] at h; cases h
    | some ks =>
      rw [hd] at h
      dsimp only at h
      split at h
      · rename_i hz
        cases h
        exact ⟨by rw [nestK, hd]; rfl, hz, ds, rfl⟩
      · cases h
  | _ => cases h
theorem keyT_eqv {a b : AV} {x y : NestedKey} (h : keyT a = some x) (g : keyT b = some y) : PyData.eqv a b = decide (x = y) := by
  rw [nestK_eqv a b x y (keyT_nest h).1 (keyT_nest g).1, NestedKey.decide_eq]
/-- an entry of a dict: its key, its value -/
abbrev Ent := (Key ⊕ (NestedKey × Addr)) × V
def entK (e : Ent) : Key ⊕ NestedKey := match e.1 with
  | .inl k => .inl k
  | .inr p => .inr p.1
/-- an entry of the dict's object and what it is -/
def EntW (w : World) (e : DictEntry) (x : Ent) : Prop := match x.1 with
  | .inl k => keyIs k e.key = true ∧ e.hash = keyH w k ∧ RelV x.2 e.val
  | .inr p => e.hash = p.1.hash w ∧ e.key = .ref p.2 ∧ RelV x.2 e.val
/-- at a stands the dict o with such entries -/
def DicP (w : World) (a : Addr) (o : Obj) (L : List Ent) (h : Heap) : Prop :=
  L.length ≤ sizeLine ∧ (a == sysModules) = false ∧ h.get? a = some o ∧ o.ExactDict ∧ ∃ es ep, o.data = .dict es ep ∧ Paired (EntW w) es.toList L ∧ (L.map entK).Nodup
/-- a dict, its object told -/
def dictH (w : World) (a : Addr) (o : Obj) (L : List Ent) : HO := .ext (DicP w a o L)
def emK (L : List (Key × V)) : List Ent := L.map fun p => (.inl p.1, p.2)
def emT (L : List (NestedKey × Addr × V)) : List Ent := L.map fun p => (.inr (p.1, p.2.1), p.2.2)
/-- a list that is read: tracked, frozen, or a plain one of the module's objects -/
def LstX (K : PySem.W.Frag) (F : Hp) (a : Addr) (xs : List V) : Prop := Rd F a (.lst xs) ∨ ∃ (its : List Value) (n : Nat), K.lookup a = some { cls := .type "list", data := .seq its.toArray n } ∧ its.length ≤ sizeLine ∧ Vals xs its
theorem LstX.sql {K : PySem.W.Frag} {F : Hp} {a : Addr} {xs : List V} (h : LstX K F a xs) : SqL K F a xs := by
  rcases h with h | ⟨its, n, h1, h2, h3⟩
  · exact .inl h
  · exact .inr ⟨_, its.toArray, n, h1, rfl, rfl, rfl, by simpa using h2, by simpa using h3⟩
section
variable (K : PySem.W.Frag) (w : World)
mutual
inductive Rep : Hp → V → AV → Prop
  | non {F} : Rep F .non .none
  | bl {F} (b : Bool) : Rep F (.bl b) (.bool b)
  | int {F} (i : Int) : Rep F (.int i) (.int i)
  | str {F} (x : Str) : Rep F (.str x) (.str x)
  | lst {F} {a : Addr} {xs : List V} {ds : List AV} : LstX K F a xs → RepL F xs ds → Rep F (.ref a) (.list ds)
  | tup {F} {a : Addr} {xs : List V} {ds : List AV} : SqT K F a xs → RepL F xs ds → Rep F (.ref a) (.tuple ds)
  | dct {F} {a : Addr} {ep : Obj} {L : List Ent} {kvs : List (AV × AV)} {tk : Bool} : F a = some (dictH w a ep L) → RepD F tk L kvs → Rep F (.ref a) (.dict kvs)
inductive RepL : Hp → List V → List AV → Prop
  | nil {F} : RepL F [] []
  | cons {F} {v : V} {vs : List V} {d : AV} {ds : List AV} : Rep F v d → RepL F vs ds → RepL F (v :: vs) (d :: ds)
inductive RepD : Hp → Bool → List Ent → List (AV × AV) → Prop
  | nil {F} {tk : Bool} : RepD F tk [] []
  | cons {F} {nk : Key} {vv : V} {L : List Ent} {k v : AV} {kvs : List (AV × AV)} : keyA k = some nk → Rep F vv v → RepD F false L kvs → RepD F false ((.inl nk, vv) :: L) ((k, v) :: kvs)
  | consT {F} {nk : NestedKey} {b : Addr} {vv : V} {L : List Ent} {k v : AV} {kvs : List (AV × AV)} : keyT k = some nk → Rep F (.ref b) k → Rep F vv v → RepD F true L kvs → RepD F true ((.inr (nk, b), vv) :: L) ((k, v) :: kvs)
end
end
section
variable {K : PySem.W.Frag} {w : World} {F F' H : Hp}
theorem Same.tup {H H' : Hp} {a : Addr} {xs : List V} (e : Same H H') (h : SqT K H a xs) : SqT K H' a xs := by
  rcases h with (h | ⟨o, h⟩) | h
  · exact .inl (.inl (e _ _ h))
  · exact .inl (.inr ⟨o, e _ _ h⟩)
  · exact .inr h
theorem Same.rd {H H' : Hp} {a : Addr} {u : HO} (e : Same H H') (h : Rd H a u) : Rd H' a u := by
  rcases h with h | ⟨o, h⟩
  · exact .inl (e _ _ h)
  · exact .inr ⟨o, e _ _ h⟩
theorem LstX.mono {a : Addr} {xs : List V} (s : Same F F') (h : LstX K F a xs) : LstX K F' a xs := h.imp (Same.rd s) id
mutual
theorem Rep.mono (s : Same F F') : ∀ {v : V} {d : AV}, Rep K w F v d → Rep K w F' v d
  | _, _, .non => .non
  | _, _, .bl b => .bl b
  | _, _, .int i => .int i
  | _, _, .str x => .str x
  | _, _, .lst h r => .lst (h.mono s) (RepL.mono s r)
  | _, _, .tup h r => .tup (Same.tup s h) (RepL.mono s r)
  | _, _, .dct h r => .dct (s _ _ h) (RepD.mono s r)
theorem RepL.mono (s : Same F F') : ∀ {v : List V} {d : List AV}, RepL K w F v d → RepL K w F' v d
  | _, _, .nil => .nil
  | _, _, .cons h r => .cons (Rep.mono s h) (RepL.mono s r)
theorem RepD.mono (s : Same F F') : ∀ {tk : Bool} {L : List Ent} {d : List (AV × AV)}, RepD K w F tk L d → RepD K w F' tk L d
  | _, _, _, .nil => .nil
  | _, _, _, .cons h1 r1 r => .cons h1 (Rep.mono s r1) (RepD.mono s r)
  | _, _, _, .consT h1 r0 r1 r => .consT h1 (Rep.mono s r0) (Rep.mono s r1) (RepD.mono s r)
end
theorem RepL.length : ∀ {vs : List V} {ds : List AV}, RepL K w F vs ds → vs.length = ds.length
  | _, _, .nil => rfl
  | _, _, .cons _ r => by rw [List.length_cons, List.length_cons, r.length]
theorem keyA_leaf {k : AV} (h : leafK k = true) : ∃ nk, keyA k = some nk := by
  cases k <;> first | exact ⟨_, rfl⟩ | cases h
theorem keyA_rep {k : AV} {nk : Key} {v : V} (h : keyA k = some nk) (r : Rep K w F v k) : v = kV nk := by
  cases k with
  | int i => cases h; cases r; rfl
  | str x => cases h; cases r; rfl
  | _ => cases h
theorem rep_keyA {k : AV} {nk : Key} (h : keyA k = some nk) : Rep K w F (kV nk) k := by
  cases k with
  | int i => cases h; exact .int _
  | str x => cases h; exact .str _
  | _ => cases h
theorem keyA_eqv {a b : AV} {x y : Key} (h : keyA a = some x) (g : keyA b = some y) : PyData.eqv a b = decide (x = y) := by
  cases a with
  | int i =>
    cases h
    cases b with
    | int j => cases g; rw [PyData.eqv.eq_def]; exact Bool.eq_iff_iff.mpr (by simp)
    | str z => cases g; rw [PyData.eqv.eq_def]; simp
    | _ => cases g
  | str u =>
    cases h
    cases b with
    | int j => cases g; rw [PyData.eqv.eq_def]; exact Bool.eq_iff_iff.mpr (by simp)
    | str z => cases g; rw [PyData.eqv.eq_def]; exact Bool.eq_iff_iff.mpr (by simp)
    | _ => cases g
  | _ => cases h
theorem RepD.length : ∀ {tk : Bool} {L : List Ent} {kvs : List (AV × AV)}, RepD K w F tk L kvs → L.length = kvs.length
  | _, _, _, .nil => rfl
  | _, _, _, .cons _ _ r => by rw [List.length_cons, List.length_cons, r.length]
  | _, _, _, .consT _ _ _ r => by rw [List.length_cons, List.length_cons, r.length]
theorem RepD.isK : ∀ {L : List Ent} {kvs : List (AV × AV)}, RepD K w F false L kvs → ∃ L0, L = emK L0
  | _, _, .nil => ⟨[], rfl⟩
  | _, _, .cons _ _ r => by
    obtain ⟨L0, rfl⟩ := r.isK
    exact ⟨(_, _) :: L0, rfl⟩
theorem RepD.isT : ∀ {L : List Ent} {kvs : List (AV × AV)}, RepD K w F true L kvs → ∃ L0, L = emT L0
  | _, _, .nil => ⟨[], rfl⟩
  | _, _, .consT _ _ _ r => by
    obtain ⟨L0, rfl⟩ := r.isT
    exact ⟨(_, _, _) :: L0, rfl⟩
theorem RepD.kind {tk : Bool} {L : List Ent} {kvs : List (AV × AV)} {k : AV} (r : RepD K w F tk L kvs) (h : kindOk kvs k = true) : (leafK k = true ∧ RepD K w F false L kvs) ∨ (tupKey k = true ∧ RepD K w F true L kvs) := by
  cases r with
  | nil =>
    have h : (leafK k || tupKey k) = true := h
    rw [Bool.or_eq_true] at h
    exact h.imp (fun z => ⟨z, .nil⟩) fun z => ⟨z, .nil⟩
  | @cons nk vv L k0 v kvs h1 r1 r =>
    have h : ((leafK k0 && leafK k) || (tupKey k0 && tupKey k)) = true := h
    rw [Bool.or_eq_true, Bool.and_eq_true, Bool.and_eq_true] at h
    rcases h with h | h
    · exact .inl ⟨h.2, .cons h1 r1 r⟩
    · cases k0 with
      | int _ => exact absurd h.1 (by simp [tupKey])
      | str _ => exact absurd h.1 (by simp [tupKey])
      | _ => cases h1
  | @consT nk b vv L k0 v kvs h1 r0 r1 r =>
    have h : ((leafK k0 && leafK k) || (tupKey k0 && tupKey k)) = true := h
    rw [Bool.or_eq_true, Bool.and_eq_true, Bool.and_eq_true] at h
    rcases h with h | h
    · obtain ⟨_, _, ds, rfl⟩ := keyT_nest h1
      exact absurd h.1 (by simp [leafK])
    · exact .inr ⟨h.2, .consT h1 r0 r1 r⟩
theorem RepD.any {k : AV} {nk : Key} (hk : keyA k = some nk) : ∀ {L : List (Key × V)} {kvs : List (AV × AV)}, RepD K w F false (emK L) kvs → (kvs.any fun p => PyData.eqv p.1 k) = L.any fun p => decide (p.1 = nk)
  | [], _, .nil => rfl
  | (_, _) :: _, _, .cons h _ r => by rw [List.any_cons, List.any_cons, RepD.any hk r, keyA_eqv h hk]
theorem RepD.repl {k : AV} {nk : Key} {v : AV} {vv : V} (hk : keyA k = some nk) (hv : Rep K w F vv v) : ∀ {L : List (Key × V)} {kvs : List (AV × AV)}, RepD K w F false (emK L) kvs → RepD K w F false (emK (L.map fun p => if p.1 = nk then (p.1, vv) else p)) (kvs.map fun p => if PyData.eqv p.1 k = true then (p.1, v) else p)
  | [], _, .nil => .nil
  | (nk', _) :: _, _, .cons h r1 r => by
    rw [List.map_cons, List.map_cons, keyA_eqv h hk]
    by_cases e : nk' = nk
    · rw [if_pos (decide_eq_true e), if_pos e]; exact .cons h hv (RepD.repl hk hv r)
    · rw [if_neg (fun z => e (of_decide_eq_true z)), if_neg e]; exact .cons h r1 (RepD.repl hk hv r)
theorem RepD.snoc {k : AV} {nk : Key} {v : AV} {vv : V} (hk : keyA k = some nk) (hv : Rep K w F vv v) : ∀ {L : List (Key × V)} {kvs : List (AV × AV)}, RepD K w F false (emK L) kvs → RepD K w F false (emK (L ++ [(nk, vv)])) (kvs ++ [(k, v)])
  | [], _, .nil => .cons hk hv .nil
  | (_, _) :: _, _, .cons h r1 r => .cons h r1 (RepD.snoc hk hv r)
theorem RepD.put {k : AV} {nk : Key} {v : AV} {vv : V} (hk : keyA k = some nk) (hv : Rep K w F vv v) {L : List (Key × V)} {kvs : List (AV × AV)} (r : RepD K w F false (emK L) kvs) : RepD K w F false (emK (putK L nk vv)) (dput kvs k v) := by
  unfold putK dput
  rw [r.any hk]
  split
  · exact r.repl hk hv
  · exact r.snoc hk hv
theorem RepD.keys : ∀ {L : List (Key × V)} {kvs : List (AV × AV)}, RepD K w F false (emK L) kvs → RepL K w F (L.map fun p => kV p.1) (kvs.map (·.1))
  | [], _, .nil => .nil
  | (_, _) :: _, _, .cons h _ r => .cons (rep_keyA h) (RepD.keys r)
/-- a store at a key tuple -/
def putT (L : List (NestedKey × Addr × V)) (nk : NestedKey) (b : Addr) (vv : V) : List (NestedKey × Addr × V) := if (L.any fun p => decide (p.1 = nk)) = true then L.map fun p => if p.1 = nk then (p.1, p.2.1, vv) else p else L ++ [(nk, b, vv)]
theorem RepD.anyT {k : AV} {nk : NestedKey} (hk : keyT k = some nk) : ∀ {L : List (NestedKey × Addr × V)} {kvs : List (AV × AV)}, RepD K w F true (emT L) kvs → (kvs.any fun p => PyData.eqv p.1 k) = L.any fun p => decide (p.1 = nk)
  | [], _, .nil => rfl
  | (_, _, _) :: _, _, .consT h _ _ r => by rw [List.any_cons, List.any_cons, RepD.anyT hk r, keyT_eqv h hk]
theorem RepD.replT {k : AV} {nk : NestedKey} {v : AV} {vv : V} (hk : keyT k = some nk) (hv : Rep K w F vv v) : ∀ {L : List (NestedKey × Addr × V)} {kvs : List (AV × AV)}, RepD K w F true (emT L) kvs → RepD K w F true (emT (L.map fun p => if p.1 = nk then (p.1, p.2.1, vv) else p)) (kvs.map fun p => if PyData.eqv p.1 k = true then (p.1, v) else p)
  | [], _, .nil => .nil
  | (nk', _, _) :: _, _, .consT h r0 r1 r => by
    rw [List.map_cons, List.map_cons, keyT_eqv h hk]
    by_cases e : nk' = nk
    · rw [if_pos (decide_eq_true e), if_pos e]; exact .consT h r0 hv (RepD.replT hk hv r)
    · rw [if_neg (fun z => e (of_decide_eq_true z)), if_neg e]; exact .consT h r0 r1 (RepD.replT hk hv r)
theorem RepD.snocT {k : AV} {nk : NestedKey} {b : Addr} {v : AV} {vv : V} (hk : keyT k = some nk) (hb : Rep K w F (.ref b) k) (hv : Rep K w F vv v) : ∀ {L : List (NestedKey × Addr × V)} {kvs : List (AV × AV)}, RepD K w F true (emT L) kvs → RepD K w F true (emT (L ++ [(nk, b, vv)])) (kvs ++ [(k, v)])
  | [], _, .nil => .consT hk hb hv .nil
  | (_, _, _) :: _, _, .consT h r0 r1 r => .consT h r0 r1 (RepD.snocT hk hb hv r)
theorem RepD.putT {k : AV} {nk : NestedKey} {b : Addr} {v : AV} {vv : V} (hk : keyT k = some nk) (hb : Rep K w F (.ref b) k) (hv : Rep K w F vv v) {L : List (NestedKey × Addr × V)} {kvs : List (AV × AV)} (r : RepD K w F true (emT L) kvs) : RepD K w F true (emT (putT L nk b vv)) (dput kvs k v) := by
  unfold Ev.putT dput
  rw [r.anyT hk]
  split
  · exact r.replT hk hv
  · exact r.snocT hk hb hv
theorem RepL.get : ∀ {vs : List V} {ds : List AV} {i : Nat} {d : AV}, RepL K w F vs ds → ds[i]? = some d → ∃ v, vs[i]? = some v ∧ Rep K w F v d
  | _, _, _, _, .nil, e => by simp at e
  | _, _, 0, _, .cons h _, e => by simp at e; subst e; exact ⟨_, rfl, h⟩
  | _, _, i + 1, _, .cons _ r, e => by
    obtain ⟨v, h1, h2⟩ := RepL.get (i := i) r (by simpa using e)
    exact ⟨v, by simpa using h1, h2⟩
theorem RepL.get' : ∀ {vs : List V} {ds : List AV} {i : Nat} {v : V}, RepL K w F vs ds → vs[i]? = some v → ∃ d, ds[i]? = some d ∧ Rep K w F v d
  | _, _, _, _, .nil, e => by simp at e
  | _, _, 0, _, .cons h _, e => by simp at e; subst e; exact ⟨_, rfl, h⟩
  | _, _, i + 1, _, .cons _ r, e => by
    obtain ⟨v, h1, h2⟩ := RepL.get' (i := i) r (by simpa using e)
    exact ⟨v, by simpa using h1, h2⟩
theorem RepL.append : ∀ {vs us : List V} {ds es : List AV}, RepL K w F vs ds → RepL K w F us es → RepL K w F (vs ++ us) (ds ++ es)
  | _, _, _, _, .nil, s => s
  | _, _, _, _, .cons h r, s => .cons h (r.append s)
theorem RepL.take : ∀ {vs : List V} {ds : List AV} (n : Nat), RepL K w F vs ds → RepL K w F (vs.take n) (ds.take n)
  | _, _, 0, _ => .nil
  | _, _, _ + 1, .nil => .nil
  | _, _, n + 1, .cons h r => .cons h (r.take n)
theorem RepL.drop : ∀ {vs : List V} {ds : List AV} (n : Nat), RepL K w F vs ds → RepL K w F (vs.drop n) (ds.drop n)
  | _, _, 0, r => r
  | _, _, _ + 1, .nil => .nil
  | _, _, n + 1, .cons _ r => r.drop n
theorem RepL.set {v : V} {d : AV} (h : Rep K w F v d) : ∀ {vs : List V} {ds : List AV} (n : Nat), RepL K w F vs ds → RepL K w F (vs.set n v) (ds.set n d)
  | _, _, _, .nil => .nil
  | _, _, 0, .cons _ r => .cons h r
  | _, _, n + 1, .cons h' r => .cons h' (RepL.set h n r)
theorem RepL.erase : ∀ {vs : List V} {ds : List AV} (n : Nat), RepL K w F vs ds → RepL K w F (vs.eraseIdx n) (ds.eraseIdx n)
  | _, _, _, .nil => .nil
  | _, _, 0, .cons _ r => r
  | _, _, n + 1, .cons h' r => .cons h' (RepL.erase n r)
theorem RepL.dropLast {vs : List V} {ds : List AV} (r : RepL K w F vs ds) : RepL K w F vs.dropLast ds.dropLast := by
  rw [List.dropLast_eq_take, List.dropLast_eq_take, r.length]
  exact r.take _
theorem RepL.snoc {vs : List V} {ds : List AV} {v : V} {d : AV} (r : RepL K w F vs ds) (h : Rep K w F v d) : RepL K w F (vs ++ [v]) (ds ++ [d]) := r.append (.cons h .nil)
end
/-! ### the state of a frame -/
section
variable (K : PySem.W.Frag) (w : World)
/-- v alone holds the value: not among the frozen objects (F), not among those of others (B) -/
def OwnV (F B H : Hp) (v : V) : AV → Prop
  | .list ds => ∃ a xs, v = .ref a ∧ F a = none ∧ B a = none ∧ H a = some (.lst xs) ∧ RepL K w F xs ds
  | .dict kvs => ∃ a ep L tk, v = .ref a ∧ F a = none ∧ B a = none ∧ H a = some (dictH w a ep L) ∧ RepD K w F tk L kvs
  | d => Rep K w F v d
/-- IO: the io parameters and where their lists and dicts stand; F0: what was frozen at the entry, F: what is; B: what others hold; O: the owned slots -/
structure SR (IO : List (Nat × Addr)) (F0 F B : Hp) (O : Sl) (σ : St) (H : Hp) (env : Env) : Prop where
  fh : Same F H
  bh : Same B H
  f0 : Same F0 F
  fb : ∀ a o, F a = some o → F0 a = some o ∨ B a = none
  slot : ∀ i d, env[i]? = some (some d) → ∃ v, σ[i]? = some (some v) ∧ (i ∈ O → OwnV K w F B H v d) ∧ (i ∉ O → Rep K w F v d)
  apart : ∀ i j a d e, i ∈ O → j ∈ O → env[i]? = some (some d) → env[j]? = some (some e) → mutA d = true → mutA e = true → σ[i]? = some (some (.ref a)) → σ[j]? = some (some (.ref a)) → i = j
  len : env.length = σ.length
  io : ∀ p ∈ IO, p.1 ∈ O → σ[p.1]? = some (some (.ref p.2))
end
theorem same_upd' {H : Hp} {p : Addr} {o : HO} (h : H p = none) : Same H (upd H p o) := fun b x e => by
  rw [upd_ne (ne_of_none e h)]
  exact e
section
variable {K : PySem.W.Frag} {w : World} {IO : List (Nat × Addr)} {F0 F F' B H H' : Hp} {O : Sl} {σ : St} {env : Env}
theorem OwnV.of_rep {v : V} {d : AV} (h : mutA d = false) (r : Rep K w F v d) : OwnV K w F B H v d := by
  cases d <;> first | exact r | cases h
theorem OwnV.rep {v : V} {d : AV} (h : mutA d = false) (r : OwnV K w F B H v d) : Rep K w F v d := by
  cases d <;> first | exact r | cases h
/-- what is laid anew: old things stay, what is frozen now was frozen or is new -/
structure Ext (F H F' H' : Hp) : Prop where
  hh : Same H H'
  ff : Same F F'
  fh : Same F' H'
  nw : ∀ a o, F' a = some o → F a = some o ∨ H a = none
theorem Ext.refl (h : Same F H) : Ext F H F H := ⟨Same.refl _, Same.refl _, h, fun _ _ e => .inl e⟩
theorem Ext.trans {F'' H'' : Hp} (a : Ext F H F' H') (b : Ext F' H' F'' H'') : Ext F H F'' H'' :=
  ⟨a.hh.trans b.hh, a.ff.trans b.ff, b.fh, fun c o e => (b.nw c o e).elim (fun q => a.nw c o q) fun q => .inr (a.hh.free q)⟩
theorem Same.none {H H' : Hp} (s : Same H H') {a : Addr} (h : H' a = Option.none) : H a = Option.none := s.free h
/-- an owned value under what is laid anew -/
theorem OwnV.ext {v : V} {d : AV} (x : Ext F H F' H') (r : OwnV K w F B H v d) : OwnV K w F' B H' v d := by
  have key : ∀ {a : Addr} {o : HO}, F a = none → H a = some o → F' a = none := fun {a o} h1 h2 => by
    cases q : F' a with
    | none => rfl
    | some u =>
      rcases x.nw a u q with e | e
      · rw [h1] at e; cases e
      · rw [h2] at e; cases e
  cases d with
  | list ds =>
    obtain ⟨a, xs, e, h1, h2, h3, h4⟩ := r
    exact ⟨a, xs, e, key h1 h3, h2, x.hh _ _ h3, h4.mono x.ff⟩
  | dict kvs =>
    obtain ⟨a, ep, L, tk, e, h1, h2, h3, h4⟩ := r
    exact ⟨a, ep, L, tk, e, key h1 h3, h2, x.hh _ _ h3, h4.mono x.ff⟩
  | none => exact Rep.mono x.ff r
  | bool b => exact Rep.mono x.ff r
  | int b => exact Rep.mono x.ff r
  | str b => exact Rep.mono x.ff r
  | tuple b => exact Rep.mono x.ff r
theorem SR.ext (S : SR K w IO F0 F B O σ H env) (x : Ext F H F' H') : SR K w IO F0 F' B O σ H' env where
  fh := x.fh
  bh := S.bh.trans x.hh
  f0 := S.f0.trans x.ff
  fb := fun a o e => (x.nw a o e).elim (S.fb a o) fun q => .inr (S.bh.free q)
  slot := fun i d e => let ⟨v, h1, h2, h3⟩ := S.slot i d e; ⟨v, h1, fun q => (h2 q).ext x, fun q => (h3 q).mono x.ff⟩
  apart := S.apart
  len := S.len
  io := S.io
/-- fewer slots are owned: the value of one is frozen -/
theorem SR.freeze {i : Nat} (S : SR K w IO F0 F B O σ H env) : ∃ F', SR K w IO F0 F' B (er O i) σ H env ∧ Same F F' ∧ (∀ d v, env[i]? = some (some d) → σ[i]? = some (some v) → Rep K w F' v d) := by
  have out : ∀ j, j ∈ er O i → j ∈ O ∧ j ≠ i := fun j h => by simpa [er] using h
  have inn : ∀ j, j ∈ O → j ≠ i → j ∈ er O i := fun j h1 h2 => by simp [er, h1, h2]
  by_cases hO : i ∈ O
  · by_cases hex : ∃ d, env[i]? = some (some d)
    · obtain ⟨d, hd⟩ := hex
      obtain ⟨v, hv, h2, _⟩ := S.slot i d hd
      have own := h2 hO
      -- the value is frozen where it stands
      have fin : ∀ (F' : Hp), Same F F' → Same F' H → (∀ a o, F' a = some o → F a = some o ∨ (v = .ref a ∧ B a = none ∧ mutA d = true)) → Rep K w F' v d →
          ∃ F', SR K w IO F0 F' B (er O i) σ H env ∧ Same F F' ∧ (∀ d v, env[i]? = some (some d) → σ[i]? = some (some v) → Rep K w F' v d) := fun F' s1 s2 s3 r => by
        refine ⟨F', ⟨s2, S.bh, S.f0.trans s1, fun a o e => (s3 a o e).elim (S.fb a o) fun q => .inr q.2.1, fun j e hj => ?_, fun j k a d e h1 h2 => S.apart j k a d e (out j h1).1 (out k h2).1, S.len, fun p hp h => S.io p hp (out _ h).1⟩, s1, fun d' v' e1 e2 => ?_⟩
        · obtain ⟨u, g1, g2, g3⟩ := S.slot j e hj
          refine ⟨u, g1, fun q => ?_, fun q => ?_⟩
          · obtain ⟨q1, q2⟩ := out j q
            have o1 := g2 q1
            have key : ∀ {b : Addr}, u = .ref b → F b = none → mutA e = true → F' b = none := fun {b} eb hb hm => by
              cases q' : F' b with
              | none => rfl
              | some o =>
                rcases s3 b o q' with z | ⟨z1, _, z3⟩
                · rw [hb] at z; cases z
                · exact absurd (S.apart j i b e d q1 hO hj hd hm z3 (by rw [g1, eb]) (by rw [hv, z1])) q2
            cases e with
            | list ds =>
              obtain ⟨a, xs, e1, f1, f2, f3, f4⟩ := o1
              exact ⟨a, xs, e1, key e1 f1 rfl, f2, f3, f4.mono s1⟩
            | dict kvs =>
              obtain ⟨a, ep, L, tk, e1, f1, f2, f3, f4⟩ := o1
              exact ⟨a, ep, L, tk, e1, key e1 f1 rfl, f2, f3, f4.mono s1⟩
            | none => exact Rep.mono s1 o1
            | bool b => exact Rep.mono s1 o1
            | int b => exact Rep.mono s1 o1
            | str b => exact Rep.mono s1 o1
            | tuple b => exact Rep.mono s1 o1
          · by_cases hji : j = i
            · subst hji
              rw [hd] at hj; cases hj
              rw [hv] at g1; cases g1
              exact r
            · exact (g3 fun z => q (inn j z hji)).mono s1
        · rw [hd] at e1; cases e1
          rw [hv] at e2; cases e2
          exact r
      have frz : ∀ (a : Addr) (o : HO), v = .ref a → F a = none → B a = none → H a = some o → mutA d = true → (Same F (upd F a o) ∧ Same (upd F a o) H ∧ ∀ b u, upd F a o b = some u → F b = some u ∨ (v = .ref b ∧ B b = none ∧ mutA d = true)) := fun a o e1 e2 e3 e4 e5 => by
        refine ⟨same_upd' e2, fun b u q => ?_, fun b u q => ?_⟩
        · by_cases hb : b = a
          · subst hb; rw [upd_same] at q; cases q; exact e4
          · rw [upd_ne hb] at q; exact S.fh _ _ q
        · by_cases hb : b = a
          · subst hb; exact .inr ⟨e1, e3, e5⟩
          · rw [upd_ne hb] at q; exact .inl q
      cases d with
      | list ds =>
        obtain ⟨a, xs, e1, f1, f2, f3, f4⟩ := own
        obtain ⟨z1, z2, z3⟩ := frz a _ e1 f1 f2 f3 rfl
        exact fin _ z1 z2 z3 (by rw [e1]; exact .lst (.inl (.inl upd_same)) (f4.mono z1))
      | dict kvs =>
        obtain ⟨a, ep, L, tk, e1, f1, f2, f3, f4⟩ := own
        obtain ⟨z1, z2, z3⟩ := frz a _ e1 f1 f2 f3 rfl
        exact fin _ z1 z2 z3 (by rw [e1]; exact .dct upd_same (f4.mono z1))
      | none => exact fin F (Same.refl _) S.fh (fun _ _ e => .inl e) own
      | bool b => exact fin F (Same.refl _) S.fh (fun _ _ e => .inl e) own
      | int b => exact fin F (Same.refl _) S.fh (fun _ _ e => .inl e) own
      | str b => exact fin F (Same.refl _) S.fh (fun _ _ e => .inl e) own
      | tuple b => exact fin F (Same.refl _) S.fh (fun _ _ e => .inl e) own
    · refine ⟨F, ⟨S.fh, S.bh, S.f0, S.fb, fun j d e => ?_, fun j k a d e h1 h2 => S.apart j k a d e (out j h1).1 (out k h2).1, S.len, fun p hp h => S.io p hp (out _ h).1⟩, Same.refl _, fun d v e => (hex ⟨d, e⟩).elim⟩
      obtain ⟨v, h1, h2, h3⟩ := S.slot j d e
      refine ⟨v, h1, fun q => h2 (out j q).1, fun q => ?_⟩
      by_cases hj : j = i
      · subst hj; exact (hex ⟨d, e⟩).elim
      · exact h3 fun z => q (inn j z hj)
  · refine ⟨F, ⟨S.fh, S.bh, S.f0, S.fb, fun j d e => ?_, fun j k a d e h1 h2 => S.apart j k a d e (out j h1).1 (out k h2).1, S.len, fun p hp h => S.io p hp (out _ h).1⟩, Same.refl _, fun d v e1 e2 => ?_⟩
    · obtain ⟨v, h1, h2, h3⟩ := S.slot j d e
      refine ⟨v, h1, fun q => h2 (out j q).1, fun q => ?_⟩
      by_cases hj : j = i
      · subst hj; exact h3 hO
      · exact h3 fun z => q (inn j z hj)
    · obtain ⟨u, h1, _, h3⟩ := S.slot i d e1
      rw [h1] at e2; cases e2
      exact h3 hO
end
end Ev
end
section
set_option linter.all false
set_option autoImplicit false
set_option maxRecDepth 100000
set_option maxHeartbeats 2000000
/-! EvB2: a dict's object and the kit's ways to tell it. -/
namespace Ev
open PySem PySem.Spec PyProof.Rows L2
section
variable {P : Program} {w : World} {H : Hp} {h : Heap} {a : Addr} {o : Obj}
theorem dic_obj {L : List Ent} (d : DicP w a o L h) : ObjOk P w H h a (dictH w a o L) :=
  ⟨d, ⟨o, d.2.2.1⟩, fun h1 h2 ⟨z, y, e, r⟩ k => ⟨z, y, k o e, r⟩⟩
theorem dic_at {L : List Ent} (ok : HOk P w H h) (e : H a = some (dictH w a o L)) : DicP w a o L h := (show ObjOk P w H h a (dictH w a o L) from ok a _ e).1
theorem mut_dict {L : List Ent} : Mut (some (dictH w a o L)) := True.intro
theorem ents_K : ∀ {L : List (Key × V)} {es : List DictEntry}, Paired (EntW w) es (emK L) → ∃ vs, KV L vs ∧ Pairs (mixKind P w) es vs ∧ ∀ e ∈ es, ∃ k, (mixKind P w).is k e.key = true ∧ e.hash = (mixKind P w).hash k
  | [], _, .nil => ⟨[], .nil, .nil, fun e h => by cases h⟩
  | (k, v) :: L, e :: es, .cons r t => by
    obtain ⟨vs, h1, h2, h3⟩ := ents_K t
    have r : keyIs k e.key = true ∧ e.hash = keyH w k ∧ RelV v e.val := r
    refine ⟨(k, e.val) :: vs, .cons ⟨rfl, r.2.2⟩ h1, .cons r.1 rfl h2, fun e' h => ?_⟩
    rcases List.mem_cons.mp h with rfl | h
    · exact ⟨k, r.1, r.2.1⟩
    · exact h3 e' h
theorem K_ents : ∀ {L : List (Key × V)} {vs : List (Key × Value)} {es : List DictEntry}, KV L vs → Pairs (mixKind P w) es vs → (∀ e ∈ es, ∃ k, (mixKind P w).is k e.key = true ∧ e.hash = (mixKind P w).hash k) → Paired (EntW w) es (emK L)
  | [], _, _, .nil, .nil, _ => .nil
  | _ :: _, _, [], .cons _ _, h, _ => by cases h
  | (k, v) :: L, _, e :: es, .cons r t, .cons h1 h2 h3, hk => by
    refine .cons ?_ (K_ents t h3 fun e' h => hk e' (List.mem_cons_of_mem _ h))
    obtain ⟨k', g1, g2⟩ := hk e List.mem_cons_self
    obtain ⟨r1, r2⟩ := r
    dsimp only at r1
    subst r1
    have e1 := (mixKind P w).inj _ _ _ g1 h1
    refine ⟨h1, ?_, ?_⟩
    · rw [g2, e1]; rfl
    · rw [h2]; exact r2
theorem keys_K (L : List (Key × V)) : (emK L).map entK = (L.map (·.1)).map .inl := by
  unfold emK
  rw [List.map_map, List.map_map]
  rfl
theorem keys_T (L : List (NestedKey × Addr × V)) : (emT L).map entK = (L.map (·.1)).map .inr := by
  unfold emT
  rw [List.map_map, List.map_map]
  rfl
theorem nodup_inl {α β : Type} {l : List α} (h : (l.map (Sum.inl : α → α ⊕ β)).Nodup) : l.Nodup := (List.pairwise_map.mp h).imp fun q z => q (by rw [z])
theorem nodup_inr {α β : Type} {l : List β} (h : (l.map (Sum.inr : β → α ⊕ β)).Nodup) : l.Nodup := (List.pairwise_map.mp h).imp fun q z => q (by rw [z])
theorem inl_nodup {α β : Type} {l : List α} (h : l.Nodup) : (l.map (Sum.inl : α → α ⊕ β)).Nodup := List.pairwise_map.mpr (h.imp fun q z => q (Sum.inl.inj z))
theorem inr_nodup {α β : Type} {l : List β} (h : l.Nodup) : (l.map (Sum.inr : β → α ⊕ β)).Nodup := List.pairwise_map.mpr (h.imp fun q z => q (Sum.inr.inj z))
theorem KV.fst {L : List (Key × V)} {vs : List (Key × Value)} (r : KV L vs) : L.map (·.1) = vs.map (·.1) := L2.KV.keys r
/-- keys that are numbers or texts -/
theorem dk_in {L : List (Key × V)} (d : DicP w a o (emK L) h) : L.length ≤ sizeLine ∧ (a == sysModules) = false ∧ ∃ vs, KV L vs ∧ h.DictOf (mixKind P w) a vs := by
  obtain ⟨z, y, e, hx, es, ep, hd, pr, hn⟩ := d
  obtain ⟨vs, h1, h2, h3⟩ := ents_K (P := P) pr
  refine ⟨by simpa [emK] using z, y, vs, h1, o, es, ep, e, hx, hd, fun e' h => h3 e' (by simpa using h), h2, ?_⟩
  rw [← KV.fst h1]
  rw [keys_K] at hn
  exact nodup_inl hn
theorem dk_out {L : List (Key × V)} {vs : List (Key × Value)} (z : L.length ≤ sizeLine) (y : (a == sysModules) = false) (rel : KV L vs) (dd : h.DictOf (mixKind P w) a vs) : ∃ o, DicP w a o (emK L) h := by
  obtain ⟨o, es, ep, e, hx, hd, hk, hp, hn⟩ := dd
  refine ⟨o, by simpa [emK] using z, y, e, hx, es, ep, hd, K_ents rel hp fun e' h => hk e' (by simpa using h), ?_⟩
  rw [keys_K]
  refine inl_nodup ?_
  rw [KV.fst rel]
  exact hn
abbrev EntR : NestedKey × Addr × V → NestedKey × Addr × Value → Prop := fun p q => p.1 = q.1 ∧ p.2.1 = q.2.1 ∧ RelV p.2.2 q.2.2
theorem ents_T : ∀ {L : List (NestedKey × Addr × V)} {es : List DictEntry}, Paired (EntW w) es (emT L) → ∃ xs, Paired EntR L xs ∧ es = xs.map (entryOfKey (nestedKind P w))
  | [], _, .nil => ⟨[], .nil, rfl⟩
  | (nk, b, v) :: L, e :: es, .cons r t => by
    obtain ⟨xs, h1, h2⟩ := ents_T t
    have r : e.hash = nk.hash w ∧ e.key = .ref b ∧ RelV v e.val := r
    refine ⟨(nk, b, e.val) :: xs, .cons ⟨rfl, rfl, r.2.2⟩ h1, ?_⟩
    rw [List.map_cons, ← h2]
    congr 1
    obtain ⟨eh, ek, ev⟩ := e
    obtain ⟨r1, r2, _⟩ := r
    dsimp only at r1 r2
    rw [r1, r2]
    rfl
theorem T_ents : ∀ {L : List (NestedKey × Addr × V)} {xs : List (NestedKey × Addr × Value)}, Paired EntR L xs → Paired (EntW w) (xs.map (entryOfKey (nestedKind P w))) (emT L)
  | [], _, .nil => .nil
  | (nk, b, v) :: L, (nk', b', u) :: xs, .cons r t => by
    obtain ⟨r1, r2, r3⟩ := r
    dsimp only at r1 r2 r3
    subst r1 r2
    exact .cons ⟨rfl, rfl, r3⟩ (T_ents t)
theorem fst_T {L : List (NestedKey × Addr × V)} {xs : List (NestedKey × Addr × Value)} (r : Paired EntR L xs) : L.map (·.1) = xs.map (·.1) := by
  induction r with
  | nil => rfl
  | cons h t ih => rw [List.map_cons, List.map_cons, ih, h.1]
/-- keys that are tuples -/
theorem dt_in {L : List (NestedKey × Addr × V)} (d : DicP w a o (emT L) h) : L.length ≤ sizeLine ∧ (a == sysModules) = false ∧ ∃ xs, Paired EntR L xs ∧ ∃ es ep, h.get? a = some o ∧ o.ExactDict ∧ o.data = .dict es ep ∧ es.toList = xs.map (entryOfKey (nestedKind P w)) ∧ (xs.map (·.1)).Nodup := by
  obtain ⟨z, y, e, hx, es, ep, hd, pr, hn⟩ := d
  obtain ⟨xs, h1, h2⟩ := ents_T (P := P) pr
  refine ⟨by simpa [emT] using z, y, xs, h1, es, ep, e, hx, hd, h2, ?_⟩
  rw [← fst_T h1]
  rw [keys_T] at hn
  exact nodup_inr hn
theorem dt_out {L : List (NestedKey × Addr × V)} {xs : List (NestedKey × Addr × Value)} {knd : HeapKind P w NestedKey} (hk : knd = nestedKind P w) (z : L.length ≤ sizeLine) (y : (a == sysModules) = false) (rel : Paired EntR L xs) (dd : h.DictOfH knd a xs) : ∃ o, DicP w a o (emT L) h := by
  subst hk
  obtain ⟨o, es, ep, e, hx, hd, he, _, hn⟩ := dd
  refine ⟨o, by simpa [emT] using z, y, e, hx, es, ep, hd, by rw [he]; exact T_ents rel, ?_⟩
  rw [keys_T]
  refine inr_nodup ?_
  rw [fst_T rel]
  exact hn
end
section
variable {X : Cx} {pins : List (Addr × Obj)} {σ : L2.St} {H : Hp} {s : Shared} {a : Addr}
/-- a dict of the kit's, told by its object -/
theorem todict {L : List (Key × V)} (I : Inv X pins σ H s) (h : H a = some (.dK L)) : ∃ o, Inv X pins σ (upd H a (dictH X.w a o (emK L))) s := by
  obtain ⟨z, y, vs, rel, dd⟩ := dk_of I.hok h
  obtain ⟨o, d⟩ := dk_out z y rel dd
  exact ⟨o, d_write (h' := s.heap) (t' := s.toks) I (by rw [h]; exact True.intro) ⟨rfl, fun _ _ => rfl⟩ ⟨o, d.2.2.1⟩ (dic_obj d)⟩
def tDNew (X : Cx) : TE := fun _ H Q => ∀ p o, H p = none → Q (.ref p) (upd H p (dictH X.w p o []))
theorem pe_dnew {pos : Pos} : PE X (.Dict [] [] pos) (tDNew X) := ⟨fun pins s σ H Q I h =>
  thn ((pe_dnewK (X := X) (pos := pos)).run pins s σ H (fun v H' => ∃ p, v = .ref p ∧ H p = none ∧ H' = upd H p (.dK [])) I fun p hp => ⟨p, rfl, hp, rfl⟩) fun v s1 ⟨x, H1, I1, rx, p, ep, hp, eH⟩ => by
    subst ep eH
    obtain ⟨o, I2⟩ := todict I1 upd_same
    rw [upd_upd] at I2
    exact ⟨_, _, I2, rx, h p o hp⟩⟩
end
end Ev
end
section
set_option linter.all false
set_option autoImplicit false
set_option maxRecDepth 100000
set_option maxHeartbeats 2000000
/-! EvC0: a tuple times a number, the cases without a longer tuple. -/
namespace Ev
open PySem PySem.Spec PyProof.Rows L2
theorem tmul_same (l : Addr) (items : Array Value) (n : Nat) (dd : Option Addr) (sl : Array (Option Value)) (x : Int) (u : Tok) (c0 : (decide (x < -(2 ^ 63)) || decide (x ≥ 2 ^ 63)) = false) (c1 : (items.isEmpty || x == 1) = true) :
    Meets (Builtin.«tuple.__mul__» ⟨[.ref l, .int x u], []⟩) (fun _ R s => s.heap.get? l = some { cls := .type "tuple", dict := dd, data := .seq items n, slots := sl } ∧ R (.ok (.ret (.ref l))) s) :=
  .of_wp fun prog w A R s h => by
    obtain ⟨hp, g, d, tk, os⟩ := s
    obtain ⟨hl, h⟩ := h
    have f1 := AutoSeq1.idx_int
    wp_walk using wpAny_loadPart' hl
    repeat (first
      | (refine wpAny_ite_false (decide_eq_false (by rw [c0]; exact Bool.false_ne_true)) ?_; wp_walk using wpAny_loadPart' hl)
      | (refine wpAny_ite_true (decide_eq_true c1) ?_; wp_walk using wpAny_loadPart' hl))
    exact ⟨_, rfl, h⟩
theorem tmul_none (l : Addr) (items : Array Value) (n : Nat) (dd : Option Addr) (sl : Array (Option Value)) (x : Int) (u : Tok) (c0 : (decide (x < -(2 ^ 63)) || decide (x ≥ 2 ^ 63)) = false) (c1 : (items.isEmpty || x == 1) = false) (c2 : (decide (x ≤ 0) || items.isEmpty) = true) :
    Meets (Builtin.«tuple.__mul__» ⟨[.ref l, .int x u], []⟩) (fun _ R s => s.heap.get? l = some { cls := .type "tuple", dict := dd, data := .seq items n, slots := sl } ∧
      R (.ok (.ret (Value.ref s.heap.objs.size))) { s with heap := s.heap.push { cls := Value.type "tuple", data := Data.seq #[] }, toks := s.toks }) :=
  .of_wp fun prog w A R s h => by
    obtain ⟨hp, g, d, tk, os⟩ := s
    obtain ⟨hl, h⟩ := h
    have f1 := AutoSeq1.idx_int
    wp_walk using wpAny_loadPart' hl
    repeat (first
      | (refine wpAny_ite_false (decide_eq_false (by rw [c0]; exact Bool.false_ne_true)) ?_; wp_walk using wpAny_loadPart' hl)
      | (refine wpAny_ite_false (decide_eq_false (by rw [c1]; exact Bool.false_ne_true)) ?_; wp_walk using wpAny_loadPart' hl)
      | (refine wpAny_ite_true (decide_eq_true c2) ?_; wp_walk using wpAny_loadPart' hl))
    exact ⟨_, rfl, h⟩
def rRep1 (K : PySem.W.Frag) : R2 := fun x y H Q => ∃ l k xs, x = .ref l ∧ y = .int k ∧ SqT K H l xs ∧ k ≤ 1000 ∧ -1000 ≤ k ∧ ((xs = [] ∨ k = 1) ∧ Q (.ref l) H ∨ (xs ≠ [] ∧ k ≤ 0) ∧ ∀ p, H p = none → Q (.ref p) (upd H p (.tup [])))
section
variable {X : Cx}
theorem op_rep1 : OpR X (binaryOp .Mult) (rRep1 X.K) := by
  intro pins s σ H x y v u Q I rx ry h
  obtain ⟨l, k, xs, rfl, rfl, hT, h1, h2, hq⟩ := h
  cases rx
  obtain ⟨t, rfl⟩ := ry
  obtain ⟨its, r, ⟨⟨cls, dd, data, sl⟩, ho, hc, n, hd⟩, hs⟩ := I.tuple hT
  simp only at hc hd
  subst hc hd
  have c0 : (decide (k < -(2 ^ 63)) || decide (k ≥ 2 ^ 63)) = false := by
    rw [decide_eq_false (by omega), decide_eq_false (by omega)] <;> rfl
  have hemp : its.toArray.isEmpty = true ↔ xs = [] := by
    rw [List.isEmpty_toArray, List.isEmpty_iff]
    constructor
    · rintro rfl; cases r; rfl
    · rintro rfl; cases r; rfl
  refine wpAny_binaryOp_repeat_ref (T := "tuple") (U := "int") (by decide) ⟨_, ho, rfl⟩ (fun s' => typeIs_int s' k t) noFill_tuple_mul F.fills_int_mul F.slot_int_rmul repeat_tuple F.slot_int_index.lookup
    (call_meets F.slot_int_rmul (typeIs_int s k t) F.entry_int_rmul (F.args_int_rmul_2 _ _) (int_rmul_tuple k t l its.toArray n dd sl) ⟨ho, rfl, ⟨_, ho, rfl⟩, ?_⟩)
  rcases hq with ⟨c, q⟩ | ⟨⟨c1, c2⟩, q⟩
  · refine call_meets F.slot_tuple_mul ⟨_, ho, rfl⟩ F.entry_tuple_mul (F.args_tuple_mul_2 _ _) (tmul_same l its.toArray n dd sl k t c0 ?_) ⟨ho, .ref l, H, I, rfl, q⟩
    rcases c with c | c
    · rw [hemp.mpr c]; rfl
    · rw [c]; simp
  · refine call_meets F.slot_tuple_mul ⟨_, ho, rfl⟩ F.entry_tuple_mul (F.args_tuple_mul_2 _ _) (tmul_none l its.toArray n dd sl k t c0 ?_ ?_) ⟨ho, ?_⟩
    · have : its.toArray.isEmpty = false := by
        cases q : its.toArray.isEmpty with
        | true => exact absurd (hemp.mp q) c1
        | false => rfl
      rw [this, Bool.false_or]
      exact beq_eq_false_iff_ne.mpr (by omega)
    · rw [decide_eq_true c2]; rfl
    · refine ⟨.ref s.heap.objs.size, _, I.laid (t' := s.toks) (o := .tup []) (fun b ob q => Heap.get?_push_of_some _ q) (Nat.le_refl _) ?_, rfl, q _ (I.hok.fresh (Nat.le_refl _))⟩
      exact ⟨by rw [sizeLine_eq]; decide, _, .nil, IsTup.new _ _⟩
end
end Ev
end
section
set_option linter.all false
set_option autoImplicit false
set_option maxRecDepth 100000
/-! EvC: the operators by values. -/
namespace Ev
open PySem PySem.Spec PyProof.Rows L2
section
variable (K : PySem.W.Frag) (w : World)
/-- a new value: its object, if it may be changed, is new -/
def NewV (F' H H' : Hp) (v : V) : AV → Prop
  | .list ds => ∃ a xs, v = .ref a ∧ F' a = none ∧ H a = none ∧ H' a = some (.lst xs) ∧ RepL K w F' xs ds
  | .dict kvs => ∃ a ep L tk, v = .ref a ∧ F' a = none ∧ H a = none ∧ H' a = some (dictH w a ep L) ∧ RepD K w F' tk L kvs
  | d => Rep K w F' v d
/-- what is wanted of a result: b: a new one -/
def Res (b : Bool) (F H : Hp) (d : AV) (Q : VK) : Prop := ∀ v F' H', Ext F H F' H' → (b = true → NewV K w F' H H' v d) → (b = false → Rep K w F' v d) → Q v H'
/-- an operand: it may be owned -/
def Opd (F H : Hp) (v : V) : AV → Prop
  | .list ds => ∃ a xs, v = .ref a ∧ LstX K H a xs ∧ RepL K w F xs ds
  | .dict kvs => ∃ a ep L tk, v = .ref a ∧ H a = some (dictH w a ep L) ∧ RepD K w F tk L kvs
  | d => Rep K w F v d
end
section
variable {K : PySem.W.Frag} {w : World} {F F' H H' : Hp} {b : Bool} {d : AV} {v : V} {Q : VK} {p : Addr}
theorem ext_new {o : HO} (hF : Same F H) (hp : H p = none) : Ext F H F (upd H p o) :=
  ⟨same_upd' hp, Same.refl _, hF.trans (same_upd' hp), fun _ _ e => .inl e⟩
theorem ext_new' {o : HO} (hF : Same F H) (hp : H p = none) : Ext F H (upd F p o) (upd H p o) := by
  have hFp : F p = none := hF.free hp
  refine ⟨same_upd' hp, same_upd' hFp, fun b u q => ?_, fun b u q => ?_⟩
  · by_cases hb : b = p
    · subst hb; rw [upd_same] at q ⊢; exact q
    · rw [upd_ne hb] at q ⊢; exact hF _ _ q
  · by_cases hb : b = p
    · subst hb; exact .inr hp
    · rw [upd_ne hb] at q; exact .inl q
theorem NewV.of_rep (h : mutA d = false) (r : Rep K w F' v d) : NewV K w F' H H' v d := by
  cases d <;> first | exact r | cases h
theorem Res.imm (h : mutA d = false) (hF : Same F H) (r : Rep K w F v d) (q : Res K w b F H d Q) : Q v H :=
  q v F H (Ext.refl hF) (fun _ => .of_rep h r) fun _ => r
theorem Res.old (hF : Same F H) (r : Rep K w F v d) (q : Res K w false F H d Q) : Q v H :=
  q v F H (Ext.refl hF) (fun h => by cases h) fun _ => r
theorem Res.newL {xs : List V} {ds : List AV} (hF : Same F H) (r : RepL K w F xs ds) (q : Res K w b F H (.list ds) Q) (hp : H p = none) : Q (.ref p) (upd H p (.lst xs)) := by
  have hFp : F p = none := hF.free hp
  cases b with
  | true => exact q _ F _ (ext_new hF hp) (fun _ => ⟨p, xs, rfl, hFp, hp, upd_same, r⟩) fun h => by cases h
  | false => exact q _ (upd F p (.lst xs)) _ (ext_new' hF hp) (fun h => by cases h) fun _ => .lst (.inl (.inl upd_same)) (r.mono (same_upd' hFp))
theorem Res.newD {ob : Obj} {L : List Ent} {kvs : List (AV × AV)} {tk : Bool} (hF : Same F H) (r : RepD K w F tk L kvs) (q : Res K w b F H (.dict kvs) Q) (hp : H p = none) : Q (.ref p) (upd H p (dictH w p ob L)) := by
  have hFp : F p = none := hF.free hp
  cases b with
  | true => exact q _ F _ (ext_new hF hp) (fun _ => ⟨p, ob, L, tk, rfl, hFp, hp, upd_same, r⟩) fun h => by cases h
  | false => exact q _ (upd F p (dictH w p ob L)) _ (ext_new' hF hp) (fun h => by cases h) fun _ => .dct upd_same (r.mono (same_upd' hFp))
theorem Res.newT {xs : List V} {ds : List AV} (hF : Same F H) (r : RepL K w F xs ds) (q : Res K w b F H (.tuple ds) Q) (hp : H p = none) : Q (.ref p) (upd H p (.tup xs)) := by
  have hFp : F p = none := hF.free hp
  have hr : Rep K w (upd F p (.tup xs)) (.ref p) (.tuple ds) := .tup (.inl (.inl upd_same)) (r.mono (same_upd' hFp))
  exact q _ (upd F p (.tup xs)) _ (ext_new' hF hp) (fun _ => hr) fun _ => hr
theorem Rep.opd (hF : Same F H) (r : Rep K w F v d) : Opd K w F H v d := by
  cases r with
  | lst h r => exact ⟨_, _, rfl, h.mono hF, r⟩
  | dct h r => exact ⟨_, _, _, _, rfl, hF _ _ h, r⟩
  | non => exact .non
  | bl b => exact .bl b
  | int b => exact .int b
  | str b => exact .str b
  | tup h r => exact .tup h r
theorem OwnV.opd {B : Hp} (hF : Same F H) (r : OwnV K w F B H v d) : Opd K w F H v d := by
  cases d with
  | list ds => obtain ⟨a, xs, e, _, _, h, r⟩ := r; exact ⟨a, xs, e, .inl (.inl h), r⟩
  | dict ds => obtain ⟨a, ep, L, tk, e, _, _, h, r⟩ := r; exact ⟨a, ep, L, tk, e, h, r⟩
  | none => exact r
  | bool b => exact r
  | int b => exact r
  | str b => exact r
  | tuple b => exact r
end
/-! ### values as data of the machine's heap -/
section
variable {X : Cx} {pins : List (Addr × Obj)} {σ : L2.St} {H F : Hp} {s : Shared}
theorem inv_lst {a : Addr} {xs : List V} (I : Inv X pins σ H s) (h : LstX X.K H a xs) : xs.length ≤ sizeLine ∧ ∃ (its : List Value) (n : Nat), Vals xs its ∧ xs.length = its.length ∧ s.heap.get? a = some { cls := .type "list", data := .seq its.toArray n } := by
  rcases h with h | ⟨its, n, h1, h2, h3⟩
  · obtain ⟨z, its, n, r, e⟩ := (show ObjOk X.prog X.w H s.heap a (.lst xs) from h.ok I.hok)
    exact ⟨z, its, n, r, r.length, e⟩
  · exact ⟨by rw [h3.length]; exact h2, its, n, h3, h3.length, I.kIn a _ h1⟩
mutual
theorem Rep.reads (I : Inv X pins σ H s) (hF : Same F H) : ∀ {d : AV} {v : V} {u : Value}, d.plain = true → Rep X.K X.w F v d → RelV v u → ∃ as, Reads s.heap u d as
  | _, _, _, _, .non, r => by cases r; exact ⟨_, .none⟩
  | _, _, _, _, .bl b, r => by cases r; exact ⟨_, .bool b⟩
  | _, _, _, _, .int i, r => by obtain ⟨t, rfl⟩ := r; exact ⟨_, .int i t⟩
  | _, _, _, _, .str i, r => by obtain ⟨t, rfl⟩ := r; exact ⟨_, .str i t⟩
  | _, _, _, hp, .lst h rl, r => by
    cases r
    obtain ⟨z, its, n, rv, hl, e⟩ := inv_lst I (h.mono hF)
    obtain ⟨as, q⟩ := RepL.reads I hF (by simpa [PyData.plain] using hp) rl rv
    exact ⟨_, .list e rfl rfl (by simpa using q)⟩
  | _, _, _, hp, .tup h rl, r => by
    cases r
    obtain ⟨its, rv, ⟨o, e, hc, n, hd⟩, hz⟩ := I.tuple (Same.tup hF h)
    obtain ⟨as, q⟩ := RepL.reads I hF (by simpa [PyData.plain] using hp) rl rv
    exact ⟨_, .tuple e hc hd (by simpa using q)⟩
  | _, _, _, hp, .dct _ _, _ => by simp [PyData.plain] at hp
theorem RepL.reads (I : Inv X pins σ H s) (hF : Same F H) : ∀ {ds : List AV} {vs : List V} {us : List Value}, PyData.plainAll ds = true → RepL X.K X.w F vs ds → Vals vs us → ∃ as, ReadsAll s.heap us ds as
  | _, _, _, _, .nil, .nil => ⟨_, .nil⟩
  | _, _, _, hp, .cons h1 h2, .cons r1 r2 => by
    have hp' := by simpa [PyData.plainAll] using hp
    obtain ⟨as, q1⟩ := Rep.reads I hF hp'.1 h1 r1
    obtain ⟨bs, q2⟩ := RepL.reads I hF hp'.2 h2 r2
    exact ⟨_, .cons q1 q2⟩
end
theorem Opd.reads {d : AV} {v : V} {u : Value} (I : Inv X pins σ H s) (hF : Same F H) (hp : d.plain = true) (h : Opd X.K X.w F H v d) (r : RelV v u) : ∃ as, Reads s.heap u d as := by
  cases d with
  | list ds =>
    obtain ⟨a, xs, rfl, h, rl⟩ := h
    cases r
    obtain ⟨z, its, n, rv, hl, e⟩ := inv_lst I h
    obtain ⟨as, q⟩ := RepL.reads I hF (by simpa [PyData.plain] using hp) rl rv
    exact ⟨_, .list e rfl rfl (by simpa using q)⟩
  | dict ds => simp [PyData.plain] at hp
  | none => exact Rep.reads I hF hp h r
  | bool b => exact Rep.reads I hF hp h r
  | int b => exact Rep.reads I hF hp h r
  | str b => exact Rep.reads I hF hp h r
  | tuple b => exact Rep.reads I hF hp h r
end
theorem line_eq : line = sizeLine := by rw [sizeLine_eq]; rfl
theorem lstR_ok {xs : List AV} {d : AV} (h : lstR xs = .ok d) : d = .list xs ∧ xs.length ≤ sizeLine := by
  unfold lstR at h
  split at h
  · rename_i q; cases h; exact ⟨rfl, by rw [← line_eq]; exact q⟩
  · cases h
theorem tupR_ok {xs : List AV} {d : AV} (h : tupR xs = .ok d) : d = .tuple xs ∧ xs.length ≤ sizeLine := by
  unfold tupR at h
  split at h
  · rename_i q; cases h; exact ⟨rfl, by rw [← line_eq]; exact q⟩
  · cases h
section
variable {K : PySem.W.Frag} {w : World} {F H : Hp} {v : V}
theorem Opd.intE {i : Int} (h : Opd K w F H v (.int i)) : v = .int i := by cases (show Rep K w F v (.int i) from h); rfl
theorem Opd.boolE {i : Bool} (h : Opd K w F H v (.bool i)) : v = .bl i := by cases (show Rep K w F v (.bool i) from h); rfl
theorem Opd.strE {i : Str} (h : Opd K w F H v (.str i)) : v = .str i := by cases (show Rep K w F v (.str i) from h); rfl
theorem Opd.noneE (h : Opd K w F H v .none) : v = .non := by cases (show Rep K w F v .none from h); rfl
theorem Opd.tupE {ds : List AV} (h : Opd K w F H v (.tuple ds)) : ∃ a xs, v = .ref a ∧ SqT K F a xs ∧ RepL K w F xs ds := by
  cases (show Rep K w F v (.tuple ds) from h) with
  | tup h1 r1 => exact ⟨_, _, rfl, h1, r1⟩
theorem Opd.listE {ds : List AV} (h : Opd K w F H v (.list ds)) : ∃ a xs, v = .ref a ∧ LstX K H a xs ∧ RepL K w F xs ds := h
end
/-! ### two-place operators -/
/-- what an operator by values asks -/
def rOp (K : PySem.W.Frag) (w : World) (f : AV → AV → R AV) (b : Bool) : R2 := fun x y H Q => ∃ F dx dy d, Same F H ∧ Opd K w F H x dx ∧ Opd K w F H y dy ∧ f dx dy = .ok d ∧ Res K w b F H d Q
section
variable {X : Cx}
theorem rep_add {K : PySem.W.Frag} {w : World} {F : Hp} {n : Nat} {xs : List V} {ds : List AV} (r : RepL K w F xs ds) : RepL K w F (List.replicate n xs).flatten (List.replicate n ds).flatten := by
  induction n with
  | zero => exact .nil
  | succ n ih => rw [List.replicate_succ, List.replicate_succ, List.flatten_cons, List.flatten_cons]; exact r.append ih
/-- list + list -/
theorem cat_ok {l k : Addr} {xs zs : List V} {pins : List (Addr × Obj)} {s : Shared} {σ : L2.St} {H : Hp} {Q : VK} (I : Inv X pins σ H s) (h1 : LstX X.K H l xs) (h2 : LstX X.K H k zs) (hz : xs.length + zs.length ≤ sizeLine)
    (q : ∀ p, H p = none → Q (.ref p) (upd H p (.lst (xs ++ zs)))) : wpAny (model X.prog X.w) X.A (binaryOp .Add (.ref l) (.ref k)) (EP X pins σ Q) X.xe s := by
  obtain ⟨z, its, n, r, hl, e⟩ := inv_lst I h1
  obtain ⟨z2, its2, n2, r2, hl2, e2⟩ := inv_lst I h2
  refine PySem.P.add_list e e2 ?_ (by rw [List.size_toArray, List.size_toArray]; omega)
  have ea : its.toArray ++ its2.toArray = (its ++ its2).toArray := by simp
  rw [ea]
  exact ⟨.ref _, _, I.lnew (t' := s.toks) (r.append r2) (by rw [List.length_append]; omega), rfl, q _ I.fresh⟩
theorem op_addE {b : Bool} : OpR X (binaryOp .Add) (rOp X.K X.w (binop .add) b) := by
  intro pins s σ H x y v u Q I rx ry h
  obtain ⟨F, dx, dy, d, hF, ox, oy, e, q⟩ := h
  cases dx with
  | int i => cases dy with
    | int j =>
      have ex := ox.intE; have ey := oy.intE; subst ex ey
      have ed : PyData.int (i + j) = d := by simpa [binop] using e
      subst ed
      exact op_add pins s σ H _ _ v u Q I rx ry ⟨i, j, rfl, rfl, q.imm rfl hF (.int _)⟩
    | _ => simp [binop] at e
  | list xs => cases dy with
    | list ys =>
      obtain ⟨a, us, rfl, h1, r1⟩ := ox.listE
      obtain ⟨c, ws, rfl, h2, r2⟩ := oy.listE
      obtain ⟨rfl, hz⟩ := lstR_ok (show lstR (xs ++ ys) = .ok d from e)
      cases rx
      cases ry
      refine cat_ok I h1 h2 (by rw [r1.length, r2.length]; rw [List.length_append] at hz; exact hz) fun p hp => q.newL hF (r1.append r2) hp
    | _ => simp [binop] at e
  | tuple xs => cases dy with
    | tuple ys =>
      obtain ⟨a, us, rfl, h1, r1⟩ := ox.tupE
      obtain ⟨c, ws, rfl, h2, r2⟩ := oy.tupE
      obtain ⟨rfl, hz⟩ := tupR_ok (show tupR (xs ++ ys) = .ok d from e)
      have l1 := r1.length
      have l2 := r2.length
      rw [List.length_append] at hz
      refine op_catA pins s σ H _ _ v u Q I rx ry ⟨a, c, us, ws, rfl, rfl, Same.tup hF h1, Same.tup hF h2, by omega, fun hn => ?_, fun _ hn => ?_, fun _ _ p hp => q.newT hF (r1.append r2) hp⟩
      · subst hn
        cases r1
        exact q.imm rfl hF (.tup h2 (by simpa using r2))
      · subst hn
        cases r2
        exact q.imm rfl hF (.tup h1 (by simpa using r1))
    | _ => simp [binop] at e
  | str i => cases dy with
    | str j =>
      have ex := ox.strE; have ey := oy.strE; subst ex ey
      have e' : (if i.length + j.length ≤ line then R.ok (PyData.str (i ++ j)) else .bad) = .ok d := e
      split at e'
      · rename_i hz
        cases e'
        exact op_add_str pins s σ H _ _ v u Q I rx ry ⟨i, j, rfl, rfl, by rw [← line_eq]; exact hz, q.imm rfl hF (.str _)⟩
      · cases e'
    | _ => simp [binop] at e
  | _ => cases dy <;> simp [binop] at e
theorem op_subE {b : Bool} : OpR X (binaryOp .Sub) (rOp X.K X.w (binop .sub) b) := by
  intro pins s σ H x y v u Q I rx ry h
  obtain ⟨F, dx, dy, d, hF, ox, oy, e, q⟩ := h
  cases dx with
  | int i => cases dy with
    | int j =>
      have ex := ox.intE; have ey := oy.intE; subst ex ey
      have ed : PyData.int (i - j) = d := by simpa [binop] using e
      subst ed
      exact op_sub pins s σ H _ _ v u Q I rx ry ⟨i, j, rfl, rfl, q.imm rfl hF (.int _)⟩
    | _ => simp [binop] at e
  | _ => cases dy <;> simp [binop] at e
theorem small_of {i : Int} (h : smallI i = true) : -(2 ^ 64) < i ∧ i < 2 ^ 64 := by
  unfold smallI big at h
  simp only [Bool.and_eq_true, decide_eq_true_eq] at h
  constructor <;> omega
theorem wide_of {i : Int} (h : wide i = true) : i.natAbs.log2 < 8000 := of_decide_eq_true h
theorem rep_fold (its : List Value) : ∀ (m : Nat) (acc : List Value), List.foldl (fun x1 x2 => x1 ++ x2) acc.toArray (List.replicate m its.toArray) = (acc ++ (List.replicate m its).flatten).toArray
  | 0, acc => by simp
  | m + 1, acc => by
    rw [List.replicate_succ, List.foldl_cons]
    have e : acc.toArray ++ its.toArray = (acc ++ its).toArray := by simp
    rw [e, rep_fold its m (acc ++ its)]
    simp [List.replicate_succ]
theorem repV {us : List Value} {xs : List V} (r : Vals xs us) : ∀ n : Nat, Vals (List.replicate n xs).flatten (List.replicate n us).flatten
  | 0 => .nil
  | n + 1 => by rw [List.replicate_succ, List.replicate_succ, List.flatten_cons, List.flatten_cons]; exact Vals.append r (repV r n)
theorem repL_ok {l : Addr} {k : Int} {v u : Value} {xs : List V} {pins : List (Addr × Obj)} {s : Shared} {σ : L2.St} {H : Hp} {Q : VK} (I : Inv X pins σ H s) (rx : RelV (.ref l) v) (ry : RelV (.int k) u) (h1 : LstX X.K H l xs) (h0 : 0 ≤ k) (h2 : k < 1000) (hz : xs.length * k.toNat ≤ sizeLine)
    (q : ∀ p, H p = none → Q (.ref p) (upd H p (.lst (List.replicate k.toNat xs).flatten))) : wpAny (model X.prog X.w) X.A (binaryOp .Mult v u) (EP X pins σ Q) X.xe s := by
  obtain ⟨z, its, n, r, hl, e⟩ := inv_lst I h1
  cases rx
  obtain ⟨t, rfl⟩ := ry
  have len1 : its.toArray.size * k.toNat ≤ sizeLine := by rw [List.size_toArray, ← hl]; exact hz
  have cap1 : ¬ its.toArray.size * k.toNat > (2 ^ 63 - 1) / 8 := by
    have big1 : (sizeLine : Nat) ≤ (2 ^ 63 - 1) / 8 := by decide
    omega
  have fit1 : ¬ (!Builtin.List.listFitsIndex k) = true := by
    rw [fitsIndex_both (by omega) (by omega)]; decide
  have long1 : ¬ Builtin.List.listTooLong (its.toArray.size * k.toNat) = true := by
    rw [notLongL len1]; decide
  have new1 : List.foldl (fun x1 x2 => x1 ++ x2) #[] (List.replicate (if its.toArray.isEmpty = true then 0 else k.toNat) its.toArray) = (List.replicate k.toNat its).flatten.toArray := by
    have f1 := fun m => rep_fold its m []
    cases its with
    | nil => simp
    | cons c r' =>
      rw [if_neg (by simp)]
      simpa using f1 k.toNat
  have tl : s.TypeIs (.ref l) "list" := ⟨_, e, rfl⟩
  have inner := fun (Q' : Value → Shared → Prop) E' hq => call_meets (prog := X.prog) (w := X.w) (A := X.A) (Q := Q') (E := E') F.slot_list_mul tl F.entry_list_mul (F.args_list_mul_2 _ _) (AutoListH.list___mul___list_int_3 l its.toArray n k t fit1 cap1 long1) ⟨e, hq⟩
  refine wpAny_binaryOp_repeat_ref (T := "list") (U := "int") (by decide) tl (fun s' => typeIs_int s' k t) noFill_list_mul
    F.fills_int_mul F.slot_int_rmul repeat_list F.slot_int_index.lookup ?_
  refine call_meets F.slot_int_rmul (typeIs_int s k t) F.entry_int_rmul (F.args_int_rmul_2 _ _) (int___rmul___int_list k t l its.toArray n) ⟨e, rfl, tl, ?_⟩
  refine inner _ _ ?_
  rw [new1]
  refine ⟨.ref _, _, I.lnew (t' := s.toks) (repV r k.toNat) ?_, rfl, q _ I.fresh⟩
  rw [List.length_flatten, List.map_replicate, List.sum_replicate_nat, Nat.mul_comm]
  exact hz
theorem op_mulE {b : Bool} : OpR X (binaryOp .Mult) (rOp X.K X.w (binop .mul) b) := by
  intro pins s σ H x y v u Q I rx ry h
  obtain ⟨F, dx, dy, d, hF, ox, oy, e, q⟩ := h
  cases dx with
  | int i => cases dy with
    | int j =>
      have ex := ox.intE; have ey := oy.intE; subst ex ey
      have e' : (if (smallI i || smallI j || (wide i && wide j)) = true then R.ok (PyData.int (i * j)) else .bad) = .ok d := e
      split at e'
      · rename_i hc
        cases e'
        simp only [Bool.or_eq_true, Bool.and_eq_true] at hc
        rcases hc with (hc | hc) | ⟨hc, hc2⟩
        · exact op_mul pins s σ H _ _ v u Q I rx ry ⟨i, j, rfl, rfl, .inl (small_of hc), q.imm rfl hF (.int _)⟩
        · exact op_mul pins s σ H _ _ v u Q I rx ry ⟨i, j, rfl, rfl, .inr (small_of hc), q.imm rfl hF (.int _)⟩
        · exact op_mulW pins s σ H _ _ v u Q I rx ry ⟨i, j, rfl, rfl, by unfold CMulW; have := wide_of hc; have := wide_of hc2; omega, q.imm rfl hF (.int _)⟩
      · cases e'
    | _ => simp [binop] at e
  | list xs => cases dy with
    | int k =>
      obtain ⟨a, us, rfl, h1, r1⟩ := ox.listE
      have ey := oy.intE; subst ey
      have e' : (if (decide (0 ≤ k) && decide (k < 1000)) = true then lstR (List.flatten (List.replicate k.toNat xs)) else .bad) = .ok d := e
      split at e'
      · rename_i hc
        obtain ⟨rfl, hz⟩ := lstR_ok e'
        simp only [Bool.and_eq_true, decide_eq_true_eq] at hc
        rw [List.length_flatten, List.map_replicate, List.sum_replicate_nat, ← r1.length] at hz
        exact repL_ok I rx ry h1 hc.1 hc.2 (by rw [Nat.mul_comm]; exact hz) fun p hp => q.newL hF (rep_add r1) hp
      · cases e'
    | _ => simp [binop] at e
  | tuple xs => cases dy with
    | int k =>
      obtain ⟨a, us, rfl, h1, r1⟩ := ox.tupE
      have ey := oy.intE; subst ey
      have e' : (if (decide (-1000 ≤ k) && decide (k ≤ 1000) && decide (xs.length ≤ 1000)) = true then tupR (List.flatten (List.replicate k.toNat xs)) else .bad) = .ok d := e
      split at e'
      · rename_i hc
        obtain ⟨rfl, hz⟩ := tupR_ok e'
        simp only [Bool.and_eq_true, decide_eq_true_eq] at hc
        by_cases hne : us = []
        · subst hne
          cases r1
          refine op_rep1 pins s σ H _ _ v u Q I rx ry ⟨a, k, [], rfl, rfl, Same.tup hF h1, hc.1.2, hc.1.1, .inl ⟨.inl rfl, ?_⟩⟩
          have e0 : (List.replicate k.toNat ([] : List AV)).flatten = [] := by simp
          rw [e0] at q
          exact q.imm rfl hF (.tup h1 .nil)
        · by_cases hk : k = 1
          · subst hk
            refine op_rep1 pins s σ H _ _ v u Q I rx ry ⟨a, 1, us, rfl, rfl, Same.tup hF h1, hc.1.2, hc.1.1, .inl ⟨.inr rfl, ?_⟩⟩
            have e0 : (List.replicate (1 : Int).toNat xs).flatten = xs := by simp
            rw [e0] at q
            exact q.imm rfl hF (.tup h1 r1)
          · by_cases h2 : 2 ≤ k
            · exact op_repT pins s σ H _ _ v u Q I rx ry ⟨a, k, us, rfl, rfl, Same.tup hF h1, hne, h2, by omega, by rw [r1.length]; exact hc.2, fun p hp => q.newT hF (rep_add r1) hp⟩
            · refine op_rep1 pins s σ H _ _ v u Q I rx ry ⟨a, k, us, rfl, rfl, Same.tup hF h1, hc.1.2, hc.1.1, .inr ⟨⟨hne, by omega⟩, fun p hp => ?_⟩⟩
              have e0 : (List.replicate k.toNat xs).flatten = [] := by
                have : k.toNat = 0 := by omega
                rw [this]; rfl
              rw [e0] at q
              exact q.newT hF .nil hp
      · cases e'
    | _ => simp [binop] at e
  | _ => cases dy <;> simp [binop] at e
end
end Ev
end
section
set_option linter.all false
set_option autoImplicit false
set_option maxRecDepth 100000
/-! EvD: comparisons by values. -/
namespace Ev
open PySem PySem.Spec PyProof.Rows L2
mutual
theorem ltD_eq : ∀ {x y : AV}, PySem.W.alike x y = true → ltD x y = PySem.W.dataLt x y
  | .int a, .int b, _ => by rw [PySem.W.dataLt_int]; rfl
  | .bool a, .bool b, _ => by rw [PySem.W.dataLt_bool]; cases a <;> cases b <;> rfl
  | .str a, .str b, _ => by rw [PySem.W.dataLt_str]; rfl
  | .tuple xs, .tuple ys, h => by
    rw [PySem.W.dataLt_tuple]
    exact ltL_eq (by simpa [PySem.W.alike] using h)
  | .list xs, .list ys, h => by
    rw [PySem.W.dataLt_list]
    exact ltL_eq (by simpa [PySem.W.alike] using h)
  | .none, .none, _ => rfl
theorem ltL_eq : ∀ {xs ys : List AV}, PySem.W.alikeAll xs ys = true → ltL xs ys = PyProof.Rows.lexLt itemOrd (PySem.W.keyToksAll xs) (PySem.W.keyToksAll ys)
  | [], [], _ => by rw [ltL, PySem.W.keyToksAll]; rfl
  | [], y :: ys, _ => by rw [ltL, PySem.W.keyToksAll, PySem.W.keyToksAll]; rfl
  | x :: xs, [], _ => by rw [ltL, PySem.W.keyToksAll, PySem.W.keyToksAll]; rfl
  | x :: xs, y :: ys, h => by
    obtain ⟨h1, h2⟩ := PySem.W.alike_all_cons h
    rw [PySem.W.dataLt_cons h1, ltL, ltD_eq h1, ltL_eq h2]
end
section
variable {X : Cx}
theorem fin_b {pins : List (Addr × Obj)} {σ : L2.St} {H F : Hp} {s : Shared} {Q : VK} {b k : Bool} {d : AV} (I : Inv X pins σ H s) (hF : Same F H) (e : PyData.bool k = d) (q : Res X.K X.w b F H d Q) : EP X pins σ Q (.bool k) s := by
  subst e
  exact ⟨.bl k, H, I, rfl, q.imm rfl hF (.bl k)⟩
theorem eqop_ok {a b : AV} {k : Bool} (h : eqop a b = .ok k) : (a.plain = true ∧ b.plain = true ∧ Nat.min a.depth b.depth ≤ 48 ∧ PyData.eqv a b = k) ∨ ∃ kvs, a = .dict kvs ∧ b = .dict [] ∧ kvs.all (fun p => leafK p.1) = true ∧ k = kvs.isEmpty := by
  unfold eqop dOk at h
  split at h
  · rename_i hc
    simp only [Bool.and_eq_true, decide_eq_true_eq] at hc
    cases h
    exact .inl ⟨hc.1.1, hc.1.2, hc.2, rfl⟩
  · unfold eqD at h
    split at h
    · split at h
      · rename_i hc
        cases h
        exact .inr ⟨_, rfl, rfl, hc, rfl⟩
      · cases h
    · cases h
/-- a dict of numbers' or texts' keys, and an empty one: alike? -/
theorem dict0 {F H : Hp} {x y : V} {v u : Value} {kvs : List (AV × AV)} {pins : List (Addr × Obj)} {σ : L2.St} {s : Shared} (I : Inv X pins σ H s) (hu : X.A.units + 64 < cLine) (ox : Opd X.K X.w F H x (.dict kvs)) (oy : Opd X.K X.w F H y (.dict [])) (rx : RelV x v) (ry : RelV y u) (hk : kvs.all (fun p => leafK p.1) = true) {E Q : Value → Shared → Prop} :
    (Q (.bool kvs.isEmpty) s → wpAny (model X.prog X.w) X.A (richCompare .Eq v u) Q E s) ∧ (Q (.bool !kvs.isEmpty) s → wpAny (model X.prog X.w) X.A (richCompare .NotEq v u) Q E s) := by
  obtain ⟨a, oa, L, tk, rfl, ha, ra⟩ := ox
  obtain ⟨b, ob, M, tk2, rfl, hb, rb⟩ := oy
  cases rx
  cases ry
  have hM : M = emK [] := by cases rb <;> rfl
  subst hM
  have hL : ∃ L0, L = emK L0 := by
    cases ra with
    | nil => exact ⟨[], rfl⟩
    | cons h1 r1 r =>
      obtain ⟨L0, rfl⟩ := r.isK
      exact ⟨(_, _) :: L0, rfl⟩
    | consT h1 _ _ _ =>
      rw [List.all_cons, Bool.and_eq_true] at hk
      obtain ⟨_, _, ds, rfl⟩ := keyT_nest h1
      exact absurd hk.1 (by simp [leafK])
  obtain ⟨L0, rfl⟩ := hL
  have hlen := ra.length
  have hlen2 : L0.length = kvs.length := by simpa [emK] using hlen
  obtain ⟨z1, y1, va, k1, da⟩ := dk_in (P := X.prog) (dic_at I.hok ha)
  obtain ⟨z2, y2, vb, k2, db⟩ := dk_in (P := X.prog) (dic_at I.hok hb)
  have l1 : va.length = kvs.length := by
    have := congrArg List.length (KV.fst k1)
    rw [List.length_map, List.length_map] at this
    omega
  have l2 : vb = [] := by
    have := congrArg List.length (KV.fst k2)
    rw [List.length_map, List.length_map] at this
    exact List.length_eq_zero_iff.mp this.symm
  subst l2
  have hits : va.length = ([] : List (Key × Value)).length → PySem.W.KeqHitsP X.prog X.w X.A.in1 s ([] : List (Key × Value)) va true := fun h => by
    have : va = [] := List.length_eq_zero_iff.mp h
    subst this
    exact .nil
  have e : (va.length == ([] : List (Key × Value)).length && true) = kvs.isEmpty := by
    cases kvs with
    | nil => have : va = [] := List.length_eq_zero_iff.mp l1
             subst this; rfl
    | cons p r => rw [Bool.and_true, l1]; rfl
  refine ⟨fun q => PySem.W.rcP_dicts y1 y2 da db (by omega) hits E Q (by rw [e]; exact q), fun q => ?_⟩
  refine wpAny_richCompare_same_room (op := .NotEq) da.typeIs db.typeIs PySem.F.slot_dict_ne (wpAny_call_entry PySem.F.slot_dict_ne da.typeIs PySem.F.entry_dict_ne ?_ (PySem.F.args_dict_ne_2 _ _)) (by omega)
  show wpAny _ _ (Builtin.Dict.dictSlotArgs "__ne__" ⟨[.ref a, .ref b], []⟩ >>= _) _ _ s
  refine wpAny_bind ?_
  unfold Builtin.Dict.dictSlotArgs
  refine wpAny_bind (wpAny_notOrdered_dict da.typeIs ?_)
  show wpAny _ _ (pure (Value.ref a, Value.ref b)) _ _ s
  refine wpAny_pure ?_
  refine wpAny_bind (wpAny_isInstance (T := "dict") db.typeIs PySem.F.sub_dict_dict ?_)
  simp only [Bool.not_true, Bool.false_eq_true, if_false]
  refine wpAny_bind (wpAny_pure (wpAny_bind (wpAny_pure ?_)))
  refine wpAny_bind (PySem.W.samePairsP y1 y2 da db hits ?_)
  rw [e]
  refine wpAny_pure ⟨_, rfl, ?_, ?_⟩
  · exact fun x => nomatch x
  · cases hz : kvs.isEmpty <;> rw [hz] at q <;> exact q
theorem op_eqE {b : Bool} (hu : X.A.units + 64 < cLine) : OpR X (compareOp .Eq) (rOp X.K X.w (cmpop .eq) b) := by
  intro pins s σ H x y v u Q I rx ry h
  obtain ⟨F, dx, dy, d, hF, ox, oy, e, q⟩ := h
  obtain ⟨k, e1, e2⟩ := R.bind_eq_ok (show (eqop dx dy >>= fun k => R.ok (PyData.bool k)) = .ok d from e)
  rcases eqop_ok e1 with ⟨p1, p2, p3, rfl⟩ | ⟨kvs, rfl, rfl, hk, rfl⟩
  · obtain ⟨as, r1⟩ := ox.reads I hF p1 rx
    obtain ⟨bs, r2⟩ := oy.reads I hF p2 ry
    have p3 : min dx.depth dy.depth ≤ 48 := p3
    exact SeqAt.eq_plain r1 r2 p1 p2 (by omega) (fin_b I hF (by cases e2; rfl) q)
  · exact (dict0 I hu ox oy rx ry hk).1 (fin_b I hF (by cases e2; rfl) q)
theorem op_neE {b : Bool} (hu : X.A.units + 64 < cLine) : OpR X (compareOp .NotEq) (rOp X.K X.w (cmpop .ne) b) := by
  intro pins s σ H x y v u Q I rx ry h
  obtain ⟨F, dx, dy, d, hF, ox, oy, e, q⟩ := h
  obtain ⟨k, e1, e2⟩ := R.bind_eq_ok (show (eqop dx dy >>= fun k => R.ok (PyData.bool (!k))) = .ok d from e)
  rcases eqop_ok e1 with ⟨p1, p2, p3, rfl⟩ | ⟨kvs, rfl, rfl, hk, rfl⟩
  · obtain ⟨as, r1⟩ := ox.reads I hF p1 rx
    obtain ⟨bs, r2⟩ := oy.reads I hF p2 ry
    have p3 : min dx.depth dy.depth ≤ 48 := p3
    exact SeqAt.ne_plain r1 r2 p1 p2 (by omega) (fin_b I hF (by cases e2; rfl) q)
  · exact (dict0 I hu ox oy rx ry hk).2 (fin_b I hF (by cases e2; rfl) q)
theorem ordop_ok {f : AV → AV → Bool} {a b d : AV} (h : ordop f a b = .ok d) : PySem.W.alike a b = true ∧ a.plain = true ∧ b.plain = true ∧ min a.depth b.depth ≤ 48 ∧ a ≠ .none ∧ d = .bool (f a b) := by
  unfold ordop dOk at h
  split at h
  · rename_i hc
    simp only [Bool.and_eq_true, decide_eq_true_eq] at hc
    obtain ⟨⟨⟨⟨h1, h2⟩, h3⟩, h4⟩, h5⟩ := hc
    cases h
    exact ⟨h1, h2, h3, h4, (fun z => by subst z; cases h5), rfl⟩
  · cases h
theorem op_ltE {b : Bool} (hu : X.A.units + 64 < cLine) : OpR X (compareOp .Lt) (rOp X.K X.w (cmpop .lt) b) := by
  intro pins s σ H x y v u Q I rx ry ⟨F, dx, dy, d, hF, ox, oy, e, q⟩
  obtain ⟨h1, h2, h3, h4, h5, h6⟩ := ordop_ok (show ordop ltD dx dy = .ok d from e)
  obtain ⟨as, r1⟩ := ox.reads I hF h2 rx
  obtain ⟨bs, r2⟩ := oy.reads I hF h3 ry
  exact PySem.W.lt_data r1 r2 h1 h5 (by omega) (fin_b I hF (by rw [h6, ltD_eq h1]) q)
theorem op_gtE {b : Bool} (hu : X.A.units + 64 < cLine) : OpR X (compareOp .Gt) (rOp X.K X.w (cmpop .gt) b) := by
  intro pins s σ H x y v u Q I rx ry ⟨F, dx, dy, d, hF, ox, oy, e, q⟩
  obtain ⟨h1, h2, h3, h4, h5, h6⟩ := ordop_ok (show ordop (fun a b => ltD b a) dx dy = .ok d from e)
  obtain ⟨as, r1⟩ := ox.reads I hF h2 rx
  obtain ⟨bs, r2⟩ := oy.reads I hF h3 ry
  exact PySem.W.gt_data r1 r2 h1 h5 (by omega) (fin_b I hF (by rw [h6, ltD_eq (by rw [PySem.W.alike_comm]; exact h1)]) q)
theorem op_leE {b : Bool} (hu : X.A.units + 64 < cLine) : OpR X (compareOp .LtE) (rOp X.K X.w (cmpop .le) b) := by
  intro pins s σ H x y v u Q I rx ry ⟨F, dx, dy, d, hF, ox, oy, e, q⟩
  obtain ⟨h1, h2, h3, h4, h5, h6⟩ := ordop_ok (show ordop (fun a b => !ltD b a) dx dy = .ok d from e)
  obtain ⟨as, r1⟩ := ox.reads I hF h2 rx
  obtain ⟨bs, r2⟩ := oy.reads I hF h3 ry
  exact PySem.W.le_data r1 r2 h1 h5 (by omega) (fin_b I hF (by rw [h6, ltD_eq (by rw [PySem.W.alike_comm]; exact h1)]) q)
theorem op_geE {b : Bool} (hu : X.A.units + 64 < cLine) : OpR X (compareOp .GtE) (rOp X.K X.w (cmpop .ge) b) := by
  intro pins s σ H x y v u Q I rx ry ⟨F, dx, dy, d, hF, ox, oy, e, q⟩
  obtain ⟨h1, h2, h3, h4, h5, h6⟩ := ordop_ok (show ordop (fun a b => !ltD a b) dx dy = .ok d from e)
  obtain ⟨as, r1⟩ := ox.reads I hF h2 rx
  obtain ⟨bs, r2⟩ := oy.reads I hF h3 ry
  exact PySem.W.ge_data r1 r2 h1 h5 (by omega) (fin_b I hF (by rw [h6, ltD_eq h1]) q)
theorem none_of {K : PySem.W.Frag} {w : World} {F H : Hp} {v : V} {d : AV} (h : Opd K w F H v d) : decide (v = .non) = isNone d := by
  cases d with
  | none => rw [h.noneE]; rfl
  | bool b => rw [h.boolE]; rfl
  | int b => rw [h.intE]; rfl
  | str b => rw [h.strE]; rfl
  | list ds => obtain ⟨a, xs, rfl, _⟩ := h; rfl
  | tuple ds => obtain ⟨a, xs, rfl, _⟩ := h.tupE; rfl
  | dict ds => obtain ⟨a, ep, L, tk, rfl, _⟩ := h; rfl
theorem op_isE {b : Bool} : OpR X (compareOp .Is) (rOp X.K X.w (cmpop .isN) b) := by
  intro pins s σ H x y v u Q I rx ry ⟨F, dx, dy, d, hF, ox, oy, e, q⟩
  cases dy with
  | none =>
    have e' : R.ok (PyData.bool (isNone dx)) = .ok d := e
    refine op_isN pins s σ H x y v u Q I rx ry ⟨oy.noneE, ?_⟩
    rw [none_of ox]
    cases e'
    exact q.imm rfl hF (.bl _)
  | _ => simp [cmpop] at e
theorem op_isBE {b : Bool} : OpR X (compareOp .Is) (rOp X.K X.w (cmpop .isB) b) := by
  intro pins s σ H x y v u Q I rx ry ⟨F, dx, dy, d, hF, ox, oy, e, q⟩
  cases dx with
  | bool k => cases dy with
    | bool j =>
      obtain rfl := ox.boolE
      obtain rfl := oy.boolE
      cases rx
      cases ry
      cases e
      show wpAny _ _ ((isSame (Value.bool k) (Value.bool j)) >>= fun z => pure (Value.bool z)) _ _ s
      refine wpAny_bind (wpAny_isSame_plain rfl (wpAny_pure (fin_b I hF ?_ q)))
      cases k <;> cases j <;> rfl
    | _ => simp [cmpop] at e
  | _ => cases dy <;> simp [cmpop] at e
theorem op_isnotE {b : Bool} : OpR X (compareOp .IsNot) (rOp X.K X.w (cmpop .notN) b) := by
  intro pins s σ H x y v u Q I rx ry ⟨F, dx, dy, d, hF, ox, oy, e, q⟩
  cases dy with
  | none =>
    have e' : R.ok (PyData.bool (!isNone dx)) = .ok d := e
    refine op_notN pins s σ H x y v u Q I rx ry ⟨oy.noneE, ?_⟩
    rw [none_of ox]
    cases e'
    exact q.imm rfl hF (.bl _)
  | _ => simp [cmpop] at e
end
end Ev
end
section
set_option linter.all false
set_option autoImplicit false
set_option maxRecDepth 100000
/-! EvE: the state's own laws, the readings. -/
namespace Ev
open PySem PySem.Spec PyProof.Rows L2
section
variable {K : PySem.W.Frag} {w : World} {IO : List (Nat × Addr)} {F0 F F' B B' H H' : Hp} {O O' : Sl} {σ : L2.St} {env : Env}
theorem SR.congr (S : SR K w IO F0 F B O σ H env) (h : ∀ i, i ∈ O' ↔ i ∈ O) : SR K w IO F0 F B O' σ H env :=
  ⟨S.fh, S.bh, S.f0, S.fb, fun i d e => let ⟨v, h1, h2, h3⟩ := S.slot i d e; ⟨v, h1, fun q => h2 ((h i).mp q), fun q => h3 fun z => q ((h i).mpr z)⟩,
    fun i j a d e h1 h2 => S.apart i j a d e ((h i).mp h1) ((h j).mp h2), S.len, fun p hp q => S.io p hp ((h _).mp q)⟩
/-- fewer slots owned -/
theorem SR.shrinks (S : SR K w IO F0 F B O σ H env) : ∀ (l : List Nat), ∃ F', SR K w IO F0 F' B (l.foldl er O) σ H env ∧ Same F F' := by
  intro l
  induction l generalizing F O with
  | nil => exact ⟨F, S, Same.refl _⟩
  | cons i l ih =>
    obtain ⟨F1, S1, s1, _⟩ := S.freeze (i := i)
    obtain ⟨F2, S2, s2⟩ := ih S1
    exact ⟨F2, S2, s1.trans s2⟩
theorem mem_foldl_er : ∀ (l : List Nat) {O : Sl} {i : Nat}, i ∈ l.foldl er O ↔ i ∈ O ∧ i ∉ l
  | [], O, i => by simp
  | j :: l, O, i => by
    rw [List.foldl_cons, mem_foldl_er l]
    simp only [er, List.mem_filter, List.mem_cons, not_or, bne_iff_ne, ne_eq, decide_eq_true_eq]
    constructor
    · rintro ⟨⟨h1, h2⟩, h3⟩; exact ⟨h1, h2, h3⟩
    · rintro ⟨h1, h2, h3⟩; exact ⟨⟨h1, h2⟩, h3⟩
theorem sub_mem {A B : Sl} (h : sub A B = true) {i : Nat} (hi : i ∈ A) : i ∈ B := by
  have := List.all_eq_true.mp h i hi
  simpa using this
theorem SR.shrink (S : SR K w IO F0 F B O σ H env) (h : ∀ i ∈ O', i ∈ O) : ∃ F', SR K w IO F0 F' B O' σ H env ∧ Same F F' := by
  obtain ⟨F', S', s⟩ := S.shrinks (O.filter fun i => !O'.contains i)
  refine ⟨F', S'.congr fun i => ?_, s⟩
  rw [mem_foldl_er]
  simp only [List.mem_filter, Bool.not_eq_true', List.contains_eq_mem, decide_eq_false_iff_not, not_and, Decidable.not_not]
  exact ⟨fun q => ⟨h i q, fun _ => q⟩, fun q => q.2 q.1⟩
/-- fewer things of others -/
theorem SR.less (S : SR K w IO F0 F B' O σ H env) (s : Same B B') : SR K w IO F0 F B O σ H env where
  fh := S.fh
  bh := s.trans S.bh
  f0 := S.f0
  fb := fun a o e => (S.fb a o e).imp id fun q => s.free q
  slot := fun i d e => by
    obtain ⟨v, h1, h2, h3⟩ := S.slot i d e
    refine ⟨v, h1, fun q => ?_, h3⟩
    have o := h2 q
    cases d with
    | list ds => obtain ⟨a, xs, e1, f1, f2, f3, f4⟩ := o; exact ⟨a, xs, e1, f1, s.free f2, f3, f4⟩
    | dict ds => obtain ⟨a, ep, L, tk, e1, f1, f2, f3, f4⟩ := o; exact ⟨a, ep, L, tk, e1, f1, s.free f2, f3, f4⟩
    | none => exact o
    | bool b => exact o
    | int b => exact o
    | str b => exact o
    | tuple b => exact o
  apart := S.apart
  len := S.len
  io := S.io
/-- a mutable value's address -/
theorem OwnV.addr {v : V} {d : AV} (o : OwnV K w F B H v d) (h : mutA d = true) : ∃ a u, v = .ref a ∧ F a = none ∧ B a = none ∧ H a = some u := by
  cases d with
  | list ds => obtain ⟨a, xs, e1, f1, f2, f3, f4⟩ := o; exact ⟨a, _, e1, f1, f2, f3⟩
  | dict ds => obtain ⟨a, ep, L, tk, e1, f1, f2, f3, f4⟩ := o; exact ⟨a, _, e1, f1, f2, f3⟩
  | _ => cases h
/-- what holds a thing of its own, under another heap -/
theorem OwnV.at {v : V} {d : AV} (o : OwnV K w F B H v d) (ff : Same F F') (h : ∀ a u, v = .ref a → mutA d = true → F a = none → B a = none → H a = some u → F' a = none ∧ B' a = none ∧ H' a = some u) : OwnV K w F' B' H' v d := by
  cases d with
  | list ds =>
    obtain ⟨a, xs, e1, f1, f2, f3, f4⟩ := o
    obtain ⟨g1, g2, g3⟩ := h a _ e1 rfl f1 f2 f3
    exact ⟨a, xs, e1, g1, g2, g3, f4.mono ff⟩
  | dict ds =>
    obtain ⟨a, ep, L, tk, e1, f1, f2, f3, f4⟩ := o
    obtain ⟨g1, g2, g3⟩ := h a _ e1 rfl f1 f2 f3
    exact ⟨a, ep, L, tk, e1, g1, g2, g3, f4.mono ff⟩
  | none => exact Rep.mono ff o
  | bool b => exact Rep.mono ff o
  | int b => exact Rep.mono ff o
  | str b => exact Rep.mono ff o
  | tuple b => exact Rep.mono ff o
/-- no owned slot stands at a -/
def NoSlot (O : Sl) (σ : L2.St) (env : Env) (a : Addr) : Prop := ∀ j ∈ O, ∀ e, env[j]? = some (some e) → mutA e = true → σ[j]? ≠ some (some (.ref a))
theorem SR.noSlot {a : Addr} (S : SR K w IO F0 F B O σ H env) (h : F a ≠ none ∨ B a ≠ none ∨ H a = none) : NoSlot O σ env a := fun j hj e he hm hs => by
  obtain ⟨v, h1, h2, _⟩ := S.slot j e he
  obtain ⟨b, u, e1, f1, f2, f3⟩ := (h2 hj).addr hm
  rw [h1, e1] at hs
  cases hs
  rcases h with q | q | q
  · exact q f1
  · exact q f2
  · rw [f3] at q; cases q
/-- an object of nobody here is written, among the things of others -/
theorem SR.put {a : Addr} {o : HO} (S : SR K w IO F0 F B O σ H env) (hF : F a = none) (hn : NoSlot O σ env a) : SR K w IO F0 F (upd B a o) O σ (upd H a o) env where
  fh := fun b u e => by
    by_cases hb : b = a
    · subst hb; rw [hF] at e; cases e
    · rw [upd_ne hb]; exact S.fh _ _ e
  bh := fun b u e => by
    by_cases hb : b = a
    · subst hb; rw [upd_same] at e ⊢; exact e
    · rw [upd_ne hb] at e ⊢; exact S.bh _ _ e
  f0 := S.f0
  fb := fun b u e => by
    by_cases hb : b = a
    · subst hb; rw [hF] at e; cases e
    · rw [upd_ne hb]; exact S.fb _ _ e
  slot := fun i d e => by
    obtain ⟨v, h1, h2, h3⟩ := S.slot i d e
    refine ⟨v, h1, fun q => (h2 q).at (Same.refl _) fun b u eb hm f1 f2 f3 => ?_, h3⟩
    have hb : b ≠ a := fun z => hn i q d e hm (by rw [h1, eb, z])
    exact ⟨f1, by rw [upd_ne hb]; exact f2, by rw [upd_ne hb]; exact f3⟩
  apart := S.apart
  len := S.len
  io := S.io
/-- slots are forgotten -/
theorem SR.forget {σ' : L2.St} {env' : Env} (S : SR K w IO F0 F B O σ H env) (l1 : env'.length = env.length) (l2 : σ'.length = σ.length) (h : ∀ (i : Nat) (d : AV), env'[i]? = some (some d) → env[i]? = some (some d) ∧ σ'[i]? = σ[i]?) (hio : ∀ i ∈ O, σ'[i]? = σ[i]?) : SR K w IO F0 F B O σ' H env' where
  fh := S.fh
  bh := S.bh
  f0 := S.f0
  fb := S.fb
  slot := fun i d e => by
    obtain ⟨h1, h2⟩ := h i d e
    obtain ⟨v, g1, g2, g3⟩ := S.slot i d h1
    exact ⟨v, by rw [h2]; exact g1, g2, g3⟩
  apart := fun i j a d e hi hj e1 e2 m1 m2 s1 s2 => by
    obtain ⟨p1, p2⟩ := h i d e1
    obtain ⟨q1, q2⟩ := h j e e2
    rw [p2] at s1
    rw [q2] at s2
    exact S.apart i j a d e hi hj p1 q1 m1 m2 s1 s2
  len := by rw [l1, l2]; exact S.len
  io := fun p hp q => by rw [hio p.1 q]; exact S.io p hp q
/-- a slot is stored: a frozen value -/
theorem SR.store {i : Nat} {v : V} {d : AV} (S : SR K w IO F0 F B O σ H env) (hi : i ∉ O) (hv : Rep K w F v d) : SR K w IO F0 F B O (σ.set i (some v)) H (env.set i (some d)) where
  fh := S.fh
  bh := S.bh
  f0 := S.f0
  fb := S.fb
  slot := fun j e he => by
    by_cases hj : i = j
    · subst hj
      rw [List.getElem?_set] at he
      by_cases hl : i < env.length
      · simp [hl] at he
        subst he
        exact ⟨v, by rw [List.getElem?_set]; simp [← S.len, hl], fun q => absurd q hi, fun _ => hv⟩
      · simp [hl] at he
    · rw [List.getElem?_set_ne hj] at he ⊢
      exact S.slot j e he
  apart := fun j k a e f hj hk e1 e2 m1 m2 s1 s2 => by
    have n1 : i ≠ j := fun z => hi (z ▸ hj)
    have n2 : i ≠ k := fun z => hi (z ▸ hk)
    rw [List.getElem?_set_ne n1] at e1 s1
    rw [List.getElem?_set_ne n2] at e2 s2
    exact S.apart j k a e f hj hk e1 e2 m1 m2 s1 s2
  len := by rw [List.length_set, List.length_set]; exact S.len
  io := fun p hp q => by rw [List.getElem?_set_ne (fun z => hi (by rw [z]; exact q))]; exact S.io p hp q
/-- a slot is stored: what it alone holds -/
theorem SR.storeO {i : Nat} {v : V} {d : AV} (S : SR K w IO F0 F B O σ H env) (hi : i ∉ O) (hio : ∀ p ∈ IO, p.1 ≠ i) (hv : OwnV K w F B H v d) (hn : ∀ a, v = .ref a → mutA d = true → NoSlot O σ env a) : SR K w IO F0 F B (i :: O) (σ.set i (some v)) H (env.set i (some d)) where
  fh := S.fh
  bh := S.bh
  f0 := S.f0
  fb := S.fb
  slot := fun j e he => by
    by_cases hj : i = j
    · subst hj
      rw [List.getElem?_set] at he
      by_cases hl : i < env.length
      · simp [hl] at he
        subst he
        exact ⟨v, by rw [List.getElem?_set]; simp [← S.len, hl], fun _ => hv, fun q => absurd List.mem_cons_self q⟩
      · simp [hl] at he
    · rw [List.getElem?_set_ne hj] at he ⊢
      obtain ⟨u, h1, h2, h3⟩ := S.slot j e he
      exact ⟨u, h1, fun q => h2 ((List.mem_cons.mp q).resolve_left (Ne.symm hj)), fun q => h3 fun z => q (List.mem_cons_of_mem _ z)⟩
  apart := fun j k a e f hj hk e1 e2 m1 m2 s1 s2 => by
    have get : ∀ {j : Nat} {e : AV}, (env.set i (some d))[j]? = some (some e) → i = j → e = d ∧ ∀ a : Addr, (σ.set i (some v))[j]? = some (some (V.ref a)) → v = .ref a := fun {j e} he z => by
      subst z
      rw [List.getElem?_set] at he
      by_cases hl : i < env.length
      · simp [hl] at he
        refine ⟨he.symm, fun a q => ?_⟩
        rw [List.getElem?_set] at q
        simp [← S.len, hl] at q
        exact q
      · simp [hl] at he
    have old : ∀ {j k : Nat} {e f : AV}, i = j → i ≠ k → k ∈ i :: O → (env.set i (some d))[j]? = some (some e) → (env.set i (some d))[k]? = some (some f) → mutA e = true → mutA f = true → (σ.set i (some v))[j]? = some (some (V.ref a)) → (σ.set i (some v))[k]? = some (some (V.ref a)) → False := fun {j k e f} z n hk e1 e2 m1 m2 s1 s2 => by
      obtain ⟨g1, g2⟩ := get e1 z
      rw [List.getElem?_set_ne n] at e2 s2
      exact hn a (g2 a s1) (g1 ▸ m1) k ((List.mem_cons.mp hk).resolve_left (Ne.symm n)) f e2 m2 s2
    by_cases zj : i = j
    · by_cases zk : i = k
      · exact zj.symm.trans zk
      · exact (old zj zk hk e1 e2 m1 m2 s1 s2).elim
    · by_cases zk : i = k
      · exact (old zk zj hj e2 e1 m2 m1 s2 s1).elim
      · rw [List.getElem?_set_ne zj] at e1 s1
        rw [List.getElem?_set_ne zk] at e2 s2
        exact S.apart j k a e f ((List.mem_cons.mp hj).resolve_left (Ne.symm zj)) ((List.mem_cons.mp hk).resolve_left (Ne.symm zk)) e1 e2 m1 m2 s1 s2
  len := by rw [List.length_set, List.length_set]; exact S.len
  io := fun p hp q => by rw [List.getElem?_set_ne (Ne.symm (hio p hp))]; exact S.io p hp ((List.mem_cons.mp q).resolve_left (hio p hp))
/-- the list or dict of an owned slot is changed in its place -/
theorem SR.change {i : Nat} {a : Addr} {d d' : AV} {o : HO} (S : SR K w IO F0 F B O σ H env) (hi : i ∈ O) (hd : env[i]? = some (some d)) (hm : mutA d = true) (hs : σ[i]? = some (some (.ref a)))
    (hv : OwnV K w F B (upd H a o) (.ref a) d') : SR K w IO F0 F B O σ (upd H a o) (env.set i (some d')) := by
  obtain ⟨v, h1, h2, _⟩ := S.slot i d hd
  rw [hs] at h1
  cases h1
  obtain ⟨b, u, e1, f1, f2, f3⟩ := (h2 hi).addr hm
  cases e1
  have hil : i < env.length := (List.getElem?_eq_some_iff.mp hd).1
  have now : ∀ {j : Nat} {e : AV}, (env.set i (some d'))[j]? = some (some e) → i = j → e = d' := fun {j e} he z => by
    subst z
    rw [List.getElem?_set_self hil] at he
    cases he; rfl
  refine ⟨fun b u e => ?_, fun b u e => ?_, S.f0, S.fb, fun j e he => ?_, fun j k b e f hj hk e1 e2 m1 m2 s1 s2 => ?_, by rw [List.length_set]; exact S.len, S.io⟩
  · rw [upd_ne (fun z => by subst z; rw [f1] at e; cases e)]; exact S.fh _ _ e
  · rw [upd_ne (fun z => by subst z; rw [f2] at e; cases e)]; exact S.bh _ _ e
  · by_cases hj : i = j
    · subst hj
      obtain rfl := now he rfl
      exact ⟨.ref a, hs, fun _ => hv, fun q => absurd hi q⟩
    · rw [List.getElem?_set_ne hj] at he
      obtain ⟨v, g1, g2, g3⟩ := S.slot j e he
      refine ⟨v, g1, fun q => (g2 q).at (Same.refl _) fun b u eb hmb k1 k2 k3 => ⟨k1, k2, ?_⟩, g3⟩
      rw [upd_ne fun z => ?_]
      · exact k3
      · subst z
        exact hj (S.apart i j b d e hi q hd he hm hmb hs (by rw [g1, eb]))
  · have same : ∀ {j : Nat} {e : AV}, (env.set i (some d'))[j]? = some (some e) → mutA e = true → ∃ e0, env[j]? = some (some e0) ∧ mutA e0 = true := fun {j e} he hme => by
      by_cases hj : i = j
      · subst hj; exact ⟨d, hd, hm⟩
      · rw [List.getElem?_set_ne hj] at he; exact ⟨e, he, hme⟩
    obtain ⟨x, x1, x2⟩ := same e1 m1
    obtain ⟨y, y1, y2⟩ := same e2 m2
    exact S.apart j k b x y hj hk x1 y1 x2 y2 s1 s2
end
/-! ### readings -/
/-- val: a frozen value; new: what is made anew is wanted as its own; opd: an operand -/
inductive Md | val | new | opd deriving DecidableEq
/-- behind an expression -/
structure Pst (K : PySem.W.Frag) (w : World) (IO : List (Nat × Addr)) (F0 F B : Hp) (O' : Sl) (σ : L2.St) (H : Hp) (env' : Env) (pr : Bool) (F' H' : Hp) : Prop where
  sr : SR K w IO F0 F' B O' σ H' env'
  ff : Same F F'
  hh : pr = true → Same H H'
def owM (m : Md) (O : Sl) (x : X) : Option Sl := match m with
  | .opd => bor x O (owE O x)
  | _ => owE O x
/-- a list or dict that is looked at: not among the things of others, or frozen -/
def OB (K : PySem.W.Frag) (w : World) (F' B H' : Hp) (v : V) (d : AV) : Prop := mutA d = true → (∃ a u, v = .ref a ∧ B a = none ∧ H' a = some u) ∨ Rep K w F' v d
theorem Rep.ob {K : PySem.W.Frag} {w : World} {F B H : Hp} {v : V} {d : AV} (r : Rep K w F v d) : OB K w F B H v d := fun _ => .inr r
/-- what is known of the value -/
def RV (K : PySem.W.Frag) (w : World) (m : Md) (x : X) (F' B H' : Hp) (O' : Sl) (σ : L2.St) (env' : Env) (v : V) (d : AV) : Prop := match m with
  | .val => Rep K w F' v d
  | .opd => Opd K w F' H' v d ∧ OB K w F' B H' v d
  | .new => if freshE x = true then OwnV K w F' B H' v d ∧ ∀ a, v = .ref a → mutA d = true → NoSlot O' σ env' a else Rep K w F' v d
def rd (K : PySem.W.Frag) (w : World) (cal : Cal) (m : Md) (x : X) : TE := fun σ H Q => ∃ IO F0 F B O env d env' O', SR K w IO F0 F B O σ H env ∧ evE cal x env = .ok (d, env') ∧ owM m O x = some O' ∧
  ∀ v F' H', Pst K w IO F0 F B O' σ H env' (prE x) F' H' → RV K w m x F' B H' O' σ env' v d → Q v H'
theorem andThen_some {r : Option Sl} {f : Sl → Option Sl} {O : Sl} (h : andThen r f = some O) : ∃ O1, r = some O1 ∧ f O1 = some O := by
  cases r with
  | none => cases h
  | some O1 => exact ⟨O1, rfl, h⟩
theorem both_some {a b : Option Sl} {O : Sl} (h : both a b = some O) : ∃ A B, a = some A ∧ b = some B ∧ O = meet A B := by
  cases a with
  | none => cases h
  | some A => cases b with
    | none => cases h
    | some B => cases h; exact ⟨A, B, rfl, rfl, rfl⟩
theorem mem_meet {A B : Sl} {i : Nat} : i ∈ meet A B ↔ i ∈ A ∧ i ∈ B := by simp [meet]
section
variable {K : PySem.W.Frag} {w : World} {IO : List (Nat × Addr)} {F0 F F' F'' B B' H H' H'' : Hp} {O O' : Sl} {σ : L2.St} {env env' : Env} {x : X} {m : Md} {v : V} {d : AV} {cal : Cal} {Q : VK}
theorem NewV.own (h : NewV K w F'' H H' v d) (hB : Same B H) : OwnV K w F'' B H' v d := by
  cases d with
  | list ds => obtain ⟨a, xs, e, h1, h2, h3, h4⟩ := h; exact ⟨a, xs, e, h1, hB.free h2, h3, h4⟩
  | dict ds => obtain ⟨a, ep, L, tk, e, h1, h2, h3, h4⟩ := h; exact ⟨a, ep, L, tk, e, h1, hB.free h2, h3, h4⟩
  | none => exact h
  | bool b => exact h
  | int b => exact h
  | str b => exact h
  | tuple b => exact h
theorem NewV.free {a : Addr} (h : NewV K w F'' H H' v d) (e : v = .ref a) (hm : mutA d = true) : H a = none := by
  subst e
  cases d with
  | list ds => obtain ⟨a, xs, e, h1, h2, h3, h4⟩ := h; cases e; exact h2
  | dict ds => obtain ⟨a, ep, L, tk, e, h1, h2, h3, h4⟩ := h; cases e; exact h2
  | _ => cases hm
def isNew (m : Md) (x : X) : Bool := match m with
  | .new => freshE x
  | _ => false
/-- from a rule's result to the reading's end -/
theorem res_of {pr : Bool} (hm : m ≠ .opd ∨ isVar x = none) (S : SR K w IO F0 F' B O' σ H' env') (ff : Same F F') (hh : pr = true → Same H H')
    (q : ∀ v F'' H'', Pst K w IO F0 F B O' σ H env' pr F'' H'' → RV K w m x F'' B H'' O' σ env' v d → Q v H'') : Res K w (isNew m x) F' H' d Q := by
  intro v F'' H'' X hn hv
  refine q v F'' H'' ⟨S.ext X, ff.trans X.ff, fun p => (hh p).trans X.hh⟩ ?_
  cases m with
  | val => exact hv rfl
  | opd => exact ⟨(hv rfl).opd X.fh, (hv rfl).ob⟩
  | new =>
    unfold RV
    cases h : freshE x with
    | false =>
      rw [if_neg (by decide)]
      exact hv h
    | true =>
      rw [if_pos rfl]
      have N := hn h
      refine ⟨N.own S.bh, fun a e hmu => ?_⟩
      exact S.noSlot (.inr (.inr (N.free e hmu)))
/-- a value that is there already -/
theorem RV.of_rep {B : Hp} (hn : m = .new → freshE x = false) (hF : Same F H) (r : Rep K w F v d) : RV K w m x F B H O' σ env' v d := by
  cases m with
  | val => exact r
  | opd => exact ⟨r.opd hF, r.ob⟩
  | new =>
    unfold RV
    rw [if_neg (by rw [hn rfl]; decide)]
    exact r
theorem Opd.ext (ff : Same F F') (hh : Same H H') (r : Opd K w F H v d) : Opd K w F' H' v d := by
  cases d with
  | list ds => obtain ⟨a, xs, e, h, r⟩ := r; exact ⟨a, xs, e, h.mono hh, r.mono ff⟩
  | dict ds => obtain ⟨a, ep, L, tk, e, h, r⟩ := r; exact ⟨a, ep, L, tk, e, hh _ _ h, r.mono ff⟩
  | none => exact Rep.mono ff r
  | bool b => exact Rep.mono ff r
  | int b => exact Rep.mono ff r
  | str b => exact Rep.mono ff r
  | tuple b => exact Rep.mono ff r
end
end Ev
namespace L2
open PySem PySem.Spec PyProof.Rows
theorem PE.imp {X : Cx} {e : Expr} {t t' : TE} (h : PE X e t) (hi : ∀ σ H Q, t' σ H Q → t σ H Q) : PE X e t' := ⟨fun pins s σ H Q I q => h.run pins s σ H Q I (hi σ H Q q)⟩
theorem PT.imp {X : Cx} {e : Expr} {t t' : TT} (h : PT X e t) (hi : ∀ σ H Q, t' σ H Q → t σ H Q) : PT X e t' := ⟨fun pins s σ H Q I q => h.run pins s σ H Q I (hi σ H Q q)⟩
theorem PW.imp {X : Cx} {e : Expr} {t t' : TT} (h : PW X e t) (hi : ∀ σ H Q, t' σ H Q → t σ H Q) : PW X e t' := ⟨fun wh pins s σ H Q I q => h.run wh pins s σ H Q I (hi σ H Q q)⟩
theorem PA.imp {X : Cx} {e : List Expr} {t t' : TA} (h : PA X e t) (hi : ∀ σ H Q, t' σ H Q → t σ H Q) : PA X e t' := ⟨fun p pins s σ H Q I q => h.run p pins s σ H Q I (hi σ H Q q)⟩
theorem PS.imp {X : Cx} {e : Stmt} {t t' : TS} (h : PS X e t) (hi : ∀ D σ H, t' D σ H → t D σ H) : PS X e t' := ⟨fun pins s σ H D I q => h.run pins s σ H D I (hi D σ H q)⟩
theorem PSs.imp {X : Cx} {e : List Stmt} {t t' : TS} (h : PSs X e t) (hi : ∀ D σ H, t' D σ H → t D σ H) : PSs X e t' := ⟨fun pins s σ H D I q => h.run pins s σ H D I (hi D σ H q)⟩
end L2
end
section
set_option linter.all false
set_option autoImplicit false
set_option maxRecDepth 100000
/-! EvF: expressions without comprehensions: from the parts' rules to the whole's. -/
namespace Ev
open PySem PySem.Spec PyProof.Rows L2
def bopP : Bop → Operator
  | .add => .Add | .sub => .Sub | .mul => .Mult | .fdiv => .FloorDiv | .mod => .Mod | .pow => .Pow
def copP : Cop → CmpOp
  | .eq => .Eq | .ne => .NotEq | .lt => .Lt | .le => .LtE | .gt => .Gt | .ge => .GtE | .isN => .Is | .isB => .Is | .notN => .IsNot | .in_ => .In | .nin => .NotIn
def rUn (K : PySem.W.Frag) (w : World) (f : AV → R AV) (b : Bool) : V → Hp → VK → Prop := fun x H Q => ∃ F dx d, Same F H ∧ Opd K w F H x dx ∧ f dx = .ok d ∧ Res K w b F H d Q
def rSlc (K : PySem.W.Frag) (w : World) (b : Bool) : V → Option Int → Option Int → Hp → VK → Prop := fun x lo hi H Q => ∃ F dx d, Same F H ∧ Opd K w F H x dx ∧ slcop dx lo hi = .ok d ∧ Res K w b F H d Q
def negop : AV → R AV
  | .int i => .ok (.int (-i))
  | _ => .bad
/-- the rules by values -/
structure Rules (c : Cx) : Prop where
  bin : ∀ op b, OpR c (binaryOp (bopP op)) (rOp c.K c.w (binop op) b)
  cmp : ∀ op b, OpR c (compareOp (copP op)) (rOp c.K c.w (cmpop op) b)
  idx : IxR c (rOp c.K c.w idxop false)
  slc : ∀ b, SlR c (rSlc c.K c.w b)
/-- what is shown of an expression -/
structure OkE (cal : Cal) (c : Cx) (e : Expr) (x : X) : Prop where
  pe : ∀ m, PE c e (rd c.K c.w cal m x)
  pt : PT c e (tB (rd c.K c.w cal .val x))
  pw : ∀ op l p, e = .BoolOp op l p → PW c e (tB (rd c.K c.w cal .val x))
/-- expressions whose test is their value's -/
def tvE : Expr → Bool
  | .UnaryOp .Not _ _ => false
  | .BoolOp .. => false
  | .IfExp .. => false
  | .Compare .. => false
  | _ => true
theorem isTrue_tv {e : Expr} (h : tvE e = true) (env : PySem.Env) (whole : Sem Value) : isTrue e env whole = (do let v ← whole; standAt e.pos; holding [v] (truthy v)) := by
  cases e <;> first
    | rfl
    | (rename_i op _ _; cases op <;> first | rfl | cases h)
    | cases h
theorem OkE.of {cal : Cal} {c : Cx} {e : Expr} {x : X} (h : tvE e = true) (pe : ∀ m, PE c e (rd c.K c.w cal m x)) : OkE cal c e x :=
  ⟨pe, pt_val (pe .val) (isTrue_tv h _), fun op l p z => by subst z; cases h⟩
def opM (b : Bool) : Md := if b then .opd else .val
section
variable {K : PySem.W.Frag} {w : World} {cal : Cal} {m : Md} {x0 a b : X} {σ : L2.St} {H : Hp} {Q : VK}
theorem owM_nv {O : Sl} (h : isVar x0 = none) : owM m O x0 = owE O x0 := by
  cases m <;> first | rfl | (show bor x0 O (owE O x0) = _; unfold bor; rw [h])
theorem owM_opM {O : Sl} : owM (opM (prE b)) O a = if prE b then bor a O (owE O a) else owE O a := by
  unfold opM
  cases prE b <;> rfl
/-- the operand a behind the evaluation of b -/
theorem opd_after {F1 F2 B H1 H2 : Hp} {O1 O2 : Sl} {IO : List (Nat × Addr)} {F0 : Hp} {e1 e2 : Env} {va : V} {da : AV} (r1 : RV K w (opM (prE b)) a F1 B H1 O1 σ e1 va da) (p2 : Pst K w IO F0 F1 B O2 σ H1 e2 (prE b) F2 H2) : Opd K w F2 H2 va da := by
  cases h : prE b with
  | true =>
    rw [h] at r1 p2
    exact Opd.ext p2.ff (p2.hh rfl) r1.1
  | false =>
    rw [h] at r1
    exact (Rep.mono p2.ff r1).opd p2.sr.fh
theorem two_imp {f : AV → AV → R AV} (hx : isVar x0 = none) (hev : ∀ env, evE cal x0 env = (do let (x, e1) ← evE cal a env; let (y, e2) ← evE cal b e1; .ok (← f x y, e2)))
    (how : ∀ O, owE O x0 = andThen (if prE b then bor a O (owE O a) else owE O a) fun O1 => bor b O1 (owE O1 b)) (hpr : prE x0 = (prE a && prE b)) (h : rd K w cal m x0 σ H Q) :
    tOp (rOp K w f (isNew m x0)) (rd K w cal (opM (prE b)) a) (rd K w cal .opd b) σ H Q := by
  obtain ⟨IO, F0, F, B, O, env, d, env', O', S, e, o, q⟩ := h
  rw [hev] at e
  obtain ⟨⟨da, e1⟩, ea, e⟩ := R.bind_eq_ok e
  obtain ⟨⟨db, e2⟩, eb, e⟩ := R.bind_eq_ok e
  obtain ⟨d', ef, e⟩ := R.bind_eq_ok e
  cases e
  rw [owM_nv hx, how] at o
  obtain ⟨O1, oa, ob⟩ := andThen_some o
  refine ⟨IO, F0, F, B, O, env, da, e1, O1, S, ea, by rw [owM_opM]; exact oa, fun va F1 H1 p1 r1 => ⟨IO, F0, F1, B, O1, e1, db, env', O', p1.sr, eb, ob, fun vb F2 H2 p2 r2 => ?_⟩⟩
  refine ⟨F2, da, db, d, p2.sr.fh, opd_after r1 p2, r2.1, ef, ?_⟩
  exact res_of (.inr hx) p2.sr (p1.ff.trans p2.ff) (fun h => by rw [hpr, Bool.and_eq_true] at h; exact (p1.hh h.1).trans (p2.hh h.2)) q
/-- both operands frozen -/
theorem two_val {f : AV → AV → R AV} (hx : isVar x0 = none) (hev : ∀ env, evE cal x0 env = (do let (x, e1) ← evE cal a env; let (y, e2) ← evE cal b e1; .ok (← f x y, e2)))
    (how : ∀ O, owE O x0 = andThen (owE O a) fun O1 => owE O1 b) (hpr : prE x0 = (prE a && prE b)) (h : rd K w cal m x0 σ H Q) :
    tOp (rOp K w f (isNew m x0)) (rd K w cal .val a) (rd K w cal .val b) σ H Q := by
  obtain ⟨IO, F0, F, B, O, env, d, env', O', S, e, o, q⟩ := h
  rw [hev] at e
  obtain ⟨⟨da, e1⟩, ea, e⟩ := R.bind_eq_ok e
  obtain ⟨⟨db, e2⟩, eb, e⟩ := R.bind_eq_ok e
  obtain ⟨d', ef, e⟩ := R.bind_eq_ok e
  cases e
  rw [owM_nv hx, how] at o
  obtain ⟨O1, oa, ob⟩ := andThen_some o
  refine ⟨IO, F0, F, B, O, env, da, e1, O1, S, ea, oa, fun va F1 H1 p1 r1 => ⟨IO, F0, F1, B, O1, e1, db, env', O', p1.sr, eb, ob, fun vb F2 H2 p2 r2 => ?_⟩⟩
  refine ⟨F2, da, db, d, p2.sr.fh, (Rep.mono p2.ff r1).opd p2.sr.fh, Rep.opd p2.sr.fh r2, ef, ?_⟩
  exact res_of (.inr hx) p2.sr (p1.ff.trans p2.ff) (fun h => by rw [hpr, Bool.and_eq_true] at h; exact (p1.hh h.1).trans (p2.hh h.2)) q
theorem one_imp {f : AV → R AV} {m1 : Md} (hm1 : m1 ≠ .new) (hx : isVar x0 = none) (hev : ∀ env, evE cal x0 env = (do let (x, e1) ← evE cal a env; .ok (← f x, e1)))
    (how : ∀ O, owE O x0 = owM m1 O a) (hpr : prE x0 = prE a) (h : rd K w cal m x0 σ H Q) :
    tUn (rUn K w f (isNew m x0)) (rd K w cal m1 a) σ H Q := by
  obtain ⟨IO, F0, F, B, O, env, d, env', O', S, e, o, q⟩ := h
  rw [hev] at e
  obtain ⟨⟨da, e1⟩, ea, e⟩ := R.bind_eq_ok e
  obtain ⟨d', ef, e⟩ := R.bind_eq_ok e
  cases e
  rw [owM_nv hx, how] at o
  refine ⟨IO, F0, F, B, O, env, da, env', O', S, ea, o, fun va F1 H1 p1 r1 => ⟨F1, da, d, p1.sr.fh, ?_, ef, ?_⟩⟩
  · cases m1 with
    | val => exact Rep.opd p1.sr.fh r1
    | opd => exact r1.1
    | new => exact absurd rfl hm1
  · exact res_of (.inr hx) p1.sr p1.ff (fun h => p1.hh (by rw [← hpr]; exact h)) q
theorem imm_rv {F B : Hp} {O' : Sl} {env' : Env} {v : V} {d : AV} (hn : freshE x0 = false) (hF : Same F H) (r : Rep K w F v d) : RV K w m x0 F B H O' σ env' v d := RV.of_rep (fun _ => hn) hF r
end
theorem asB_ok {d : AV} {k : Bool} (h : asB d = .ok k) : d = .bool k := by
  cases d <;> first | (cases h; rfl) | cases h
section
variable {cal : Cal} {c : Cx}
/-! ### names, constants -/
theorem ok_var {i : Nat} {y : Str} {pos : Pos} (hN : c.N[i]? = some y) (hv : Vis c.env.scope y) (hd : (y == ("__debug__" : Str)) = false) (hcd : (y == ("__classdict__" : Str)) = false) : OkE cal c (.Name y pos) (.var i) := by
  refine OkE.of rfl fun m => (pe_var hN hv hd hcd).imp fun σ H Q h => ?_
  obtain ⟨IO, F0, F, B, O, env, d, env', O', S, e, o, q⟩ := h
  obtain ⟨d', e1, e2⟩ := R.bind_eq_ok (show (look env i >>= fun d => R.ok (d, env)) = .ok (d, env') from e)
  cases e2
  have hd' : env[i]? = some (some d) := by
    unfold look at e1
    split at e1
    · rename_i v hv; cases e1; exact hv
    · cases e1
  obtain ⟨v, h1, h2, h3⟩ := S.slot i d hd'
  refine ⟨v, h1, ?_⟩
  have fz : ∀ m : Md, m ≠ .opd → owM m O (.var i) = some O' → (∀ v F' H', Pst c.K c.w IO F0 F B O' σ H env (prE (.var i)) F' H' → RV c.K c.w m (.var i) F' B H' O' σ env v d → Q v H') → Q v H := fun m hm o q => by
    have o' : er O i = O' := by cases m <;> first | exact absurd rfl hm | exact Option.some.inj o
    subst o'
    obtain ⟨F', S', s', hr⟩ := S.freeze (i := i)
    exact q v F' H ⟨S', s', fun _ => Same.refl _⟩ (imm_rv rfl S'.fh (hr d v hd' h1))
  cases m with
  | val => exact fz .val (by decide) o q
  | new => exact fz .new (by decide) o q
  | opd =>
    have o' : O = O' := Option.some.inj o
    subst o'
    refine q v F H ⟨S, Same.refl _, fun _ => Same.refl _⟩ ?_
    show Opd c.K c.w F H v d ∧ OB c.K c.w F B H v d
    by_cases hi : i ∈ O
    · exact ⟨(h2 hi).opd S.fh, fun hm => by
        obtain ⟨a, u, e, _, g2, g3⟩ := (h2 hi).addr hm
        exact .inl ⟨a, u, e, g2, g3⟩⟩
    · exact ⟨(h3 hi).opd S.fh, (h3 hi).ob⟩
def constV : Const → Option AV
  | .none => some .none
  | .bool b => some (.bool b)
  | .int i => some (.int i)
  | .str x => some (.str x)
  | _ => none
theorem con_imp {v : V} {a : AV} {m : Md} {σ : L2.St} {H : Hp} {Q : VK} (hr : ∀ F, Rep c.K c.w F v a) (h : rd c.K c.w cal m (.con a) σ H Q) : Q v H := by
  obtain ⟨IO, F0, F, B, O, env, d, env', O', S, e, o, q⟩ := h
  cases e
  rw [owM_nv rfl] at o
  cases o
  exact q v F H ⟨S, Same.refl _, fun _ => Same.refl _⟩ (imm_rv rfl S.fh (hr F))
theorem ok_con {k : Const} {a : AV} {j : Nat} {pos : Pos} (h : constV k = some a) : OkE cal c (.Constant k j pos) (.con a) := by
  refine OkE.of rfl fun m => ?_
  cases k with
  | none => cases h; exact pe_non.imp fun σ H Q q => con_imp (fun _ => .non) q
  | bool b => cases h; exact pe_bl.imp fun σ H Q q => con_imp (fun _ => .bl b) q
  | int b => cases h; exact pe_int.imp fun σ H Q q => con_imp (fun _ => .int b) q
  | str b => cases h; exact pe_str.imp fun σ H Q q => con_imp (fun _ => .str b) q
  | _ => cases h
theorem ok_glo {y : Str} {a : AV} {pos : Pos} (hg : Gl c y) (hd : (y == ("__debug__" : Str)) = false) (h : ∃ v u, c.mg y = some u ∧ RelV v u ∧ ∀ F, Rep c.K c.w F v a) : OkE cal c (.Name y pos) (.con a) := by
  obtain ⟨v, u, h1, h2, h3⟩ := h
  exact OkE.of rfl fun m => (pe_glob hg h1 h2 hd).imp fun σ H Q q => con_imp h3 q
mutual
theorem beqA_ok : ∀ {a b : AV}, beqA a b = true → a = b
  | .int a, .int b, h => by rw [of_decide_eq_true (show decide (a = b) = true from h)]
  | .str a, .str b, h => by rw [of_decide_eq_true (show decide (a = b) = true from h)]
  | .tuple a, .tuple b, h => by rw [beqAs_ok (show beqAs a b = true from h)]
theorem beqAs_ok : ∀ {a b : List AV}, beqAs a b = true → a = b
  | [], [], _ => rfl
  | x :: xs, y :: ys, h => by
    obtain ⟨h1, h2⟩ := Bool.and_eq_true_iff.mp (show (beqA x y && beqAs xs ys) = true from h)
    rw [beqA_ok h1, beqAs_ok h2]
end
/-! ### operators -/
variable {l r t : Expr} {a b d : X} {pos : Pos}
theorem ok_bin (R : Rules c) (op : Bop) (ha : OkE cal c l a) (hb : OkE cal c r b) : OkE cal c (.BinOp l (bopP op) r pos) (.bin op a b) :=
  OkE.of rfl fun m => (pe_op (R.bin op (isNew m (.bin op a b))) (ha.pe (opM (prE b))) (hb.pe .opd)).imp fun σ H Q q => two_imp rfl (fun env => rfl) (fun O => rfl) rfl q
theorem ok_idx (R : Rules c) (hs : PlainIx r) (ha : OkE cal c l a) (hb : OkE cal c r b) : OkE cal c (.Subscript l r pos) (.idx a b) :=
  OkE.of rfl fun m => (pe_ix R.idx (ha.pe (opM (prE b))) (hb.pe .opd) hs).imp fun σ H Q q => by
    have h := two_imp (f := idxop) rfl (fun env => rfl) (fun O => rfl) rfl q
    have hn : isNew m (.idx a b) = false := by cases m <;> rfl
    rw [hn] at h
    exact h
theorem ok_cmp (R : Rules c) (op : Cop) (hm : behindInMarks (copP op) r = false) (ha : OkE cal c l a) (hb : OkE cal c r b) : OkE cal c (.Compare l [copP op] [r] pos) (.cmp op a b) :=
  have im : ∀ {m : Md} {σ : L2.St} {H : Hp} {Q : VK}, rd c.K c.w cal m (.cmp op a b) σ H Q → tOp (rOp c.K c.w (cmpop op) (isNew m (.cmp op a b))) (rd c.K c.w cal (opM (prE b)) a) (rd c.K c.w cal .opd b) σ H Q := fun q => two_imp rfl (fun env => rfl) (fun O => rfl) rfl q
  ⟨fun m => (pe_cmpR (R.cmp op (isNew m (.cmp op a b))) (ha.pe (opM (prE b))) (hb.pe .opd) hm).imp fun σ H Q q => im q,
    (pt_cmpR (R.cmp op (isNew .val (.cmp op a b))) (ha.pe (opM (prE b))) (hb.pe .opd) hm).imp fun σ H Q q => im q, fun _ _ _ z => by cases z⟩
theorem un_negE {nb : Bool} : UnR c (unaryOp .USub) (rUn c.K c.w negop nb) := by
  intro pins s σ H x v Q I rx ⟨F, dx, d, hF, ox, e, q⟩
  cases dx with
  | int i =>
    have ex := ox.intE; subst ex
    cases e
    exact un_neg pins s σ H _ v Q I rx ⟨i, rfl, q.imm rfl hF (.int _)⟩
  | _ => cases e
theorem ok_neg (ha : OkE cal c l a) : OkE cal c (.UnaryOp .USub l pos) (.neg a) :=
  OkE.of rfl fun m => (pe_un (un_negE (nb := isNew m (.neg a))) (ha.pe .val)).imp fun σ H Q q => one_imp (f := negop) (m1 := .val) (by decide) rfl (fun env => by
    show (evE cal a env >>= fun p => _) = (evE cal a env >>= fun p => _)
    cases evE cal a env with
    | ok p => obtain ⟨x, e1⟩ := p; cases x <;> rfl
    | exc _ _ => rfl
    | bad => rfl) (fun O => rfl) rfl q
theorem not_imp {m : Md} {σ : L2.St} {H : Hp} {Q : VK} (h : rd c.K c.w cal m (.not a) σ H Q) : rd c.K c.w cal .val a σ H fun x H1 => ∃ k, x = .bl k ∧ Q (.bl (!k)) H1 := by
  obtain ⟨IO, F0, F, B, O, env, d, env', O', S, e, o, q⟩ := h
  obtain ⟨⟨da, e1⟩, ea, e⟩ := R.bind_eq_ok (show (evE cal a env >>= fun p => (asB p.1 >>= fun k => R.ok (.bool (!k), p.2))) = .ok (d, env') from e)
  obtain ⟨k, ek, e⟩ := R.bind_eq_ok e
  cases e
  obtain rfl := asB_ok ek
  rw [owM_nv rfl] at o
  refine ⟨IO, F0, F, B, O, env, _, e1, O', S, ea, o, fun v F1 H1 p1 r1 => ?_⟩
  cases (show Rep c.K c.w F1 v (.bool k) from r1)
  exact ⟨k, rfl, q _ F1 H1 p1 (imm_rv rfl p1.sr.fh (.bl _))⟩
theorem ok_not (ha : OkE cal c l a) : OkE cal c (.UnaryOp .Not l pos) (.not a) := by
  refine ⟨fun m => (L2.pe_not (ha.pe .val)).imp fun σ H Q q => not_imp q, (pt_not ha.pt).imp fun σ H Q q => ?_, fun _ _ _ z => by cases z⟩
  have h := not_imp q
  obtain ⟨IO, F0, F, B, O, env, d, env', O', S, e, o, q⟩ := h
  refine ⟨IO, F0, F, B, O, env, d, env', O', S, e, o, fun v F1 H1 p1 r1 => ?_⟩
  obtain ⟨k, e1, k2, e2, q2⟩ := q v F1 H1 p1 r1
  cases e2
  exact ⟨k, e1, q2⟩
/-- both ways lead to what both own -/
theorem meet_end {K : PySem.W.Frag} {w : World} {IO : List (Nat × Addr)} {F0 F F1 B H H1 : Hp} {A O' : Sl} {σ : L2.St} {env' : Env} {pr pr' : Bool} (p : Pst K w IO F0 F B A σ H env' pr F1 H1) (h : ∀ i ∈ O', i ∈ A) (hp : pr' = true → pr = true) :
    ∃ F2, Pst K w IO F0 F B O' σ H env' pr' F2 H1 ∧ Same F1 F2 := by
  obtain ⟨F2, S2, s2⟩ := p.sr.shrink h
  exact ⟨F2, ⟨S2, p.ff.trans s2, fun z => p.hh (hp z)⟩, s2⟩
theorem Pst.trans {K : PySem.W.Frag} {w : World} {IO : List (Nat × Addr)} {F0 F F1 F2 B H H1 H2 : Hp} {A O' : Sl} {σ : L2.St} {e1 env' : Env} {p1 p2 pr : Bool} (p : Pst K w IO F0 F B A σ H e1 p1 F1 H1) (q : Pst K w IO F0 F1 B O' σ H1 env' p2 F2 H2) (h : pr = true → p1 = true ∧ p2 = true) :
    Pst K w IO F0 F B O' σ H env' pr F2 H2 := ⟨q.sr, p.ff.trans q.ff, fun z => (p.hh (h z).1).trans (q.hh (h z).2)⟩
theorem and_imp {m : Md} {σ : L2.St} {H : Hp} {Q : VK} (h : rd c.K c.w cal m (.and a b) σ H Q) : rd c.K c.w cal .val a σ H fun x H1 => ∃ k, x = .bl k ∧ if k = true then rd c.K c.w cal .val b σ H1 (fun y H2 => ∃ j, y = .bl j ∧ Q (.bl j) H2) else Q (.bl false) H1 := by
  obtain ⟨IO, F0, F, B, O, env, d, env', O', S, e, o, q⟩ := h
  obtain ⟨⟨da, e1⟩, ea, e⟩ := R.bind_eq_ok (show (evE cal a env >>= fun p => (asB p.1 >>= fun k => match k with
    | true => (evE cal b p.2 >>= fun p2 => asB p2.1 >>= fun j => R.ok (.bool j, p2.2))
    | false => R.ok (.bool false, p.2))) = .ok (d, env') from e)
  obtain ⟨k, ek, e⟩ := R.bind_eq_ok e
  obtain rfl := asB_ok ek
  rw [owM_nv rfl] at o
  obtain ⟨O1, oa, o⟩ := andThen_some (show andThen (owE O a) (fun O1 => both (some O1) (owE O1 b)) = some O' from o)
  obtain ⟨_, O2, h1, ob, rfl⟩ := both_some o
  cases h1
  refine ⟨IO, F0, F, B, O, env, _, e1, O1, S, ea, oa, fun v F1 H1 p1 r1 => ?_⟩
  cases (show Rep c.K c.w F1 v (.bool k) from r1)
  refine ⟨k, rfl, ?_⟩
  cases k with
  | false =>
    cases e
    rw [if_neg (by decide)]
    obtain ⟨F2, p2, s2⟩ := meet_end (O' := meet O1 O2) p1 (fun i hi => (mem_meet.mp hi).1) (pr' := prE (.and a b)) (fun z => by rw [prE, Bool.and_eq_true] at z; exact z.1)
    exact q _ F2 H1 p2 (imm_rv rfl p2.sr.fh (.bl _))
  | true =>
    rw [if_pos rfl]
    obtain ⟨⟨db, e2⟩, eb, e⟩ := R.bind_eq_ok e
    obtain ⟨j, ej, e⟩ := R.bind_eq_ok e
    cases e
    obtain rfl := asB_ok ej
    refine ⟨IO, F0, F1, B, O1, e1, _, e2, O2, p1.sr, eb, ob, fun u F2 H2 p2 r2 => ?_⟩
    cases (show Rep c.K c.w F2 u (.bool j) from r2)
    refine ⟨j, rfl, ?_⟩
    obtain ⟨F3, p3, s3⟩ := meet_end (O' := meet O1 O2) (p1.trans p2 (pr := prE (.and a b)) (fun z => by rw [prE, Bool.and_eq_true] at z; exact z)) (fun i hi => (mem_meet.mp hi).2) (fun z => z)
    exact q _ F3 H2 p3 (imm_rv rfl p3.sr.fh (.bl _))
theorem or_imp {m : Md} {σ : L2.St} {H : Hp} {Q : VK} (h : rd c.K c.w cal m (.or a b) σ H Q) : rd c.K c.w cal .val a σ H fun x H1 => ∃ k, x = .bl k ∧ if k = true then Q (.bl true) H1 else rd c.K c.w cal .val b σ H1 (fun y H2 => ∃ j, y = .bl j ∧ Q (.bl j) H2) := by
  obtain ⟨IO, F0, F, B, O, env, d, env', O', S, e, o, q⟩ := h
  obtain ⟨⟨da, e1⟩, ea, e⟩ := R.bind_eq_ok (show (evE cal a env >>= fun p => (asB p.1 >>= fun k => match k with
    | true => R.ok (.bool true, p.2)
    | false => (evE cal b p.2 >>= fun p2 => asB p2.1 >>= fun j => R.ok (.bool j, p2.2)))) = .ok (d, env') from e)
  obtain ⟨k, ek, e⟩ := R.bind_eq_ok e
  obtain rfl := asB_ok ek
  rw [owM_nv rfl] at o
  obtain ⟨O1, oa, o⟩ := andThen_some (show andThen (owE O a) (fun O1 => both (some O1) (owE O1 b)) = some O' from o)
  obtain ⟨_, O2, h1, ob, rfl⟩ := both_some o
  cases h1
  refine ⟨IO, F0, F, B, O, env, _, e1, O1, S, ea, oa, fun v F1 H1 p1 r1 => ?_⟩
  cases (show Rep c.K c.w F1 v (.bool k) from r1)
  refine ⟨k, rfl, ?_⟩
  cases k with
  | true =>
    cases e
    rw [if_pos rfl]
    obtain ⟨F2, p2, s2⟩ := meet_end (O' := meet O1 O2) p1 (fun i hi => (mem_meet.mp hi).1) (pr' := prE (.or a b)) (fun z => by rw [prE, Bool.and_eq_true] at z; exact z.1)
    exact q _ F2 H1 p2 (imm_rv rfl p2.sr.fh (.bl _))
  | false =>
    rw [if_neg (by decide)]
    obtain ⟨⟨db, e2⟩, eb, e⟩ := R.bind_eq_ok e
    obtain ⟨j, ej, e⟩ := R.bind_eq_ok e
    cases e
    obtain rfl := asB_ok ej
    refine ⟨IO, F0, F1, B, O1, e1, _, e2, O2, p1.sr, eb, ob, fun u F2 H2 p2 r2 => ?_⟩
    cases (show Rep c.K c.w F2 u (.bool j) from r2)
    refine ⟨j, rfl, ?_⟩
    obtain ⟨F3, p3, s3⟩ := meet_end (O' := meet O1 O2) (p1.trans p2 (pr := prE (.or a b)) (fun z => by rw [prE, Bool.and_eq_true] at z; exact z)) (fun i hi => (mem_meet.mp hi).2) (fun z => z)
    exact q _ F3 H2 p3 (imm_rv rfl p3.sr.fh (.bl _))
/-- the end's wish, weaker -/
theorem rd_mono {m : Md} {x : X} {K : PySem.W.Frag} {w : World} {σ : L2.St} {H : Hp} {Q Q' : VK} (h : rd K w cal m x σ H Q) (hq : ∀ v H, Q v H → Q' v H) : rd K w cal m x σ H Q' := by
  obtain ⟨IO, F0, F, B, O, env, d, env', O', S, e, o, q⟩ := h
  exact ⟨IO, F0, F, B, O, env, d, env', O', S, e, o, fun v F' H' p r => hq _ _ (q v F' H' p r)⟩
variable {rest : List Expr} {pos2 : Pos}
/-- l and (the rest): P the rest's own form -/
theorem ok_and (ha : OkE cal c l a) (hpe : PE c (.BoolOp .And (r :: rest) pos) (rd c.K c.w cal .val b)) (hpw : PW c (.BoolOp .And (r :: rest) pos) (tB (rd c.K c.w cal .val b))) : OkE cal c (.BoolOp .And (l :: r :: rest) pos) (.and a b) := by
  have w1 : PW c (.BoolOp .And (l :: r :: rest) pos) (tB (rd c.K c.w cal .val (.and a b))) := (pw_and ha.pt hpw).imp fun σ H Q q => by
    refine rd_mono (and_imp q) fun v H1 ⟨k, e, h⟩ => ⟨k, e, ?_⟩
    cases k with
    | true =>
      rw [if_pos rfl] at h ⊢
      refine rd_mono h fun y H2 ⟨j, e, k2, e2, q2⟩ => ?_
      cases e2
      exact ⟨j, e, q2⟩
    | false =>
      rw [if_neg (by decide)] at h ⊢
      obtain ⟨k2, e2, q2⟩ := h
      cases e2
      exact q2
  refine ⟨fun m => (L2.pe_and (ha.pe .val) hpe).imp fun σ H Q q => ?_, w1.pt, fun _ _ _ _ => w1⟩
  refine rd_mono (and_imp q) fun v H1 ⟨k, e, h⟩ => ⟨k, e, ?_⟩
  cases k with
  | true =>
    rw [if_pos rfl] at h ⊢
    refine rd_mono h fun y H2 ⟨j, e, q2⟩ => ?_
    subst e
    exact q2
  | false => exact h
theorem ok_or (ha : OkE cal c l a) (hpe : PE c (.BoolOp .Or (r :: rest) pos) (rd c.K c.w cal .val b)) (hpw : PW c (.BoolOp .Or (r :: rest) pos) (tB (rd c.K c.w cal .val b))) : OkE cal c (.BoolOp .Or (l :: r :: rest) pos) (.or a b) := by
  have w1 : PW c (.BoolOp .Or (l :: r :: rest) pos) (tB (rd c.K c.w cal .val (.or a b))) := (pw_or ha.pt hpw).imp fun σ H Q q => by
    refine rd_mono (or_imp q) fun v H1 ⟨k, e, h⟩ => ⟨k, e, ?_⟩
    cases k with
    | false =>
      rw [if_neg (by decide)] at h ⊢
      refine rd_mono h fun y H2 ⟨j, e, k2, e2, q2⟩ => ?_
      cases e2
      exact ⟨j, e, q2⟩
    | true =>
      rw [if_pos rfl] at h ⊢
      obtain ⟨k2, e2, q2⟩ := h
      cases e2
      exact q2
  refine ⟨fun m => (L2.pe_or (ha.pe .val) hpe).imp fun σ H Q q => ?_, w1.pt, fun _ _ _ _ => w1⟩
  refine rd_mono (or_imp q) fun v H1 ⟨k, e, h⟩ => ⟨k, e, ?_⟩
  cases k with
  | false =>
    rw [if_neg (by decide)] at h ⊢
    refine rd_mono h fun y H2 ⟨j, e, q2⟩ => ?_
    subst e
    exact q2
  | true => exact h
theorem chain_imp {m : Md} {op op' : Cop} {σ : L2.St} {H : Hp} {Q : VK} (h : rd c.K c.w cal m (.chain op op' a b d) σ H Q) : tChain (rOp c.K c.w (cmpop op) false) (rOp c.K c.w (fun x y => do .ok (.bool (← asB (← cmpop op' x y)))) false) (rd c.K c.w cal .val a) (rd c.K c.w cal .val b) (rd c.K c.w cal .val d) σ H Q := by
  obtain ⟨IO, F0, F, B, O, env, dd, env', O', S, e, o, q⟩ := h
  obtain ⟨⟨da, e1⟩, ea, e⟩ := R.bind_eq_ok (show (evE cal a env >>= fun p => evE cal b p.2 >>= fun p2 => cmpop op p.1 p2.1 >>= fun z => (asB z >>= fun k => match k with
    | true => (evE cal d p2.2 >>= fun p3 => cmpop op' p2.1 p3.1 >>= fun z => asB z >>= fun j => R.ok (.bool j, p3.2))
    | false => R.ok (.bool false, p2.2))) = .ok (dd, env') from e)
  obtain ⟨⟨db, e2⟩, eb, e⟩ := R.bind_eq_ok e
  obtain ⟨z, ez, e⟩ := R.bind_eq_ok e
  obtain ⟨k, ek, e5⟩ := R.bind_eq_ok e
  obtain rfl := asB_ok ek
  rw [owM_nv rfl] at o
  obtain ⟨O1, oa, o⟩ := andThen_some (show andThen (owE O a) (fun O1 => andThen (owE O1 b) fun O2 => both (some O2) (owE O2 d)) = some O' from o)
  obtain ⟨O2, ob, o⟩ := andThen_some o
  obtain ⟨_, O3, h1, od, rfl⟩ := both_some o
  cases h1
  refine ⟨IO, F0, F, B, O, env, _, e1, O1, S, ea, oa, fun va F1 H1 p1 r1 => ⟨IO, F0, F1, B, O1, e1, _, e2, O2, p1.sr, eb, ob, fun vb F2 H2 p2 r2 => ⟨F2, da, db, _, p2.sr.fh, (Rep.mono p2.ff r1).opd p2.sr.fh, Rep.opd p2.sr.fh r2, ez, ?_⟩⟩⟩
  intro v F3 H3 X3 _ hv
  cases (show Rep c.K c.w F3 v (.bool k) from hv rfl)
  refine ⟨k, rfl, ?_⟩
  have p12 : Pst c.K c.w IO F0 F B O2 σ H e2 (prE a && prE b) F2 H2 := p1.trans p2 fun z => by rw [Bool.and_eq_true] at z; exact z
  have p3 : Pst c.K c.w IO F0 F B O2 σ H e2 (prE a && prE b) F3 H3 := ⟨p12.sr.ext X3, p12.ff.trans X3.ff, fun z => (p12.hh z).trans X3.hh⟩
  have rb : Rep c.K c.w F3 vb db := Rep.mono X3.ff r2
  cases k with
  | false =>
    cases e5
    rw [if_neg (by decide)]
    obtain ⟨F4, p4, s4⟩ := meet_end (O' := meet O2 O3) p3 (fun i hi => (mem_meet.mp hi).1) (pr' := prE (.chain op op' a b d)) (fun z => by rw [prE, Bool.and_eq_true] at z; exact z.1)
    exact q _ F4 H3 p4 (imm_rv rfl p4.sr.fh (.bl _))
  | true =>
    rw [if_pos rfl]
    obtain ⟨⟨dc, e3⟩, ec, e6⟩ := R.bind_eq_ok e5
    obtain ⟨z', ez', e7⟩ := R.bind_eq_ok e6
    obtain ⟨j, ej, e8⟩ := R.bind_eq_ok e7
    cases e8
    refine ⟨IO, F0, F3, B, O2, e2, _, e3, O3, p3.sr, ec, od, fun vc F4 H4 p4 r4 => ⟨F4, db, dc, .bool j, p4.sr.fh, (Rep.mono p4.ff rb).opd p4.sr.fh, Rep.opd p4.sr.fh r4, by
      show (cmpop op' db dc >>= fun z => asB z >>= fun k => R.ok (PyData.bool k)) = _
      have ez2 : cmpop op' db dc = R.ok z' := ez'
      rw [ez2]
      show (asB z' >>= fun k => R.ok (PyData.bool k)) = _
      rw [ej]
      rfl, ?_⟩⟩
    intro v F5 H5 X5 _ hv
    have p5 := p3.trans p4 (pr := prE (.chain op op' a b d)) (fun z => by rw [prE, Bool.and_eq_true] at z; exact z)
    have p6 : Pst c.K c.w IO F0 F B O3 σ H e3 (prE (.chain op op' a b d)) F5 H5 := ⟨p5.sr.ext X5, p5.ff.trans X5.ff, fun z => (p5.hh z).trans X5.hh⟩
    obtain ⟨F7, p7, s7⟩ := meet_end (O' := meet O2 O3) p6 (fun i hi => (mem_meet.mp hi).2) (fun z => z)
    exact q _ F7 H5 p7 (imm_rv rfl p7.sr.fh (Rep.mono s7 (hv rfl)))
theorem rOp_sub {K : PySem.W.Frag} {w : World} {f g : AV → AV → R AV} {nb : Bool} (h : ∀ x y d, f x y = .ok d → g x y = .ok d) {x y : V} {H : Hp} {Q : VK} (q : rOp K w f nb x y H Q) : rOp K w g nb x y H Q := by
  obtain ⟨F, dx, dy, d, hF, ox, oy, e, q⟩ := q
  exact ⟨F, dx, dy, d, hF, ox, oy, h _ _ _ e, q⟩
theorem op_imp {X : Cx} {f : Value → Value → Sem Value} {r r' : R2} (h : OpR X f r) (hi : ∀ x y H Q, r' x y H Q → r x y H Q) : OpR X f r' := fun pins s σ H x y v u Q I rx ry q => h pins s σ H x y v u Q I rx ry (hi _ _ _ _ q)
theorem ok_chain (RR : Rules c) (op op' : Cop) (hm : lastMarks [copP op, copP op'] [r, t] = false) (ha : OkE cal c l a) (hb : OkE cal c r b) (hd : OkE cal c t d) : OkE cal c (.Compare l [copP op, copP op'] [r, t] pos) (.chain op op' a b d) := by
  have hop2 : OpR c (compareOp (copP op')) (rOp c.K c.w (fun x y => do .ok (.bool (← asB (← cmpop op' x y)))) false) := op_imp (RR.cmp op' false) fun x y H Q q => rOp_sub (fun x y d e => by
    obtain ⟨z, ez, e⟩ := R.bind_eq_ok e
    obtain ⟨k, ek, e⟩ := R.bind_eq_ok e
    cases e
    rw [ez, asB_ok ek]) q
  exact ⟨fun m => (pe_chain (RR.cmp op false) hop2 (ha.pe .val) (hb.pe .val) (hd.pe .val) hm).imp fun σ H Q q => chain_imp q, (pt_chain (RR.cmp op false) hop2 (ha.pe .val) (hb.pe .val) (hd.pe .val) hm).imp fun σ H Q q => chain_imp q, fun _ _ _ z => by cases z⟩
end
end Ev
end
section
set_option linter.all false
set_option autoImplicit false
set_option maxRecDepth 100000
/-! EvG: argument lists, displays, slices, choices. -/
namespace Ev
open PySem PySem.Spec PyProof.Rows L2
section
variable (K : PySem.W.Frag) (w : World)
/-- what is known of arguments: B0: what others held ahead of them, as: the places of those that may be changed -/
inductive AO (F B0 B H : Hp) (σ : L2.St) (env : Env) (O : Sl) : Xs → List V → List AV → List Addr → Prop
  | nil : AO F B0 B H σ env O .nil [] [] []
  | cons {e : X} {r : Xs} {v : V} {vs : List V} {d : AV} {ds : List AV} {as : List Addr} : Rep K w F v d → AO F B0 B H σ env O r vs ds as → AO F B0 B H σ env O (.cons e r) (v :: vs) (d :: ds) as
  | star {e : X} {r : Xs} {us vs : List V} {xs ds : List AV} {as : List Addr} : RepL K w F us xs → AO F B0 B H σ env O r vs ds as → AO F B0 B H σ env O (.star e r) (us ++ vs) (xs ++ ds) as
  | io {i : Nat} {r : Xs} {a : Addr} {vs : List V} {d : AV} {ds : List AV} {as : List Addr} : i ∈ O → σ[i]? = some (some (.ref a)) → env[i]? = some (some d) → mutA d = true → i ∉ iosOf r → a ∉ as → AO F B0 B H σ env O r vs ds as → AO F B0 B H σ env O (.io i r) (.ref a :: vs) (d :: ds) (a :: as)
  | tmp {e : X} {r : Xs} {a : Addr} {vs : List V} {d : AV} {ds : List AV} {as : List Addr} : OwnV K w F B0 H (.ref a) d → mutA d = true → B a = H a → a ∉ as → AO F B0 B H σ env O r vs ds as → AO F B0 B H σ env O (.tmp e r) (.ref a :: vs) (d :: ds) (a :: as)
end
section
variable {K : PySem.W.Frag} {w : World} {IO : List (Nat × Addr)} {F F0 B0 B1 B H : Hp} {σ : L2.St} {env : Env} {O : Sl} {es : Xs} {vs : List V} {ds : List AV} {as : List Addr}
theorem OwnV.none_of {v : V} {d : AV} {a : Addr} (o : OwnV K w F B H v d) (e : v = .ref a) (h : mutA d = true) : F a = none ∧ B a = none ∧ ∃ u, H a = some u := by
  obtain ⟨b, u, e1, f1, f2, f3⟩ := o.addr h
  rw [e1] at e
  cases e
  exact ⟨f1, f2, u, f3⟩
/-- the places: slots' or new ones -/
theorem AO.places (S : SR K w IO F0 F B O σ H env) (h : AO K w F B0 B H σ env O es vs ds as) : ∀ a ∈ as, (∃ j ∈ iosOf es, j ∈ O ∧ σ[j]? = some (some (.ref a)) ∧ ∃ d, env[j]? = some (some d) ∧ mutA d = true) ∨ (B0 a = none ∧ ∃ u, B a = some u) := by
  induction h with
  | nil => intro a ha; cases ha
  | cons _ _ ih => exact ih
  | star _ _ ih => exact ih
  | io hi h1 h2 h3 _ _ _ ih =>
    intro b hb
    rcases List.mem_cons.mp hb with rfl | hb
    · exact .inl ⟨_, List.mem_cons_self, hi, h1, _, h2, h3⟩
    · rcases ih b hb with ⟨j, q1, q2⟩ | q
      · exact .inl ⟨j, List.mem_cons_of_mem _ q1, q2⟩
      · exact .inr q
  | tmp o hm hb' _ _ ih =>
    intro b hb
    rcases List.mem_cons.mp hb with rfl | hb
    · obtain ⟨f1, f2, u, f3⟩ := o.none_of rfl hm
      exact .inr ⟨f2, u, by rw [hb', f3]⟩
    · exact ih b hb
theorem AO.less (s : Same B0 B1) (h : AO K w F B1 B H σ env O es vs ds as) : AO K w F B0 B H σ env O es vs ds as := by
  induction h with
  | nil => exact .nil
  | cons r _ ih => exact .cons r ih
  | star r _ ih => exact .star r ih
  | io h1 h2 h3 h4 h5 h6 _ ih => exact .io h1 h2 h3 h4 h5 h6 ih
  | tmp o hm hb hn _ ih =>
    refine .tmp (o.at (Same.refl _) fun a u e hm' f1 f2 f3 => ⟨f1, s.free f2, f3⟩) hm hb hn ih
theorem AO.nodup (h : AO K w F B0 B H σ env O es vs ds as) : as.Nodup := by
  induction h with
  | nil => exact .nil
  | cons _ _ ih => exact ih
  | star _ _ ih => exact ih
  | io _ _ _ _ _ hn _ ih => exact List.nodup_cons.mpr ⟨hn, ih⟩
  | tmp _ _ _ hn _ ih => exact List.nodup_cons.mpr ⟨hn, ih⟩
/-- no io, no new argument -/
def plainXs : Xs → Bool
  | .nil => true
  | .cons _ r => plainXs r
  | .star _ r => plainXs r
  | _ => false
theorem AO.repL (h : AO K w F B0 B H σ env O es vs ds as) : plainXs es = true → RepL K w F vs ds := by
  induction h with
  | nil => exact fun _ => .nil
  | cons r _ ih => exact fun q => .cons r (ih q)
  | star r _ ih => exact fun q => r.append (ih q)
  | io => intro q; cases q
  | tmp => intro q; cases q
end
def rdXs (K : PySem.W.Frag) (w : World) (cal : Cal) (es : Xs) : TA := fun σ H Q => ∃ IO F0 F B O env ds env' O', SR K w IO F0 F B O σ H env ∧ evXs cal es env = .ok (ds, env') ∧ owXs O es = some O' ∧
  ∀ vs as F' B' H', SR K w IO F0 F' B' O' σ H' env' → Same F F' → Same B B' → (prXs es = true → Same H H') → AO K w F' B B' H' σ env' O' es vs ds as → Q vs H'
theorem upd_self {H : Hp} {a : Addr} {o : HO} (h : H a = some o) : upd H a o = H := by
  funext b
  by_cases hb : b = a
  · subst hb; rw [upd_same, h]
  · rw [upd_ne hb]
theorem look_ok {env : Env} {i : Nat} {d : AV} (h : look env i = .ok d) : env[i]? = some (some d) := by
  unfold look at h
  split at h
  · rename_i v hv; cases h; exact hv
  · cases h
section
variable {cal : Cal} {c : Cx}
theorem xs_nil : PA c [] (rdXs c.K c.w cal .nil) := pa_nil.imp fun σ H Q h => by
  obtain ⟨IO, F0, F, B, O, env, ds, env', O', S, e, o, q⟩ := h
  cases e
  cases o
  exact q [] [] F B H S (Same.refl _) (Same.refl _) (fun _ => Same.refl _) .nil
def stE : Expr → Bool
  | .Starred .. => true
  | _ => false
theorem star_plain {e : Expr} {es : List Expr} {env : PySem.Env} (h : stE e = false) : starEach (e :: es) env = (false, eval e env) :: starEach es env := by
  cases e <;> first | rfl | cases h
variable {l : Expr} {ls : List Expr} {a : X} {r : Xs}
theorem xs_cons (hs : stE l = false) (ha : OkE cal c l a) (hr : PA c ls (rdXs c.K c.w cal r)) : PA c (l :: ls) (rdXs c.K c.w cal (.cons a r)) := (pa_cons (ha.pe .val) hr (star_plain hs)).imp fun σ H Q h => by
  obtain ⟨IO, F0, F, B, O, env, ds, env', O', S, e, o, q⟩ := h
  obtain ⟨⟨da, e1⟩, ea, e⟩ := R.bind_eq_ok (show (evE cal a env >>= fun p => evXs cal r p.2 >>= fun p2 => R.ok (p.1 :: p2.1, p2.2)) = .ok (ds, env') from e)
  obtain ⟨⟨dr, e2⟩, er, e⟩ := R.bind_eq_ok e
  cases e
  obtain ⟨O1, oa, orr⟩ := andThen_some (show andThen (owE O a) (fun O1 => owXs O1 r) = some O' from o)
  refine ⟨IO, F0, F, B, O, env, da, e1, O1, S, ea, oa, fun va F1 H1 p1 r1 => ⟨IO, F0, F1, B, O1, e1, dr, _, O', p1.sr, er, orr, fun vs as F2 B2 H2 S2 f2 b2 h2 A => ?_⟩⟩
  refine q (va :: vs) as F2 B2 H2 S2 (p1.ff.trans f2) b2 (fun z => ?_) (.cons (Rep.mono f2 r1) A)
  rw [prXs, Bool.and_eq_true] at z
  exact (p1.hh z.1).trans (h2 z.2)
theorem xs_star {p : Pos} (ha : OkE cal c l a) (hr : PA c ls (rdXs c.K c.w cal r)) : PA c (.Starred l p :: ls) (rdXs c.K c.w cal (.star a r)) := (StX.pa_star (ha.pe .opd) hr).imp fun σ H Q h => by
  obtain ⟨IO, F0, F, B, O, env, ds, env', O', S, e, o, q⟩ := h
  obtain ⟨⟨da, e1⟩, ea, e⟩ := R.bind_eq_ok (show (evE cal a env >>= fun p => evXs cal r p.2 >>= fun p2 => match items? p.1 with
    | some xs => if xs.length ≤ line then R.ok (xs ++ p2.1, p2.2) else .bad
    | none => .bad) = .ok (ds, env') from e)
  obtain ⟨⟨dr, e2⟩, er, e⟩ := R.bind_eq_ok e
  obtain ⟨O1, oa, orr⟩ := andThen_some (show andThen (bor a O (owE O a)) (fun O1 => owXs O1 r) = some O' from o)
  refine ⟨IO, F0, F, B, O, env, da, e1, O1, S, ea, oa, fun va F1 H1 p1 r1 => ?_⟩
  have r1 : Opd c.K c.w F1 H1 va da := r1.1
  have fin : ∀ (xs : List AV) (us : List V) (x : Addr), items? da = some xs → va = .ref x → (SqT c.K H1 x us ∨ SqL c.K H1 x us) → RepL c.K c.w F1 us xs → ∃ p xs, va = V.ref p ∧ (SqT c.K H1 p xs ∨ SqL c.K H1 p xs) ∧ rdXs c.K c.w cal r σ H1 fun ys H2 => Q (xs ++ ys) H2 := fun xs us x hx hv hq hr => by
    have e : (match items? da with
      | some xs => if xs.length ≤ line then R.ok (xs ++ dr, e2) else .bad
      | none => .bad) = .ok (ds, env') := e
    rw [hx] at e
    have e : (if xs.length ≤ line then R.ok (xs ++ dr, e2) else .bad) = .ok (ds, env') := e
    split at e
    · cases e
      refine ⟨x, us, hv, hq, ⟨IO, F0, F1, B, O1, e1, dr, _, O', p1.sr, er, orr, fun vs as F2 B2 H2 S2 f2 b2 h2 A => ?_⟩⟩
      refine q (us ++ vs) as F2 B2 H2 S2 (p1.ff.trans f2) b2 (fun z => ?_) (.star (hr.mono f2) A)
      rw [prXs, Bool.and_eq_true] at z
      exact (p1.hh z.1).trans (h2 z.2)
    · cases e
  cases da with
  | list xs =>
    obtain ⟨x, us, hv, hq, hr⟩ := r1.listE
    exact fin xs us x rfl hv (.inr hq.sql) hr
  | tuple xs =>
    obtain ⟨x, us, hv, hq, hr⟩ := r1.tupE
    exact fin xs us x rfl hv (.inl (Same.tup p1.sr.fh hq)) hr
  | _ => cases e
theorem xs_io {i : Nat} {y : Str} {pos : Pos} (hN : c.N[i]? = some y) (hv : Vis c.env.scope y) (hd : (y == ("__debug__" : Str)) = false) (hcd : (y == ("__classdict__" : Str)) = false) (hr : PA c ls (rdXs c.K c.w cal r)) :
    PA c (.Name y pos :: ls) (rdXs c.K c.w cal (.io i r)) := (pa_cons (pe_var hN hv hd hcd) hr (star_plain rfl)).imp fun σ H Q h => by
  obtain ⟨IO, F0, F, B, O, env, ds, env', O', S, e, o, q⟩ := h
  obtain ⟨d0, el0, e⟩ := R.bind_eq_ok (show (look env i >>= fun _ => evXs cal r env >>= fun p => look p.2 i >>= fun v => if mutA v = true then R.ok (v :: p.1, p.2) else .bad) = .ok (ds, env') from e)
  obtain ⟨⟨dr, e1⟩, er, e⟩ := R.bind_eq_ok e
  obtain ⟨d, el, e⟩ := R.bind_eq_ok e
  obtain ⟨O1, orr, o⟩ := andThen_some (show andThen (owXs O r) (fun O1 => if O1.contains i && !(iosOf r).contains i then some O1 else none) = some O' from o)
  split at o
  · rename_i ho
    cases o
    have e : (if mutA d = true then R.ok (d :: dr, e1) else .bad) = .ok (ds, env') := e
    split at e
    · rename_i hm
      cases e
      have hd' := look_ok (show look env' i = .ok d from el)
      simp only [Bool.and_eq_true, List.contains_eq_mem, decide_eq_true_eq, Bool.not_eq_true', decide_eq_false_iff_not] at ho
      obtain ⟨v, hs, _⟩ := S.slot i d0 (look_ok el0)
      refine ⟨v, hs, IO, F0, F, B, O, env, dr, _, O', S, er, orr, fun vs as F2 B2 H2 S2 f2 b2 h2 A => ?_⟩
      obtain ⟨u, g1, g2, _⟩ := S2.slot i d hd'
      rw [hs] at g1
      cases g1
      obtain ⟨x, o1, e1, k1, k2, k3⟩ := (g2 ho.1).addr hm
      subst e1
      refine q (.ref x :: vs) (x :: as) F2 B2 H2 S2 f2 b2 (fun z => by cases z) (.io ho.1 hs hd' hm ho.2 (fun z => ?_) A)
      rcases A.places S2 x z with ⟨j, j1, j2, j3, dj, j4, j5⟩ | ⟨_, u, j1⟩
      · have := S2.apart i j x d dj ho.1 j2 hd' j4 hm j5 hs j3
        subst this
        exact ho.2 j1
      · rw [k2] at j1; cases j1
    · cases e
  · cases o
theorem xs_tmp (hs : stE l = false) (ha : OkE cal c l a) (hr : PA c ls (rdXs c.K c.w cal r)) : PA c (l :: ls) (rdXs c.K c.w cal (.tmp a r)) := (pa_cons (ha.pe .new) hr (star_plain hs)).imp fun σ H Q h => by
  obtain ⟨IO, F0, F, B, O, env, ds, env', O', S, e, o, q⟩ := h
  obtain ⟨⟨da, e1⟩, ea, e⟩ := R.bind_eq_ok (show (evE cal a env >>= fun p => evXs cal r p.2 >>= fun p2 => if mutA p.1 = true then R.ok (p.1 :: p2.1, p2.2) else .bad) = .ok (ds, env') from e)
  obtain ⟨⟨dr, e2⟩, er, e⟩ := R.bind_eq_ok e
  obtain ⟨O1, oa, o⟩ := andThen_some (show andThen (owE O a) (fun O1 => if freshE a then owXs O1 r else none) = some O' from o)
  split at o
  · rename_i hf
    have e : (if mutA da = true then R.ok (da :: dr, e2) else .bad) = .ok (ds, env') := e
    split at e
    · rename_i hm
      cases e
      refine ⟨IO, F0, F, B, O, env, da, e1, O1, S, ea, oa, fun va F1 H1 p1 r1 => ?_⟩
      unfold RV at r1
      simp only [hf, if_true] at r1
      obtain ⟨r1, n1⟩ := r1
      obtain ⟨x, u, e1, k1, k2, k3⟩ := r1.addr hm
      subst e1
      have S1 := p1.sr.put (o := u) k1 (n1 x rfl hm)
      rw [upd_self k3] at S1
      refine ⟨IO, F0, F1, upd B x u, O1, _, dr, _, O', S1, er, o, fun vs as F2 B2 H2 S2 f2 b2 h2 A => ?_⟩
      have bx : B2 x = some u := b2 _ _ upd_same
      have hx : H2 x = some u := S2.bh _ _ bx
      have fx : F2 x = none := by
        cases z : F2 x with
        | none => rfl
        | some o2 =>
          rcases S2.fb x o2 z with y | y
          · have := f2 x
            have y1 := p1.sr.f0 _ _ y
            rw [k1] at y1
            cases y1
          · rw [bx] at y; cases y
      have sB : Same B (upd B x u) := same_upd' k2
      refine q (.ref x :: vs) (x :: as) F2 B2 H2 S2 (p1.ff.trans f2) (sB.trans b2) (fun z => by cases z) (.tmp (r1.at f2 fun b o e _ g1 g2 g3 => ?_) hm (by rw [bx, hx]) (fun z => ?_) (A.less sB))
      · cases e
        rw [k3] at g3
        cases g3
        exact ⟨fx, g2, hx⟩
      · rcases A.places S2 x z with ⟨j, j1, j2, j3, dj, j4, j5⟩ | ⟨j1, _⟩
        · exact S2.noSlot (.inr (.inl (by rw [bx]; simp))) j j2 dj j4 j5 j3
        · rw [upd_same] at j1; cases j1
    · cases e
  · cases o
/-! ### displays -/
variable {es : Xs} {pos : Pos} {k : Nat}
theorem disp_imp {x0 : X} {m : Md} {f : List AV → R AV} {σ : L2.St} {H : Hp} {Q : VK} (hp : plainXs es = true) (hx : isVar x0 = none) (hev : ∀ env, evE cal x0 env = (do let (vs, e1) ← evXs cal es env; .ok (← f vs, e1)))
    (how : ∀ O, owE O x0 = owXs O es) (hpr : prE x0 = prXs es) (h : rd c.K c.w cal m x0 σ H Q) :
    rdXs c.K c.w cal es σ H fun vs H1 => ∃ F ds d, Same F H1 ∧ RepL c.K c.w F vs ds ∧ f ds = .ok d ∧ Res c.K c.w (isNew m x0) F H1 d Q := by
  obtain ⟨IO, F0, F, B, O, env, d, env', O', S, e, o, q⟩ := h
  rw [hev] at e
  obtain ⟨⟨ds, e1⟩, ea, e⟩ := R.bind_eq_ok e
  obtain ⟨d', ef, e⟩ := R.bind_eq_ok e
  cases e
  rw [owM_nv hx, how] at o
  refine ⟨IO, F0, F, B, O, env, ds, _, O', S, ea, o, fun vs as F1 B1 H1 S1 f1 b1 h1 A => ⟨F1, ds, d, S1.fh, A.repL hp, ef, ?_⟩⟩
  exact res_of (.inr hx) (S1.less b1) f1 (fun h => h1 (by rw [← hpr]; exact h)) q
theorem ok_tup (hp : plainXs es = true) (ha : PA c ls (rdXs c.K c.w cal es)) : OkE cal c (.Tuple ls k pos) (.tup es) :=
  OkE.of rfl fun m => (pe_tup ha).imp fun σ H Q q => by
    obtain ⟨IO, F0, F, B, O, env, ds, env', O', S, e, o, q⟩ := disp_imp (x0 := .tup es) (f := tupR) hp rfl (fun env => rfl) (fun O => rfl) rfl q
    refine ⟨IO, F0, F, B, O, env, ds, env', O', S, e, o, fun vs as F1 B1 H1 S1 f1 b1 h1 A => ?_⟩
    obtain ⟨F2, ds, d, hF, r, ef, res⟩ := q vs as F1 B1 H1 S1 f1 b1 h1 A
    obtain ⟨rfl, hz⟩ := tupR_ok ef
    exact ⟨by rw [r.length]; exact hz, fun p hp => res.newT hF r hp⟩
theorem ok_lst (hp : plainXs es = true) (ha : PA c ls (rdXs c.K c.w cal es)) : OkE cal c (.List ls pos) (.lst es) :=
  OkE.of rfl fun m => (pe_lst ha).imp fun σ H Q q => by
    obtain ⟨IO, F0, F, B, O, env, ds, env', O', S, e, o, q⟩ := disp_imp (x0 := .lst es) (f := lstR) hp rfl (fun env => rfl) (fun O => rfl) rfl q
    refine ⟨IO, F0, F, B, O, env, ds, env', O', S, e, o, fun vs as F1 B1 H1 S1 f1 b1 h1 A => ?_⟩
    obtain ⟨F2, ds, d, hF, r, ef, res⟩ := q vs as F1 B1 H1 S1 f1 b1 h1 A
    obtain ⟨rfl, hz⟩ := lstR_ok ef
    exact ⟨by rw [r.length]; exact hz, fun p hp => res.newL hF r hp⟩
theorem ok_dict0 : OkE cal c (.Dict [] [] pos) (.dict .nil) :=
  OkE.of rfl fun m => pe_dnew.imp fun σ H Q q => by
    obtain ⟨IO, F0, F, B, O, env, d, env', O', S, e, o, q⟩ := q
    cases e
    rw [owM_nv rfl] at o
    cases o
    intro p ob hp
    exact (res_of (x := .dict .nil) (.inr rfl) S (Same.refl _) (fun _ => Same.refl _) q).newD (tk := false) S.fh .nil hp
/-! ### a if t else b -/
variable {t l2 : Expr} {b d : X}
theorem ite_imp {m : Md} {σ : L2.St} {H : Hp} {Q : VK} (h : rd c.K c.w cal m (.ite d a b) σ H Q) : tIf (tB (rd c.K c.w cal .val d)) (rd c.K c.w cal .val a) (rd c.K c.w cal .val b) σ H Q := by
  obtain ⟨IO, F0, F, B, O, env, dd, env', O', S, e, o, q⟩ := h
  obtain ⟨⟨dc, e1⟩, ec, e⟩ := R.bind_eq_ok (show (evE cal d env >>= fun p => asB p.1 >>= fun k => match k with
    | true => evE cal a p.2
    | false => evE cal b p.2) = .ok (dd, env') from e)
  obtain ⟨k, ek, e5⟩ := R.bind_eq_ok e
  obtain rfl := asB_ok ek
  rw [owM_nv rfl] at o
  obtain ⟨O1, oc, o⟩ := andThen_some (show andThen (owE O d) (fun O1 => both (owE O1 a) (owE O1 b)) = some O' from o)
  obtain ⟨A, A2, oa, ob, rfl⟩ := both_some o
  refine ⟨IO, F0, F, B, O, env, _, e1, O1, S, ec, oc, fun v F1 H1 p1 r1 => ?_⟩
  cases (show Rep c.K c.w F1 v (.bool k) from r1)
  refine ⟨k, rfl, ?_⟩
  have pr : prE (.ite d a b) = true → prE d = true ∧ prE a = true ∧ prE b = true := fun z => by
    simp only [prE, Bool.and_eq_true] at z
    exact ⟨z.1.1, z.1.2, z.2⟩
  cases k with
  | true =>
    show rd c.K c.w cal .val a σ H1 Q
    refine ⟨IO, F0, F1, B, O1, e1, dd, _, A, p1.sr, e5, oa, fun u F2 H2 p2 r2 => ?_⟩
    obtain ⟨F3, p3, s3⟩ := meet_end (O' := meet A A2) (p1.trans p2 (pr := prE (.ite d a b)) fun z => ⟨(pr z).1, (pr z).2.1⟩) (fun i hi => (mem_meet.mp hi).1) (fun z => z)
    exact q _ F3 H2 p3 (imm_rv rfl p3.sr.fh (Rep.mono s3 r2))
  | false =>
    show rd c.K c.w cal .val b σ H1 Q
    refine ⟨IO, F0, F1, B, O1, e1, dd, _, A2, p1.sr, e5, ob, fun u F2 H2 p2 r2 => ?_⟩
    obtain ⟨F3, p3, s3⟩ := meet_end (O' := meet A A2) (p1.trans p2 (pr := prE (.ite d a b)) fun z => ⟨(pr z).1, (pr z).2.2⟩) (fun i hi => (mem_meet.mp hi).2) (fun z => z)
    exact q _ F3 H2 p3 (imm_rv rfl p3.sr.fh (Rep.mono s3 r2))
theorem pt_ifE {X : Cx} {c a b : Expr} {tc ta tb : TT} {pos : Pos} (hc : PT X c tc) (ha : PT X a ta) (hb : PT X b tb) : PT X (.IfExp c a b pos) (fun σ H Q => tc σ H fun d H1 => if d = true then ta σ H1 Q else tb σ H1 Q) := by
  refine ⟨fun pins s σ H Q I h => ?_⟩
  show wpAny _ _ (do if ← isTrue c X.env (eval c X.env) then isTrue a X.env (eval a X.env) else isTrue b X.env (eval b X.env)) _ _ _
  refine wpAny_bind (thn (hc.run pins s σ H _ I h) fun d s1 ⟨H1, I1, q1⟩ => ?_)
  cases d with
  | true => exact ha.run pins s1 σ H1 Q I1 q1
  | false => exact hb.run pins s1 σ H1 Q I1 q1
theorem ok_ite (hc : OkE cal c t d) (ha : OkE cal c l a) (hb : OkE cal c l2 b) : OkE cal c (.IfExp t l l2 pos) (.ite d a b) := by
  refine ⟨fun m => (pe_ifExp hc.pt (ha.pe .val) (hb.pe .val)).imp fun σ H Q q => ite_imp q, (pt_ifE hc.pt ha.pt hb.pt).imp fun σ H Q q => ite_imp q, fun _ _ _ z => by cases z⟩
/-! ### slices -/
def rdOx (K : PySem.W.Frag) (w : World) (cal : Cal) (x : Ox) : TO := fun σ H Q => ∃ IO F0 F B O env o env' O', SR K w IO F0 F B O σ H env ∧ evOx cal x env = .ok (Option.map PyData.int o, env') ∧ owOx O x = some O' ∧
  ∀ F' H', Pst K w IO F0 F B O' σ H env' (prOx x) F' H' → Q o H'
theorem PO.imp' {X : Cx} {e : Option Expr} {t t' : TO} (h : PO X e t) (hi : ∀ σ H Q, t' σ H Q → t σ H Q) : PO X e t' := ⟨fun pins s σ H Q I q => h.run pins s σ H Q I (hi σ H Q q)⟩
theorem ox_none : PO c none (rdOx c.K c.w cal .none) := PO.imp' po_none fun σ H Q h => by
  obtain ⟨IO, F0, F, B, O, env, d, env', O', S, e, o, q⟩ := h
  cases o
  cases d with
  | none => cases e; exact q F H ⟨S, Same.refl _, fun _ => Same.refl _⟩
  | some i => cases e
theorem ox_some (ha : OkE cal c l a) : PO c (some l) (rdOx c.K c.w cal (.some a)) := PO.imp' (po_some (ha.pe .val)) fun σ H Q h => by
  obtain ⟨IO, F0, F, B, O, env, d, env', O', S, e, o, q⟩ := h
  obtain ⟨⟨da, e1⟩, ea, e⟩ := R.bind_eq_ok (show (evE cal a env >>= fun p => R.ok (some p.1, p.2)) = .ok (Option.map PyData.int d, env') from e)
  cases d with
  | none => cases e
  | some i =>
    cases e
    refine ⟨IO, F0, F, B, O, env, _, _, O', S, ea, o, fun v F1 H1 p1 r1 => ?_⟩
    cases (show Rep c.K c.w F1 v (.int i) from r1)
    exact ⟨i, rfl, q F1 H1 p1⟩
theorem ok_slc (RR : Rules c) {lo hi : Option Expr} {xl xh : Ox} {p2 : Pos} (ha : OkE cal c l a) (hl : PO c lo (rdOx c.K c.w cal xl)) (hh : PO c hi (rdOx c.K c.w cal xh)) : OkE cal c (.Subscript l (.Slice lo hi none p2) pos) (.slc a xl xh) :=
  OkE.of rfl fun m => (pe_slice (RR.slc (isNew m (.slc a xl xh))) (ha.pe (opM (prOx xl && prOx xh))) hl hh).imp fun σ H Q h => by
    obtain ⟨IO, F0, F, B, O, env, d, env', O', S, e, o, q⟩ := h
    obtain ⟨⟨da, e1⟩, ea, e⟩ := R.bind_eq_ok (show (evE cal a env >>= fun p => evOx cal xl p.2 >>= fun pl => evOx cal xh pl.2 >>= fun ph => match pl.1, ph.1 with
      | none, none => (slcop p.1 none none >>= fun v => R.ok (v, ph.2))
      | some (.int i), none => (slcop p.1 (some i) none >>= fun v => R.ok (v, ph.2))
      | none, some (.int j) => (slcop p.1 none (some j) >>= fun v => R.ok (v, ph.2))
      | some (.int i), some (.int j) => (slcop p.1 (some i) (some j) >>= fun v => R.ok (v, ph.2))
      | _, _ => .bad) = .ok (d, env') from e)
    obtain ⟨⟨dl, e2⟩, el, e⟩ := R.bind_eq_ok e
    obtain ⟨⟨dh, e3⟩, eh, e⟩ := R.bind_eq_ok e
    have fin : ∃ ol oh : Option Int, dl = Option.map PyData.int ol ∧ dh = Option.map PyData.int oh ∧ (slcop da ol oh >>= fun v => R.ok (v, e3)) = .ok (d, env') := by
      have e : (match dl, dh with
        | none, none => (slcop da none none >>= fun v => R.ok (v, e3))
        | some (.int i), none => (slcop da (some i) none >>= fun v => R.ok (v, e3))
        | none, some (.int j) => (slcop da none (some j) >>= fun v => R.ok (v, e3))
        | some (.int i), some (.int j) => (slcop da (some i) (some j) >>= fun v => R.ok (v, e3))
        | _, _ => .bad) = .ok (d, env') := e
      split at e
      · exact ⟨none, none, rfl, rfl, e⟩
      · exact ⟨some _, none, rfl, rfl, e⟩
      · exact ⟨none, some _, rfl, rfl, e⟩
      · exact ⟨some _, some _, rfl, rfl, e⟩
      · cases e
    obtain ⟨ol, oh, rfl, rfl, e9⟩ := fin
    obtain ⟨dv, es, e10⟩ := R.bind_eq_ok e9
    cases e10
    rw [owM_nv rfl] at o
    obtain ⟨O1, oa, o⟩ := andThen_some (show andThen (if prOx xl && prOx xh then bor a O (owE O a) else owE O a) (fun O1 => andThen (owOx O1 xl) fun O2 => owOx O2 xh) = some O' from o)
    obtain ⟨O2, o2, o3⟩ := andThen_some o
    refine ⟨IO, F0, F, B, O, env, da, e1, O1, S, ea, by unfold opM; revert oa; cases (prOx xl && prOx xh) <;> exact fun z => z, fun va F1 H1 p1 r1 => ?_⟩
    refine ⟨IO, F0, F1, B, O1, e1, ol, e2, O2, p1.sr, el, o2, fun F2 H2 p2 => ⟨IO, F0, F2, B, O2, e2, oh, _, O', p2.sr, eh, o3, fun F3 H3 p3 => ?_⟩⟩
    have p23 : Pst c.K c.w IO F0 F1 B O' σ H1 _ (prOx xl && prOx xh) F3 H3 := p2.trans p3 fun z => by rw [Bool.and_eq_true] at z; exact z
    refine ⟨F3, da, d, p3.sr.fh, ?_, es, ?_⟩
    · cases hp : (prOx xl && prOx xh) with
      | true => rw [hp] at r1 p23; exact Opd.ext p23.ff (p23.hh rfl) r1.1
      | false => rw [hp] at r1; exact (Rep.mono p23.ff r1).opd p23.sr.fh
    · refine res_of (.inr rfl) p3.sr (p1.ff.trans p23.ff) (fun z => ?_) q
      have z : (prE a && prOx xl && prOx xh) = true := z
      simp only [Bool.and_eq_true] at z
      exact (p1.hh z.1.1).trans (p23.hh (by rw [z.1.2, z.2]; rfl))
end
end Ev
end
section
set_option linter.all false
set_option autoImplicit false
set_option maxRecDepth 100000
/-! EvH: calls of defs; built-ins with one or two arguments; methods; pop. -/
namespace Ev
open PySem PySem.Spec PyProof.Rows L2
/-- a callee's arguments: F frozen, as: where the io parameters' lists and dicts stand -/
structure ArgOk (K : PySem.W.Frag) (w : World) (F H : Hp) (io : List Nat) (vs : List V) (ds : List AV) (as : List Addr) : Prop where
  len : vs.length = ds.length
  rep : ∀ (j : Nat) v d, j ∉ io → vs[j]? = some v → ds[j]? = some d → Rep K w F v d
  own : ∀ p ∈ io.zip as, ∃ d, vs[p.1]? = some (.ref p.2) ∧ ds[p.1]? = some d ∧ mutA d = true ∧ OwnV K w F (fun _ => none) H (.ref p.2) d
  al : as.length = io.length
  nd : as.Nodup
/-- what a def promises -/
def spD (K : PySem.W.Frag) (w : World) (f : List AV → R (AV × List AV)) (io : List Nat) : Sp := fun vs H Q _ => ∃ F ds as v outs, Same F H ∧ ArgOk K w F H io vs ds as ∧ f ds = .ok (v, outs) ∧
  ∀ r F' H', Same F F' → Same F' H' → (∀ a o, F' a = some o → F a = some o ∨ H a = none) → (∀ a o, H a = some o → a ∉ as → H' a = some o) → (∀ p ∈ as.zip outs, OwnV K w F' (fun _ => none) H' (.ref p.1) p.2) → Rep K w F' r v → Q r H'
def posIo : Nat → Xs → List Nat
  | _, .nil => []
  | j, .cons _ r => posIo (j + 1) r
  | j, .star _ r => posIo (j + 1) r
  | j, .tmp _ r => j :: posIo (j + 1) r
  | j, .io _ r => j :: posIo (j + 1) r
def noStar : Xs → Bool
  | .nil => true
  | .cons _ r => noStar r
  | .star _ _ => false
  | .tmp _ r => noStar r
  | .io _ r => noStar r
section
variable {K : PySem.W.Frag} {w : World} {IO : List (Nat × Addr)} {F F' F0 B0 B H H' : Hp} {σ : L2.St} {env : Env} {O : Sl} {es : Xs} {vs : List V} {ds outs : List AV} {as : List Addr}
theorem OwnV.bare {v : V} {d : AV} (o : OwnV K w F B H v d) : OwnV K w F (fun _ => none) H v d := o.at (Same.refl _) fun a u _ _ f1 _ f3 => ⟨f1, rfl, f3⟩
theorem AO.args (S : SR K w IO F0 F B O σ H env) (h : AO K w F B0 B H σ env O es vs ds as) : noStar es = true → ∀ j, vs.length = ds.length ∧ as.length = (posIo j es).length ∧
    (∀ (i : Nat) v d, (j + i) ∉ posIo j es → vs[i]? = some v → ds[i]? = some d → Rep K w F v d) ∧
    ∀ p ∈ (posIo j es).zip as, ∃ i d, p.1 = j + i ∧ vs[i]? = some (.ref p.2) ∧ ds[i]? = some d ∧ mutA d = true ∧ OwnV K w F (fun _ => none) H (.ref p.2) d := by
  induction h with
  | nil => exact fun _ j => ⟨rfl, rfl, fun i v d _ e => by simp at e, fun p hp => by simp [posIo] at hp⟩
  | cons r _ ih =>
    intro z j
    obtain ⟨h1, h2, h3, h4⟩ := ih z (j + 1)
    refine ⟨by simp [h1], h2, fun i v d hn e1 e2 => ?_, fun p hp => ?_⟩
    · cases i with
      | zero => simp at e1 e2; subst e1; subst e2; exact r
      | succ i => exact h3 i v d (fun q => hn (by rw [show j + (i + 1) = j + 1 + i by omega]; exact q)) (by simpa using e1) (by simpa using e2)
    · obtain ⟨i, d, g1, g2, g3, g4⟩ := h4 p hp
      exact ⟨i + 1, d, by omega, by simpa using g2, by simpa using g3, g4⟩
  | star => intro z; cases z
  | @io i r a vs d ds as hi hs hd hm _ _ _ ih =>
    intro z j
    obtain ⟨h1, h2, h3, h4⟩ := ih z (j + 1)
    refine ⟨by simp [h1], by simp [posIo, h2], fun i v d hn e1 e2 => ?_, fun p hp => ?_⟩
    · cases i with
      | zero => exact absurd (by simp [posIo]) hn
      | succ i => exact h3 i v d (fun q => hn (by rw [show j + (i + 1) = j + 1 + i by omega]; exact List.mem_cons_of_mem _ q)) (by simpa using e1) (by simpa using e2)
    · rcases List.mem_cons.mp (show p ∈ (j, a) :: (posIo (j + 1) r).zip as from hp) with rfl | hp
      · obtain ⟨v, g1, g2, _⟩ := S.slot i d hd
        rw [hs] at g1
        cases g1
        exact ⟨0, d, by simp, by simp, by simp, hm, (g2 hi).bare⟩
      · obtain ⟨i, d, g1, g2, g3, g4⟩ := h4 p hp
        exact ⟨i + 1, d, by omega, by simpa using g2, by simpa using g3, g4⟩
  | @tmp e r a vs d ds as o hm hb _ _ ih =>
    intro z j
    obtain ⟨h1, h2, h3, h4⟩ := ih z (j + 1)
    refine ⟨by simp [h1], by simp [posIo, h2], fun i v d hn e1 e2 => ?_, fun p hp => ?_⟩
    · cases i with
      | zero => exact absurd (by simp [posIo]) hn
      | succ i => exact h3 i v d (fun q => hn (by rw [show j + (i + 1) = j + 1 + i by omega]; exact List.mem_cons_of_mem _ q)) (by simpa using e1) (by simpa using e2)
    · rcases List.mem_cons.mp (show p ∈ (j, a) :: (posIo (j + 1) r).zip as from hp) with rfl | hp
      · exact ⟨0, d, by simp, by simp, by simp, hm, o.bare⟩
      · obtain ⟨i, d, g1, g2, g3, g4⟩ := h4 p hp
        exact ⟨i + 1, d, by omega, by simpa using g2, by simpa using g3, g4⟩
theorem AO.argOk (S : SR K w IO F0 F B O σ H env) (h : AO K w F B0 B H σ env O es vs ds as) (hn : noStar es = true) : ArgOk K w F H (posIo 0 es) vs ds as := by
  obtain ⟨h1, h2, h3, h4⟩ := h.args S hn 0
  refine ⟨h1, fun j v d hj e1 e2 => h3 j v d (by simpa using hj) e1 e2, fun p hp => ?_, h2, h.nodup⟩
  obtain ⟨i, d, g1, g2, g3, g4, g5⟩ := h4 p hp
  have : p.1 = i := by omega
  exact ⟨d, by rw [this]; exact g2, by rw [this]; exact g3, g4, g5⟩
theorem AO.ios (h : AO K w F B0 B H σ env O es vs ds as) : ∀ j ∈ iosOf es, j ∈ O ∧ ∃ a d, a ∈ as ∧ σ[j]? = some (some (.ref a)) ∧ env[j]? = some (some d) ∧ mutA d = true := by
  induction h with
  | nil => intro j hj; cases hj
  | cons _ _ ih => exact ih
  | star _ _ ih => exact ih
  | io hi hs hd hm _ _ _ ih =>
    intro j hj
    rcases List.mem_cons.mp hj with rfl | hj
    · exact ⟨hi, _, _, List.mem_cons_self, hs, hd, hm⟩
    · obtain ⟨h1, a, d, h2, h3⟩ := ih j hj
      exact ⟨h1, a, d, List.mem_cons_of_mem _ h2, h3⟩
  | tmp _ _ _ _ _ ih =>
    intro j hj
    obtain ⟨h1, a, d, h2, h3⟩ := ih j hj
    exact ⟨h1, a, d, List.mem_cons_of_mem _ h2, h3⟩
theorem AO.pure (h : AO K w F B0 B H σ env O es vs ds as) : prXs es = true → as = [] := by
  induction h with
  | nil => exact fun _ => rfl
  | cons _ _ ih => intro z; rw [prXs, Bool.and_eq_true] at z; exact ih z.2
  | star _ _ ih => intro z; rw [prXs, Bool.and_eq_true] at z; exact ih z.2
  | io => intro z; cases z
  | tmp => intro z; cases z
theorem AO.put (h : AO K w F B0 B H σ env O es vs ds as) : ∀ {outs : List AV} {e1 e2 : Env}, putIos es outs e1 = .ok e2 → e2.length = e1.length ∧ ∀ (i : Nat) d, e2[i]? = some (some d) → (i ∉ iosOf es ∧ e1[i]? = some (some d)) ∨ (i ∈ iosOf es ∧ ∃ a, σ[i]? = some (some (.ref a)) ∧ (a, d) ∈ as.zip outs) := by
  induction h with
  | nil =>
    intro outs e1 e2 e
    cases outs with
    | nil => cases e; exact ⟨rfl, fun i d q => .inl ⟨by simp [iosOf], q⟩⟩
    | cons => cases e
  | cons _ _ ih => exact fun {outs e1 e2} e => ih (show putIos _ outs e1 = .ok e2 by cases outs <;> exact e)
  | star _ _ ih => exact fun {outs e1 e2} e => ih (show putIos _ outs e1 = .ok e2 by cases outs <;> exact e)
  | @io j r a vs d ds as hi hs hd hm _ _ _ ih =>
    intro outs e1 e2 e
    cases outs with
    | nil => cases e
    | cons o outs =>
      obtain ⟨l, h⟩ := ih (show putIos r outs (e1.set j (some o)) = .ok e2 from e)
      refine ⟨by rw [l, List.length_set], fun i d q => ?_⟩
      rcases h i d q with ⟨h1, h2⟩ | ⟨h1, b, h2, h3⟩
      · by_cases hj : j = i
        · subst hj
          rw [List.getElem?_set] at h2
          by_cases hl : j < e1.length
          · simp [hl] at h2
            subst h2
            exact .inr ⟨List.mem_cons_self, a, hs, List.mem_cons_self⟩
          · simp [hl] at h2
        · rw [List.getElem?_set_ne hj] at h2
          exact .inl ⟨fun z => (List.mem_cons.mp z).elim (fun z => hj z.symm) h1, h2⟩
      · exact .inr ⟨List.mem_cons_of_mem _ h1, b, h2, List.mem_cons_of_mem _ h3⟩
  | @tmp e r a vs d ds as o hm hb _ _ ih =>
    intro outs e1 e2 e
    cases outs with
    | nil => cases e
    | cons o outs =>
      obtain ⟨l, h⟩ := ih (show putIos r outs e1 = .ok e2 from e)
      refine ⟨l, fun i d q => ?_⟩
      rcases h i d q with h1 | ⟨h1, b, h2, h3⟩
      · exact .inl h1
      · exact .inr ⟨h1, b, h2, List.mem_cons_of_mem _ h3⟩
/-- behind a call -/
theorem SR.called {env2 : Env} (S : SR K w IO F0 F B O σ H env) (sB : Same B0 B) (A : AO K w F B0 B H σ env O es vs ds as) (hp : putIos es outs env = .ok env2)
    (h1 : Same F F') (h2 : Same F' H') (h3 : ∀ a o, F' a = some o → F a = some o ∨ H a = none) (h4 : ∀ a o, H a = some o → a ∉ as → H' a = some o) (h5 : ∀ p ∈ as.zip outs, OwnV K w F' (fun _ => none) H' (.ref p.1) p.2) :
    SR K w IO F0 F' B0 O σ H' env2 := by
  obtain ⟨l, get⟩ := A.put hp
  have io_free : ∀ a ∈ as, B0 a = none := fun a ha => by
    rcases A.places S a ha with ⟨j, _, q2, q3, d, q4, q5⟩ | q
    · obtain ⟨v, g1, g2, _⟩ := S.slot j d q4
      rw [q3] at g1; cases g1
      obtain ⟨_, f2, _⟩ := (g2 q2).none_of rfl q5
      exact sB.free f2
    · exact q.1
  have old : ∀ (i : Nat) d, i ∈ O → env2[i]? = some (some d) → mutA d = true → ∃ d0, env[i]? = some (some d0) ∧ mutA d0 = true := fun i d hi e hm => by
    rcases get i d e with ⟨_, q⟩ | ⟨q, _⟩
    · exact ⟨d, q, hm⟩
    · obtain ⟨_, a, d0, _, _, g1, g2⟩ := A.ios i q
      exact ⟨d0, g1, g2⟩
  refine ⟨h2, fun a o e => ?_, S.f0.trans h1, fun a o e => ?_, fun i d e => ?_, fun i j a d e hi hj e1 e2 m1 m2 s1 s2 => ?_, l.trans S.len, S.io⟩
  · exact h4 a o (S.bh _ _ (sB _ _ e)) fun z => by rw [io_free a z] at e; cases e
  · rcases h3 a o e with q | q
    · exact (S.fb a o q).imp id fun z => sB.free z
    · exact .inr (sB.free (S.bh.free q))
  · rcases get i d e with ⟨q1, q2⟩ | ⟨q1, a, q2, q3⟩
    · obtain ⟨v, g1, g2, g3⟩ := S.slot i d q2
      refine ⟨v, g1, fun hi => (g2 hi).at h1 fun a u ev hm f1 f2 f3 => ⟨?_, sB.free f2, h4 a u f3 fun z => ?_⟩, fun hi => Rep.mono h1 (g3 hi)⟩
      · cases z : F' a with
        | none => rfl
        | some o =>
          rcases h3 a o z with y | y
          · rw [f1] at y; cases y
          · rw [f3] at y; cases y
      · rcases A.places S a z with ⟨j, p1, p2, p3, dj, p4, p5⟩ | ⟨_, u', p⟩
        · have := S.apart i j a d dj hi p2 q2 p4 hm p5 (by rw [g1, ev]) p3
          subst this
          exact q1 p1
        · rw [f2] at p; cases p
    · refine ⟨.ref a, q2, fun _ => ?_, fun hi => absurd (A.ios i q1).1 hi⟩
      have ha : a ∈ as := (List.of_mem_zip q3).1
      exact (h5 _ q3).at (Same.refl _) fun b u eb _ f1 _ f3 => ⟨f1, by cases eb; exact io_free a ha, f3⟩
  · obtain ⟨d0, g1, g2⟩ := old i d hi e1 m1
    obtain ⟨d1, k1, k2⟩ := old j e hj e2 m2
    exact S.apart i j a d0 d1 hi hj g1 k1 g2 k2 s1 s2
end
/-- the built-ins' names: no name of the module -/
def bnames : List Str := ["len", "isinstance", "sorted", "set", "list", "tuple", "range", "enumerate", "sum", "min", "max", "all", "any", "int", "bool", "abs", "str", "dict"]
/-- the surroundings -/
structure Good (P : Tab) (k : Nat) (c : Cx) : Prop where
  nd : c.N.Nodup
  calm : c.calm = true
  room : Room k c.A
  fre : ∀ x ∈ bnames, c.mg x = none
  fn : ∀ f D, P f = some D → ∃ (fa : Addr) (fd : FuncData) (ps : List Str), FnOk c.prog c.w c.K c.mg c.base CX0 k fa fd ps (spD c.K c.w (callD P k f) D.io) ∧ c.mg (P.nm f) = some (.ref fa) ∧ PySem.W.keepIn c.K (.ref fa) = true ∧ Binds c.K fd ps []
  glo : ∀ y a, P.g y = some a → ∃ v u, c.mg y = some u ∧ RelV v u ∧ ∀ F, Rep c.K c.w F v a
section
variable {P : Tab} {k : Nat} {c : Cx} {f : Nat} {D : Def} {es : Xs} {p pos : Pos} {l : Expr} {ls : List Expr}
theorem call_imp {cal : Cal} {m : Md} {σ : L2.St} {H : Hp} {Q : VK} (hn : noStar es = true) (h : rd c.K c.w cal m (.call f es) σ H Q) : tCall (spD c.K c.w (cal f) (posIo 0 es)) [] E0 (rdXs c.K c.w cal es) σ H Q := by
  obtain ⟨IO, F0, F, B, O, env, d, env', O', S, e, o, q⟩ := h
  obtain ⟨⟨ds, e1⟩, ea, e⟩ := R.bind_eq_ok (show (evXs cal es env >>= fun p => cal f p.1 >>= fun r => putIos es r.2 p.2 >>= fun z => R.ok (r.1, z)) = .ok (d, env') from e)
  obtain ⟨⟨v, outs⟩, ec, e⟩ := R.bind_eq_ok e
  obtain ⟨e2, ep, e⟩ := R.bind_eq_ok e
  cases e
  rw [owM_nv rfl] at o
  refine ⟨IO, F0, F, B, O, env, ds, e1, O', S, ea, o, fun vs as F1 B1 H1 S1 f1 b1 h1 A => ?_⟩
  show spD c.K c.w (cal f) (posIo 0 es) (vs ++ []) H1 Q E0
  rw [List.append_nil]
  refine ⟨F1, ds, as, _, outs, S1.fh, A.argOk S1 hn, ec, fun r F2 H2 g1 g2 g3 g4 g5 g6 => ?_⟩
  have S2 := S1.called b1 A ep g1 g2 g3 g4 g5
  refine q r F2 H2 ⟨S2, f1.trans g1, fun z => ?_⟩ (imm_rv rfl S2.fh g6)
  have hz : prXs es = true := z
  have e0 := A.pure hz
  subst e0
  exact (h1 hz).trans fun a o ha => g4 a o ha (by simp)
theorem starEach_plain {env : PySem.Env} {pos : Pos} : ∀ {ls : List Expr}, ls.all (fun e => !stE e) = true → (backTo pos (starEach ls env)).any (·.1) = false
  | [], _ => rfl
  | e :: ls, h => by
    simp only [List.all_cons, Bool.and_eq_true, Bool.not_eq_true'] at h
    rw [star_plain h.1]
    show (false || (backTo pos (starEach ls env)).any (·.1)) = false
    rw [starEach_plain h.2]
    rfl
theorem ok_call (G : Good P k c) (hP : P f = some D) (hio : posIo 0 es = D.io) (hn : noStar es = true) (hg : Gl c (P.nm f)) (hd : (P.nm f == ("__debug__" : Str)) = false) (hs : (l :: ls).all (fun e => !stE e) = true) (ha : PA c (l :: ls) (rdXs c.K c.w (callD P k) es)) :
    OkE (callD P k) c (.Call (.Name (P.nm f) p) (l :: ls) [] pos) (.call f es) := by
  obtain ⟨fa, fd, ps, F, hm, kp, b⟩ := G.fn f D hP
  have hs' := hs
  simp only [List.all_cons, Bool.and_eq_true, Bool.not_eq_true'] at hs'
  refine OkE.of rfl fun m => (pe_call F G.room hg hm kp b .nil pass0 ha hd (star_plain hs'.1) (starEach_plain hs'.2)).imp fun σ H Q q => ?_
  have := call_imp hn q
  rw [hio] at this
  exact this
theorem ok_call0 (G : Good P k c) (hP : P f = some D) (hio : posIo 0 .nil = D.io) (hg : Gl c (P.nm f)) (hd : (P.nm f == ("__debug__" : Str)) = false) : OkE (callD P k) c (.Call (.Name (P.nm f) p) [] [] pos) (.call f .nil) := by
  obtain ⟨fa, fd, ps, F, hm, kp, b⟩ := G.fn f D hP
  refine OkE.of rfl fun m => (pe_call0 F G.room hg hm kp b .nil pass0 hd).imp fun σ H Q q => ?_
  have h := call_imp (es := .nil) rfl q
  rw [hio] at h
  obtain ⟨IO, F0, F, B, O, env, ds, env', O', S, e, o, q⟩ := h
  cases e
  cases o
  exact q [] [] F B H S (Same.refl _) (Same.refl _) (fun _ => Same.refl _) .nil
end
/-! ### built-ins -/
section
variable {cal : Cal} {c : Cx} {e l r t : Expr} {a b d : X}
theorem ok_blt1 (f : Blt) (he : tvE e = true) (h : ∀ nb t, (nb = true → freshB f = true) → PE c l t → PE c e (tUn (rUn c.K c.w (fun x => bltop f [x]) nb) t)) (ha : OkE cal c l a) : OkE cal c e (.blt f (.cons a .nil)) :=
  OkE.of he fun m => (h (isNew m (.blt f (.cons a .nil))) _ (fun z => by cases m <;> first | exact z | cases z) (ha.pe .opd)).imp fun σ H Q q => one_imp (f := fun x => bltop f [x]) (m1 := .opd) (by decide) rfl (fun env => by
    show ((evE cal a env >>= fun p => (R.ok ([], p.2) : R (List AV × Env)) >>= fun p2 => R.ok (p.1 :: p2.1, p2.2)) >>= fun p => bltop f p.1 >>= fun v => R.ok (v, p.2)) = (evE cal a env >>= fun p => bltop f [p.1] >>= fun v => R.ok (v, p.2))
    cases evE cal a env with
    | ok p => rfl
    | exc _ _ => rfl
    | bad => rfl) (fun O => rfl) (by show (prE a && true) = prE a; cases prE a <;> rfl) q
theorem ok_blt2 (f : Blt) (he : tvE e = true) (h : ∀ nb t u, (nb = true → freshB f = true) → PE c l t → PE c r u → PE c e (tOp (rOp c.K c.w (fun x y => bltop f [x, y]) nb) t u)) (ha : OkE cal c l a) (hb : OkE cal c r b) : OkE cal c e (.blt f (.cons a (.cons b .nil))) :=
  OkE.of he fun m => (h (isNew m (.blt f (.cons a (.cons b .nil)))) _ _ (fun z => by cases m <;> first | exact z | cases z) (ha.pe .val) (hb.pe .val)).imp fun σ H Q q => two_val (f := fun x y => bltop f [x, y]) rfl (fun env => by
    show ((evE cal a env >>= fun p => (evE cal b p.2 >>= fun p2 => (R.ok ([], p2.2) : R (List AV × Env)) >>= fun p3 => R.ok (p2.1 :: p3.1, p3.2)) >>= fun p2 => R.ok (p.1 :: p2.1, p2.2)) >>= fun p => bltop f p.1 >>= fun v => R.ok (v, p.2)) = (evE cal a env >>= fun p => evE cal b p.2 >>= fun p2 => bltop f [p.1, p2.1] >>= fun v => R.ok (v, p2.2))
    cases evE cal a env with
    | ok p =>
      show ((evE cal b p.2 >>= fun p2 => (R.ok ([], p2.2) : R (List AV × Env)) >>= fun p3 => R.ok (p2.1 :: p3.1, p3.2)) >>= fun p2 => R.ok (p.1 :: p2.1, p2.2) : R (List AV × Env)).bind _ = (evE cal b p.2).bind _
      cases evE cal b p.2 with
      | ok p => rfl
      | exc _ _ => rfl
      | bad => rfl
    | exc _ _ => rfl
    | bad => rfl) (fun O => by
      show andThen (owE O a) (fun O1 => andThen (owE O1 b) some) = _
      cases owE O a with
      | none => rfl
      | some O1 => show andThen (owE O1 b) some = owE O1 b; cases owE O1 b <;> rfl) (by show (prE a && (prE b && true)) = (prE a && prE b); cases prE a <;> cases prE b <;> rfl) q
/-- a method with one argument -/
theorem ok_meth1 (f : Mth) (he : tvE e = true) (hml : ∀ da db d, mthop f da [db] = .ok d → ∃ xs, da = .list xs) (h : ∀ t u, PE c l t → PE c r u → PE c e (fun σ H Q => t σ H fun x H1 => tyV c.K "list" x H1 ∧ u σ H1 fun y H2 => rOp c.K c.w (fun x y => mthop f x [y]) false x y H2 Q)) (ha : OkE cal c l a) (hb : OkE cal c r b) : OkE cal c e (.meth f a (.cons b .nil)) :=
  OkE.of he fun m => (h _ _ (ha.pe (opM (prE b))) (hb.pe .val)).imp fun σ H Q q => by
    obtain ⟨IO, F0, F, B, O, env, d, env', O', S, e, o, q⟩ := q
    obtain ⟨⟨da, e1⟩, ea, e⟩ := R.bind_eq_ok (show (evE cal a env >>= fun p => (evE cal b p.2 >>= fun p2 => (R.ok ([], p2.2) : R (List AV × Env)) >>= fun p3 => R.ok (p2.1 :: p3.1, p3.2)) >>= fun p2 => mthop f p.1 p2.1 >>= fun v => R.ok (v, p2.2)) = .ok (d, env') from e)
    obtain ⟨⟨dbs, e2⟩, eb0, e⟩ := R.bind_eq_ok e
    obtain ⟨⟨db, e3⟩, eb, e4⟩ := R.bind_eq_ok eb0
    obtain ⟨v, ev, e⟩ := R.bind_eq_ok e
    cases e
    cases e4
    rw [owM_nv rfl] at o
    obtain ⟨O1, oa, o⟩ := andThen_some (show andThen (if prE b && true then bor a O (owE O a) else owE O a) (fun O1 => andThen (owE O1 b) some) = some O' from o)
    obtain ⟨O2, ob, o⟩ := andThen_some o
    cases o
    refine ⟨IO, F0, F, B, O, env, da, e1, O1, S, ea, by rw [owM_opM]; rw [Bool.and_true] at oa; exact oa, fun va F1 H1 p1 r1 => ⟨?_, IO, F0, F1, B, O1, e1, db, e3, O', p1.sr, eb, ob, fun vb F2 H2 p2 r2 => ?_⟩⟩
    · obtain ⟨xs, rfl⟩ := hml _ _ _ ev
      have o : Opd c.K c.w F1 H1 va (.list xs) := by
        cases hp : prE b with
        | true => rw [hp] at r1; exact r1.1
        | false => rw [hp] at r1; exact Rep.opd p1.sr.fh r1
      obtain ⟨a, us, rfl, hq, _⟩ := o.listE
      exact .inl ⟨rfl, us, hq.sql⟩
    refine ⟨F2, da, db, d, p2.sr.fh, opd_after r1 p2, Rep.opd p2.sr.fh r2, ev, ?_⟩
    have hn : isNew m (.meth f a (.cons b .nil)) = false := by cases m <;> rfl
    rw [← hn]
    exact res_of (.inr rfl) p2.sr (p1.ff.trans p2.ff) (fun h => by
      have h : (prE a && (prE b && true)) = true := h
      simp only [Bool.and_eq_true, and_true] at h
      exact (p1.hh h.1).trans (p2.hh h.2)) q
end
/-! ### pop -/
section
variable {cal : Cal} {c : Cx} {e l : Expr} {i : Nat} {y : Str} {a : X} {p pos apos : Pos}
theorem change_list {K : PySem.W.Frag} {w : World} {IO : List (Nat × Addr)} {F0 F B H : Hp} {O : Sl} {σ : L2.St} {env : Env} {i : Nat} {ds ds' : List AV} (S : SR K w IO F0 F B O σ H env) (hi : i ∈ O) (hd : env[i]? = some (some (.list ds))) :
    ∃ a xs, σ[i]? = some (some (.ref a)) ∧ H a = some (.lst xs) ∧ RepL K w F xs ds ∧ ∀ xs', RepL K w F xs' ds' → SR K w IO F0 F B O σ (upd H a (.lst xs')) (env.set i (some (.list ds'))) := by
  obtain ⟨v, g1, g2, _⟩ := S.slot i _ hd
  obtain ⟨b, xs, e1, f1, f2, f3, f4⟩ := g2 hi
  subst e1
  exact ⟨b, xs, g1, f3, f4, fun xs' r => S.change hi hd rfl g1 ⟨b, xs', rfl, f1, f2, upd_same, r⟩⟩
theorem change_dict {K : PySem.W.Frag} {w : World} {IO : List (Nat × Addr)} {F0 F B H : Hp} {O : Sl} {σ : L2.St} {env : Env} {i : Nat} {ds ds' : List (AV × AV)} (S : SR K w IO F0 F B O σ H env) (hi : i ∈ O) (hd : env[i]? = some (some (.dict ds))) :
    ∃ a ep L tk, σ[i]? = some (some (.ref a)) ∧ H a = some (dictH w a ep L) ∧ RepD K w F tk L ds ∧ ∀ (ep' : Obj) (L' : List Ent) (tk' : Bool), RepD K w F tk' L' ds' → SR K w IO F0 F B O σ (upd H a (dictH w a ep' L')) (env.set i (some (.dict ds'))) := by
  obtain ⟨v, g1, g2, _⟩ := S.slot i _ hd
  obtain ⟨b, ep, L, tk, e1, f1, f2, f3, f4⟩ := g2 hi
  subst e1
  exact ⟨b, ep, L, tk, g1, f3, f4, fun ep' L' tk' r => S.change hi hd rfl g1 ⟨b, ep', L', tk', rfl, f1, f2, upd_same, r⟩⟩
theorem ok_pop0 (hN : c.N[i]? = some y) (hv : Vis c.env.scope y) (hd : (y == ("__debug__" : Str)) = false) (hcd : (y == ("__classdict__" : Str)) = false) (hline : (apos.endLine == pos.line) = true) :
    OkE cal c (.Call (.Attribute (.Name y p) "pop" apos) [] [] pos) (.pop i .none) :=
  OkE.of rfl fun m => (pe_bm0 PySem.F.plainAttrs_list PySem.F.slot_list_pop PySem.F.type_list_pop mt_pop (pe_var hN hv hd hcd) rfl hline).imp fun σ H Q h => by
    obtain ⟨IO, F0, F, B, O, env, d, env', O', S, e, o, q⟩ := h
    rw [owM_nv rfl] at o
    obtain ⟨O1, h1, o⟩ := andThen_some (show andThen (some O) (fun O1 => if O1.contains i then some O1 else none) = some O' from o)
    cases h1
    split at o
    · rename_i hi
      cases o
      obtain ⟨x0, e0, e⟩ := R.bind_eq_ok (show (look env i >>= fun x0 => isL x0 >>= fun _ => look env i >>= fun x => match x, (none : Option AV) with
        | .list xs, none => (match xs.getLast? with
          | some v => R.ok (v, env.set i (some (.list xs.dropLast)))
          | none => .bad)
        | .list xs, some (.int j) => (match ixOf xs.length j with
          | some n => (match xs[n]? with
            | some v => .ok (v, env.set i (some (.list (xs.eraseIdx n))))
            | none => .bad)
          | none => .bad)
        | _, _ => .bad) = .ok (d, env') from e)
      obtain ⟨_, _, e⟩ := R.bind_eq_ok e
      obtain ⟨dl, el, e⟩ := R.bind_eq_ok (show (look env i >>= fun x => match x, (none : Option AV) with
        | .list xs, none => (match xs.getLast? with
          | some v => R.ok (v, env.set i (some (.list xs.dropLast)))
          | none => .bad)
        | .list xs, some (.int j) => (match ixOf xs.length j with
          | some n => (match xs[n]? with
            | some v => .ok (v, env.set i (some (.list (xs.eraseIdx n))))
            | none => .bad)
          | none => .bad)
        | _, _ => .bad) = .ok (d, env') from e)
      have hi' : i ∈ O := by simpa using hi
      have hd' := look_ok el
      cases dl with
      | list ds =>
        have e : (match ds.getLast? with
          | some v => R.ok (v, env.set i (some (.list ds.dropLast)))
          | none => .bad) = .ok (d, env') := e
        cases hl : ds.getLast? with
        | none => rw [hl] at e; cases e
        | some dv =>
          rw [hl] at e
          cases e
          obtain ⟨x, xs, hs, hx, r, ch⟩ := change_list (ds' := ds.dropLast) S hi' hd'
          have hg : ds[ds.length - 1]? = some d := by rw [← List.getLast?_eq_getElem?]; exact hl
          obtain ⟨v, gv, rv⟩ := r.get hg
          refine ⟨.ref x, hs, .inl ⟨rfl, xs, .inl (.inl hx)⟩, x, xs, v, rfl, rfl, hx, by rw [r.length]; exact gv, ?_⟩
          have S2 := ch xs.dropLast r.dropLast
          exact q v F _ ⟨S2, Same.refl _, fun z => by cases z⟩ (imm_rv rfl S2.fh rv)
      | _ => cases e
    · cases o
end
end Ev
end
section
set_option linter.all false
set_option autoImplicit false
set_option maxRecDepth 100000
set_option maxHeartbeats 2000000
/-! EvDt: dicts whose keys are tuples. -/
namespace Ev
open PySem PySem.Spec PyProof.Rows L2
section
variable {X : Cx} {pins : List (Addr × Obj)} {σ : L2.St} {H F : Hp} {s : Shared}
mutual
theorem Rep.nest (I : Inv X pins σ H s) (hF : Same F H) : ∀ (d : AV) {v : V} {u : Value} {nk : NestedKey}, nestK d = some nk → Rep X.K X.w F v d → RelV v u → NestedIs s.heap nk u
  | .int i, _, _, _, h, r, ru => by cases h; cases r; obtain ⟨t, rfl⟩ := ru; exact .int i t
  | .str x, _, _, _, h, r, ru => by cases h; cases r; obtain ⟨t, rfl⟩ := ru; exact .text x t
  | .tuple ds, _, _, _, h, .tup g rl, ru => by
    rw [nestK] at h
    cases hd : nestKs ds with
    | none => rw [hd] at h; cases h
    | some ks =>
      rw [hd] at h
      cases h
      cases ru
      obtain ⟨its, rv, ⟨o, e, hc, n, hdt⟩, hz⟩ := I.tuple (Same.tup hF g)
      exact .tup e hc hdt (by simpa using RepL.nest I hF ds hd rl rv)
  | .none, _, _, _, h, _, _ => by cases h
  | .bool _, _, _, _, h, _, _ => by cases h
  | .list _, _, _, _, h, _, _ => by cases h
  | .dict _, _, _, _, h, _, _ => by cases h
theorem RepL.nest (I : Inv X pins σ H s) (hF : Same F H) : ∀ (ds : List AV) {vs : List V} {us : List Value} {ks : List NestedKey}, nestKs ds = some ks → RepL X.K X.w F vs ds → Vals vs us → NestedAll s.heap ks us
  | [], _, _, _, h, .nil, .nil => by cases h; exact .nil
  | d :: ds, _, _, _, h, .cons h1 h2, .cons r1 r2 => by
    rw [nestKs] at h
    split at h
    · rename_i k ks e1 e2
      cases h
      exact .cons (Rep.nest I hF d e1 h1 r1) (RepL.nest I hF ds e2 h2 r2)
    · cases h
end
abbrev knd (X : Cx) := nestedKind X.prog X.w
/-- a key tuple -/
theorem key_is (I : Inv X pins σ H s) (hF : Same F H) {k : AV} {nk : NestedKey} {b : Addr} (h : keyT k = some nk) (r : Rep X.K X.w F (.ref b) k) : (knd X).is s.heap nk b := ⟨Rep.nest I hF k (keyT_nest h).1 r rfl, (keyT_nest h).2.1⟩
theorem keys_are (I : Inv X pins σ H s) (hF : Same F H) : ∀ {L : List (NestedKey × Addr × V)} {kvs : List (AV × AV)} {xs : List (NestedKey × Addr × Value)}, RepD X.K X.w F true (emT L) kvs → Paired EntR L xs → ∀ x ∈ xs, (knd X).is s.heap x.1 x.2.1
  | [], _, _, _, .nil, x, hx => by cases hx
  | (_, _, _) :: _, _, _, .consT h r0 _ r, .cons e t, x, hx => by
    rcases List.mem_cons.mp hx with rfl | hx
    · obtain ⟨e1, e2, _⟩ := e
      have := key_is I hF h r0
      dsimp only at e1 e2
      rw [← e1, ← e2]
      exact this
    · exact keys_are I hF r t x hx
theorem dk_ok (I : Inv X pins σ H s) {a : Addr} {o : Obj} {L : List (Key × V)} (e : H a = some (dictH X.w a o (emK L))) : L.length ≤ sizeLine ∧ (a == sysModules) = false ∧ ∃ vs, KV L vs ∧ s.heap.DictOf (mixKind X.prog X.w) a vs := dk_in (P := X.prog) (dic_at I.hok e)
theorem dt_ok (I : Inv X pins σ H s) (hF : Same F H) {a : Addr} {o : Obj} {L : List (NestedKey × Addr × V)} {kvs : List (AV × AV)} (e : H a = some (dictH X.w a o (emT L))) (r : RepD X.K X.w F true (emT L) kvs) :
    L.length ≤ sizeLine ∧ (a == sysModules) = false ∧ ∃ xs, Paired EntR L xs ∧ s.heap.DictOfH (knd X) a xs := by
  obtain ⟨z, y, xs, rel, es, ep, h1, h2, h3, h4, h5⟩ := dt_in (P := X.prog) (dic_at I.hok e)
  exact ⟨z, y, xs, rel, o, es, ep, h1, h2, h3, h4, keys_are I hF r rel, h5⟩
theorem ent_val {L : List (NestedKey × Addr × V)} {xs : List (NestedKey × Addr × Value)} (r : Paired EntR L xs) (nk : NestedKey) : RelO ((L.find? fun p => decide (p.1 = nk)).map (·.2.2)) ((atKey xs nk).map (·.2)) := by
  induction r with
  | nil => exact True.intro
  | @cons p q ps qs h t ih =>
    obtain ⟨h1, _, h2⟩ := h
    by_cases e : p.1 = nk
    · have e' : q.1 = nk := h1.symm.trans e
      have b : atKey (q :: qs) nk = some q.2 := by simp [atKey, List.find?_cons, e']
      rw [List.find?_cons_of_pos (by simpa using e), b]; exact h2
    · have e' : ¬ q.1 = nk := fun z => e (h1.trans z)
      have b : atKey (q :: qs) nk = atKey qs nk := by simp [atKey, List.find?_cons, e']
      rw [List.find?_cons_of_neg (by simpa using e), b]; exact ih
theorem ent_any {L : List (NestedKey × Addr × V)} (nk : NestedKey) : (L.any fun p => decide (p.1 = nk)) = ((L.find? fun p => decide (p.1 = nk)).map (·.2.2)).isSome := by
  induction L with
  | nil => rfl
  | cons p L ih =>
    by_cases e : p.1 = nk
    · rw [List.find?_cons_of_pos (by simpa using e), List.any_cons, decide_eq_true e]; rfl
    · rw [List.find?_cons_of_neg (by simpa using e), List.any_cons, decide_eq_false e, ← ih]; rfl
theorem ent_put {L : List (NestedKey × Addr × V)} {xs : List (NestedKey × Addr × Value)} (r : Paired EntR L xs) (nk : NestedKey) (b : Addr) {y : V} {u : Value} (ry : RelV y u) : Paired EntR (putT L nk b y) (storedH xs nk b u) := by
  have e : (L.any fun p => decide (p.1 = nk)) = (atKey xs nk).isSome := by
    rw [ent_any, (ent_val r nk).isSome_eq, Option.isSome_map]
  unfold Ev.putT storedH
  rw [e]
  by_cases q : (atKey xs nk).isSome = true
  · rw [if_pos q, if_pos q]
    clear e q
    induction r with
    | nil => exact .nil
    | @cons p q ps qs h t ih =>
      rw [List.map_cons, List.map_cons]
      refine .cons ?_ ih
      obtain ⟨h1, h2, h3⟩ := h
      unfold putAt
      by_cases e : p.1 = nk
      · rw [if_pos e, if_pos (h1.symm.trans e)]; exact ⟨h1, h2, ry⟩
      · rw [if_neg e, if_neg (fun z => e (h1.trans z))]; exact ⟨h1, h2, h3⟩
  · rw [if_neg q, if_neg q]; exact Paired.snoc r ⟨rfl, rfl, ry⟩
theorem putT_len (L : List (NestedKey × Addr × V)) (nk : NestedKey) (b : Addr) (y : V) : (putT L nk b y).length ≤ L.length + 1 := by
  unfold Ev.putT
  split
  · rw [List.length_map]; omega
  · rw [List.length_append]; exact Nat.le_refl _
/-- a store at a key -/
def rSetT (X : Cx) : TSet := fun o i v H Q => ∃ (F : Hp) (a : Addr) (ob : Obj) (L : List Ent) (tk : Bool) (kvs : List (AV × AV)) (k va : AV), o = .ref a ∧ Same F H ∧ H a = some (dictH X.w a ob L) ∧ RepD X.K X.w F tk L kvs ∧ kindOk kvs k = true ∧ Rep X.K X.w F i k ∧ Rep X.K X.w F v va ∧ kvs.length < sizeLine ∧
  ∀ (ob' : Obj) (L' : List Ent) (tk' : Bool), RepD X.K X.w F tk' L' (dput kvs k va) → Q (upd H a (dictH X.w a ob' L'))
theorem rep_ref {K : PySem.W.Frag} {w : World} {F : Hp} {k : AV} {nk : NestedKey} {y : V} (hk : keyT k = some nk) (r : Rep K w F y k) : ∃ b, y = .ref b := by
  obtain ⟨_, _, ds, rfl⟩ := keyT_nest hk
  cases r
  exact ⟨_, rfl⟩
theorem set_tup (hu : X.A.units + 9 < cLine) : PSet X (rSetT X) := by
  intro pins s σ H o i v ov iv u Q I ro ri rv h
  obtain ⟨F, a, ob, L, tk, kvs, k, va, rfl, hF, e, r, hk, rk, rva, hl, q⟩ := h
  cases (show ov = Value.ref a from ro)
  have hlen := r.length
  rcases r.kind hk with ⟨hc, r⟩ | ⟨hc, r⟩
  · obtain ⟨nk, hk⟩ := keyA_leaf hc
    obtain rfl := keyA_rep hk rk
    obtain ⟨L0, rfl⟩ := r.isK
    obtain ⟨z, hd, vs, rel, dd⟩ := dk_ok I e
    have hz : vs.length ≤ sizeLine := by rw [← rel.length]; exact z
    have hl' : (putK L0 nk v).length ≤ sizeLine := by
      have := length_putK L0 nk v
      simp only [emK, List.length_map] at hlen
      omega
    refine wpAny_setItem_pairs (hsz := hz) (kV_is ri) dd fun h' dd' hs => ?_
    obtain ⟨o', d'⟩ := dk_out hl' hd (rel.put nk rv) dd'
    exact ⟨_, d_write I (by rw [e]; exact mut_dict) hs ⟨o', d'.2.2.1⟩ (dic_obj d'), q o' _ false (r.put hk rva)⟩
  · obtain ⟨nk, hk⟩ := tupKey_ok hc
    obtain ⟨L0, rfl⟩ := r.isT
    obtain ⟨b, rfl⟩ := rep_ref hk rk
    cases (show iv = Value.ref b from ri)
    obtain ⟨z, hd, xs, rel, dd⟩ := dt_ok I hF e r
    have hz : xs.length ≤ sizeLine := by rw [← Paired.length rel]; exact z
    have hl2 : (putT L0 nk b v).length ≤ sizeLine := by
      have := putT_len L0 nk b v
      simp only [emT, List.length_map] at hlen
      omega
    refine wpAny_setItem_heap (knd := knd X) (hsz := hz) (show X.A.in1.units + 8 < cLine from by show X.A.units + 1 + 8 < cLine; omega) (key_is I hF hk rk) dd fun h' dd' hs => ?_
    obtain ⟨o', d'⟩ := dt_out rfl hl2 hd (ent_put rel nk b rv) dd'
    exact ⟨_, d_write I (by rw [e]; exact mut_dict) hs ⟨o', d'.2.2.1⟩ (dic_obj d'), q o' _ true (r.putT hk rk rva)⟩
/-! ### a dict by its entries -/
def keyV (e : Ent) : V := match e.1 with
  | .inl k => kV k
  | .inr p => .ref p.2
theorem dic_ents {w : World} {a : Addr} {o : Obj} {L : List Ent} {h : Heap} (d : DicP w a o L h) : (a == sysModules) = false ∧ o.ExactDict ∧ h.get? a = some o ∧ ∃ es ep, o.data = .dict es ep ∧ es.size = L.length ∧ L.length ≤ sizeLine ∧
    ∀ (i : Nat) (e : Ent), L[i]? = some e → ∃ en : DictEntry, es[i]? = some en ∧ RelV (keyV e) en.key ∧ RelV e.2 en.val := by
  obtain ⟨z, y, e, hx, es, ep, hd, pr, hn⟩ := d
  refine ⟨y, hx, e, es, ep, hd, by rw [← Array.length_toList]; exact Paired.length pr, z, ?_⟩
  have key : ∀ {l : List DictEntry} {M : List Ent}, Paired (EntW w) l M → ∀ (i : Nat) (e : Ent), M[i]? = some e → ∃ en : DictEntry, l[i]? = some en ∧ RelV (keyV e) en.key ∧ RelV e.2 en.val := by
    intro l M q
    induction q with
    | nil => intro i e h; simp at h
    | @cons en e l M r t ih =>
      intro i e' h
      cases i with
      | zero =>
        simp only [List.getElem?_cons_zero, Option.some.injEq] at h
        subst h
        refine ⟨en, rfl, ?_⟩
        obtain ⟨k | p, v⟩ := e
        · have r : keyIs k en.key = true ∧ en.hash = keyH w k ∧ RelV v en.val := r
          exact ⟨relV_key r.1, r.2.2⟩
        · have r : en.hash = p.1.hash w ∧ en.key = .ref p.2 ∧ RelV v en.val := r
          exact ⟨r.2.1, r.2.2⟩
      | succ i => exact ih i e' (by simpa using h)
  intro i e h
  obtain ⟨en, h1, h2⟩ := key pr i e h
  exact ⟨en, by rw [← Array.getElem?_toList]; exact h1, h2⟩
theorem RepD.keysV {K : PySem.W.Frag} {w : World} {F : Hp} : ∀ {tk : Bool} {L : List Ent} {kvs : List (AV × AV)}, RepD K w F tk L kvs → RepL K w F (L.map keyV) (kvs.map (·.1))
  | _, _, _, .nil => .nil
  | _, _, _, .cons h _ r => .cons (rep_keyA h) (RepD.keysV r)
  | _, _, _, .consT _ r0 _ r => .cons r0 (RepD.keysV r)
theorem RepD.valsV {K : PySem.W.Frag} {w : World} {F : Hp} : ∀ {tk : Bool} {L : List Ent} {kvs : List (AV × AV)}, RepD K w F tk L kvs → RepL K w F (L.map (·.2)) (kvs.map (·.2))
  | _, _, _, .nil => .nil
  | _, _, _, .cons _ r1 r => .cons r1 (RepD.valsV r)
  | _, _, _, .consT _ _ r1 r => .cons r1 (RepD.valsV r)
theorem vals_of {L : List Ent} {acc : Array Value} {f : Ent → V} (hn : acc.size = L.length) (h : ∀ (i : Nat) (e : Ent), L[i]? = some e → ∃ v : Value, acc[i]? = some v ∧ RelV (f e) v) : Vals (L.map f) acc.toList := by
  have key : ∀ (M : List Ent) (l : List Value), l.length = M.length → (∀ (i : Nat) (e : Ent), M[i]? = some e → ∃ v : Value, l[i]? = some v ∧ RelV (f e) v) → Vals (M.map f) l := by
    intro M
    induction M with
    | nil => intro l hl _; obtain rfl := List.eq_nil_of_length_eq_zero hl; exact .nil
    | cons e M ih =>
      intro l hl hh
      cases l with
      | nil => cases hl
      | cons v l =>
        obtain ⟨v', e1, r⟩ := hh 0 e rfl
        simp only [List.getElem?_cons_zero, Option.some.injEq] at e1
        subst e1
        exact .cons r (ih l (by simpa using hl) fun i e h => hh (i + 1) e (by simpa using h))
  refine key L acc.toList (by rw [Array.length_toList]; exact hn) fun i e he => ?_
  obtain ⟨v, h1, h2⟩ := h i e he
  exact ⟨v, by rw [Array.getElem?_toList]; exact h1, h2⟩
/-- list(d) -/
theorem call_listT (hc : X.calm = true) : CallR X (.type "list") (fun xs H Q => ∃ (a : Addr) (ob : Obj) (L : List Ent), xs = [.ref a] ∧ H a = some (dictH X.w a ob L) ∧ ∀ p, H p = none → Q (.ref p) (upd H p (.lst (L.map keyV)))) := by
  intro pins s σ H xs us Q I r h
  obtain ⟨a, ob, L, rfl, e, q⟩ := h
  obtain ⟨u, rfl, rx⟩ := r.one
  cases rx
  obtain ⟨hs, hx, ho, es, ep, hdt, hsz, z, ent⟩ := dic_ents (dic_at I.hok e)
  refine PySem.W.kdl_call (kdl_raw hs hx hdt) (I.ok.hd hc) ho (by omega) fun h' tk acc' c' kp e it => ?_
  have rv : Vals (L.map keyV) acc'.toList := vals_of (by rw [it.1, hsz]) fun i e he => by
    obtain ⟨en, h1, h2, _⟩ := ent i e he
    have hi : i < acc'.size := by
      rw [it.1]
      exact (Array.getElem?_eq_some_iff.mp h1).1
    obtain ⟨en', h3, h4⟩ := it.2 i _ (Array.getElem?_eq_getElem hi)
    rw [h1] at h3
    cases h3
    exact ⟨_, Array.getElem?_eq_getElem hi, by rw [h4]; exact h2⟩
  refine ⟨.ref s.heap.objs.size, _, I.laid (t' := tk) (o := .lst (L.map keyV)) kp (Nat.le_refl _) ?_, rfl, q _ (I.hok.fresh (Nat.le_refl _))⟩
  exact ⟨by rw [List.length_map]; exact z, acc'.toList, c', rv, by rw [Array.toArray_toList]; exact e⟩
/-- len(d) -/
theorem call_lenT : CallR X (.builtin "len") (fun xs H Q => ∃ (a : Addr) (ob : Obj) (L : List Ent), xs = [.ref a] ∧ H a = some (dictH X.w a ob L) ∧ Q (.int (L.length : Nat)) H) := by
  intro pins s σ H xs us Q I r h
  obtain ⟨a, ob, L, rfl, e, q⟩ := h
  obtain ⟨u, rfl, rx⟩ := r.one
  cases rx
  obtain ⟨hs, hx, ho, es, ep, hdt, hsz, z, ent⟩ := dic_ents (dic_at I.hok e)
  have raw : s.heap.DictRaw a es ep := ⟨ob, ho, hx, hdt⟩
  have z2 : es.size ≤ 16777216 := by rw [hsz]; exact z
  refine PySem.Calls.call_function_entry kind_len plain_len entry_len (args_len1 _) ?_
  unfold Builtin.«len»
  refine wpAny_bind (m := oneArg "len" _) (wpAny_pure ?_)
  refine wpAny_bind (m := callSpecial? (.ref a) (Str.ofString "__len__")) (wpAny_callSpecial?_slot (name := Str.ofString "__len__") raw.typeIs F.slot_dict_len (call_len_raw hs raw ?_))
  show wpAny _ _ _ _ _ { s with toks := s.toks + 1 }
  refine wpAny_bind (wpAny_holding (wpAny_pure ?_))
  refine wpAny_bind (wpAny_letGo ?_)
  show wpAny _ _ (if ((es.size : Nat) : Int) < 0 then _ else _) _ _ _
  rw [if_neg (by omega)]
  show wpAny _ _ (if ((es.size : Nat) : Int) ≥ 2 ^ 63 then _ else _) _ _ _
  rw [if_neg (by omega)]
  exact wpAny_bind (wpAny_mkInt (wpAny_pure ⟨_, rfl, ⟨.int (L.length : Nat), H, I.tok _, ⟨_, by rw [hsz]⟩, q⟩⟩))
theorem RepD.findK {K : PySem.W.Frag} {w : World} {F : Hp} {k : AV} {nk : Key} (hk : keyA k = some nk) : ∀ {L : List (Key × V)} {kvs : List (AV × AV)}, RepD K w F false (emK L) kvs → (dget kvs k = none ∧ valV L nk = none) ∨ ∃ v vv, dget kvs k = some v ∧ valV L nk = some vv ∧ Rep K w F vv v
  | [], _, .nil => .inl ⟨rfl, rfl⟩
  | (nk', vv) :: L, _, .cons (v := v) h r1 r => by
    rw [dget, keyA_eqv h hk]
    by_cases e : nk' = nk
    · rw [if_pos (decide_eq_true e), valV_pos (p := (nk', vv)) e]
      exact .inr ⟨v, vv, rfl, rfl, r1⟩
    · rw [if_neg (fun z => e (of_decide_eq_true z)), valV_neg (p := (nk', vv)) e]
      exact RepD.findK hk r
theorem RepD.findT {K : PySem.W.Frag} {w : World} {F : Hp} {k : AV} {nk : NestedKey} (hk : keyT k = some nk) : ∀ {L : List (NestedKey × Addr × V)} {kvs : List (AV × AV)}, RepD K w F true (emT L) kvs → (dget kvs k = none ∧ (L.find? fun p => decide (p.1 = nk)).map (·.2.2) = none) ∨ ∃ v vv, dget kvs k = some v ∧ (L.find? fun p => decide (p.1 = nk)).map (·.2.2) = some vv ∧ Rep K w F vv v
  | [], _, .nil => .inl ⟨rfl, rfl⟩
  | (nk', b, vv) :: L, _, .consT (v := v) h _ r1 r => by
    rw [dget, keyT_eqv h hk]
    by_cases e : nk' = nk
    · rw [if_pos (decide_eq_true e), List.find?_cons_of_pos (by simpa using e)]
      exact .inr ⟨v, vv, rfl, rfl, r1⟩
    · rw [if_neg (fun z => e (of_decide_eq_true z)), List.find?_cons_of_neg (by simpa using e)]
      exact RepD.findT hk r
section
variable {A : Around} {E : Value → Shared → Prop} {a : Addr} {ep : Obj} {tk : Bool} {L : List Ent} {kvs : List (AV × AV)} {k : AV} {y : V} {u : Value}
theorem dict_in {Q : Value → Shared → Prop} (hu : A.units + 9 < cLine) (I : Inv X pins σ H s) (hF : Same F H) (e : H a = some (dictH X.w a ep L)) (r : RepD X.K X.w F tk L kvs) (hk : kindOk kvs k = true) (ry : Rep X.K X.w F y k) (rv : RelV y u) (neg : Bool)
    (h : ∀ s', Inv X pins σ H s' → Q (.bool (if neg then !(dget kvs k).isSome else (dget kvs k).isSome)) s') : wpAny (model X.prog X.w) A (compareOp (if neg then .NotIn else .In) u (.ref a)) Q E s := by
  rcases r.kind hk with ⟨hc, r⟩ | ⟨hc, r⟩
  · obtain ⟨nk, hk⟩ := keyA_leaf hc
    obtain rfl := keyA_rep hk ry
    obtain ⟨L0, rfl⟩ := r.isK
    obtain ⟨_, hd, vs, rel, dd⟩ := dk_ok I e
    have hs : (valV L0 nk).isSome = (dget kvs k).isSome := by
      rcases r.findK hk with ⟨h1, h2⟩ | ⟨v, vv, h1, h2, _⟩ <;> rw [h1, h2] <;> rfl
    cases neg with
    | false =>
      refine wpAny_in_of (kV_is rv) hd dd.mapOf ?_
      rw [← (rel.val nk).isSome_eq, hs]
      exact h _ (I.tok _)
    | true =>
      refine wpAny_notIn_of (kV_is rv) hd dd.mapOf ?_
      rw [← (rel.val nk).isSome_eq, hs]
      exact h _ (I.tok _)
  · obtain ⟨nk, hk⟩ := tupKey_ok hc
    obtain ⟨L0, rfl⟩ := r.isT
    obtain ⟨b, rfl⟩ := rep_ref hk ry
    cases (show u = Value.ref b from rv)
    obtain ⟨z, hd, xs, rel, dd⟩ := dt_ok I hF e r
    have q : ((L0.find? fun p => decide (p.1 = nk)).map (·.2.2)).isSome = (atKey xs nk).isSome := by rw [(ent_val rel nk).isSome_eq, Option.isSome_map]
    have hs : (atKey xs nk).isSome = (dget kvs k).isSome := by
      rw [← q]
      rcases r.findT hk with ⟨h1, h2⟩ | ⟨v, vv, h1, h2, _⟩ <;> rw [h1, h2] <;> rfl
    have hroom : A.in1.units + 8 < cLine := by show A.units + 1 + 8 < cLine; omega
    cases neg with
    | false =>
      refine wpAny_in_heap (knd := knd X) hroom (key_is I hF hk ry) hd dd ?_
      rw [hs]
      exact h _ (I.tok _)
    | true =>
      refine wpAny_notIn_heap (knd := knd X) hroom (key_is I hF hk ry) hd dd ?_
      rw [hs]
      exact h _ (I.tok _)
theorem dict_get {Q : Value → Shared → Prop} {v : AV} (hu : A.units + 9 < cLine) (I : Inv X pins σ H s) (hF : Same F H) (e : H a = some (dictH X.w a ep L)) (r : RepD X.K X.w F tk L kvs) (hk : kindOk kvs k = true) (ry : Rep X.K X.w F y k) (rv : RelV y u) (hg : dget kvs k = some v)
    (h : ∀ s' vv w', Inv X pins σ H s' → Rep X.K X.w F vv v → RelV vv w' → Q w' s') : wpAny (model X.prog X.w) A (getItem (.ref a) u) Q E s := by
  rcases r.kind hk with ⟨hc, r⟩ | ⟨hc, r⟩
  · obtain ⟨nk, hk⟩ := keyA_leaf hc
    obtain rfl := keyA_rep hk ry
    obtain ⟨L0, rfl⟩ := r.isK
    obtain ⟨_, hd, vs, rel, dd⟩ := dk_ok I e
    rcases r.findK hk with ⟨h1, h2⟩ | ⟨v', vv, h1, h2, h3⟩
    · rw [hg] at h1; cases h1
    · rw [hg] at h1
      cases h1
      have q := rel.val nk
      rw [h2] at q
      obtain ⟨w', hw, rw'⟩ := RelO.some_of q
      exact wpAny_getItem_of (kV_is rv) dd.mapOf hw (h _ vv w' (I.tok _) h3 rw')
  · obtain ⟨nk, hk⟩ := tupKey_ok hc
    obtain ⟨L0, rfl⟩ := r.isT
    obtain ⟨b, rfl⟩ := rep_ref hk ry
    cases (show u = Value.ref b from rv)
    obtain ⟨z, hd, xs, rel, dd⟩ := dt_ok I hF e r
    rcases r.findT hk with ⟨h1, h2⟩ | ⟨v', vv, h1, h2, h3⟩
    · rw [hg] at h1; cases h1
    · rw [hg] at h1
      cases h1
      have hroom : A.in1.units + 8 < cLine := by show A.units + 1 + 8 < cLine; omega
      have q := ent_val rel nk
      rw [h2] at q
      obtain ⟨w', hw, rw'⟩ := RelO.some_of q
      obtain ⟨p, hp, hp2⟩ := Option.map_eq_some_iff.mp hw
      refine wpAny_getItem_heap (knd := knd X) hroom (key_is I hF hk ry) dd hp ?_
      rw [hp2]
      exact h _ vv w' (I.tok _) h3 rw'
theorem dict_is (I : Inv X pins σ H s) (hF : Same F H) (e : H a = some (dictH X.w a ep L)) (r : RepD X.K X.w F tk L kvs) : s.TypeIs (.ref a) "dict" := by
  obtain ⟨_, hx, ho, _⟩ := dic_ents (dic_at I.hok e)
  exact ⟨_, ho, hx.1⟩
end
end
end Ev
end
section
set_option linter.all false
set_option autoImplicit false
set_option maxRecDepth 100000
set_option maxHeartbeats 2000000
/-! EvDd: a dict display of one entry. -/
namespace Ev
open PySem PySem.Spec PyProof.Rows L2
/-- {k: v} -/
def tD1 (X : Cx) (tk tv : TE) : TE := fun σ H Q => ∀ p, H p = none → tk σ (upd H p (.dK [])) fun x H1 => tv σ H1 fun y H2 => ∃ (F : Hp) (ka : AV), Same F H2 ∧ F p ≠ some (.dK []) ∧ H2 p = some (.dK []) ∧ kindOk [] ka = true ∧ Rep X.K X.w F x ka ∧
  ∀ (L : List Ent) (t : Bool), (∀ va, Rep X.K X.w F y va → RepD X.K X.w F t L [(ka, va)]) → ∀ ob, Q (.ref p) (upd H2 p (dictH X.w p ob L))
theorem pe_dict1 {X : Cx} {k v : Expr} {pos : Pos} {tk tv : TE} (hu : X.A.units + 64 < cLine) (hk : PE X k tk) (hv : PE X v tv) : PE X (.Dict [some k] [v] pos) (tD1 X tk tv) := by
  refine ⟨fun pins s σ H Q I q => ?_⟩
  have hn := I.hok.fresh (Nat.le_refl s.heap.objs.size)
  have I1 := I.laid (a := s.heap.objs.size) (o := .dK []) (h' := s.heap.push { cls := .type "dict", data := .dict #[] }) (t' := s.toks) (fun _ _ q => Heap.get?_push_of_some _ q) (Nat.le_refl _) (dk_empty s.heap I.big)
  refine wpAny_Dict_any rfl rfl (by simp) (by simp) (pairTrees_cons_walk (thn (hk.run pins _ σ _ _ I1 (q _ hn)) fun u s1 ⟨x, H1, I2, rx, q1⟩ => thn (hv.run pins s1 σ H1 _ I2 q1) fun u2 s2 ⟨y, H2, I3, ry, F, ka, hF, hnF, hp, hka, rk, q2⟩ => pairTrees_nil_walk ?_))
  unfold storeAll
  rw [List.forIn_cons]
  have hc : leafK ka = true ∨ tupKey ka = true := by
    have h : (leafK ka || tupKey ka) = true := hka
    rwa [Bool.or_eq_true] at h
  rcases hc with hc | hc
  · obtain ⟨nk, hnk⟩ := keyA_leaf hc
    obtain rfl := keyA_rep hnk rk
    obtain ⟨z, hd, vs, rel, dd⟩ := dk_of I3.hok hp
    cases rel
    refine wpAny_bind (wpAny_bind (wpAny_dictSet_pairs (knd := mixKind X.prog X.w) (hsz := Nat.zero_le _) (kV_is rx) dd fun h' dd' hs => wpAny_pure ?_))
    dsimp only
    rw [List.forIn_nil]
    obtain ⟨ob, d'⟩ := dk_out (L := [(nk, y)]) (by simp [sizeLine_eq]) hd (KV.put .nil nk ry) dd'
    have hw := d_write (t' := s2.toks + 1) I3 (by rw [hp]; exact True.intro) hs ⟨ob, d'.2.2.1⟩ (dic_obj d')
    exact wpAny_pure ⟨.ref _, _, hw, rfl, q2 (emK [(nk, y)]) false (fun va r => .cons hnk r .nil) ob⟩
  · obtain ⟨nk, hnk⟩ := tupKey_ok hc
    obtain ⟨b, rfl⟩ := rep_ref hnk rk
    cases (show u = Value.ref b from rx)
    obtain ⟨o0, I3'⟩ := todict I3 hp
    have h0 : (upd H2 s.heap.objs.size (dictH X.w s.heap.objs.size o0 (emK []))) s.heap.objs.size = some (dictH X.w s.heap.objs.size o0 (emT [])) := upd_same
    have hF3 : Same F (upd H2 s.heap.objs.size (dictH X.w s.heap.objs.size o0 (emK []))) := fun b u q => by
      have hb : b ≠ s.heap.objs.size := fun z => by
        subst z
        have q2 := hF _ _ q
        rw [hp] at q2
        cases q2
        exact hnF q
      rw [upd_ne hb]
      exact hF _ _ q
    obtain ⟨z, hd, xs, rel, dd⟩ := dt_ok (X := X) (F := F) (L := []) (kvs := []) I3' hF3 h0 .nil
    cases rel
    refine wpAny_bind (wpAny_bind (wpAny_dictSet_heap (knd := knd X) (hsz := Nat.zero_le _) (show X.A.units + 8 < cLine by omega) (key_is I3 hF hnk rk) dd fun h' dd' hs => wpAny_pure ?_))
    dsimp only
    rw [List.forIn_nil]
    obtain ⟨ob, d'⟩ := dt_out (L := [(nk, b, y)]) rfl (by simp [sizeLine_eq]) hd (.cons ⟨rfl, rfl, ry⟩ .nil) dd'
    have hw := d_write (t' := s2.toks + (knd X).draws nk) I3 (by rw [hp]; exact True.intro) hs ⟨ob, d'.2.2.1⟩ (dic_obj d')
    exact wpAny_pure ⟨.ref _, _, hw, rfl, q2 (emT [(nk, b, y)]) true (fun va r => .consT hnk rk r .nil) ob⟩
section
variable {K : PySem.W.Frag} {w : World} {IO : List (Nat × Addr)} {F0 F B H : Hp} {O : Sl} {σ : L2.St} {env : Env}
theorem SR.frz {p : Addr} {o : HO} (S : SR K w IO F0 F B O σ H env) (hF : F p = none) (hB : B p = none) (hH : H p = some o) (hn : NoSlot O σ env p) : SR K w IO F0 (upd F p o) B O σ H env where
  fh := fun b u e => by
    by_cases hb : b = p
    · subst hb; rw [upd_same] at e; cases e; exact hH
    · rw [upd_ne hb] at e; exact S.fh _ _ e
  bh := S.bh
  f0 := S.f0.trans (same_upd' hF)
  fb := fun b u e => by
    by_cases hb : b = p
    · subst hb; exact .inr hB
    · rw [upd_ne hb] at e; exact S.fb _ _ e
  slot := fun i d e => by
    obtain ⟨v, h1, h2, h3⟩ := S.slot i d e
    refine ⟨v, h1, fun q => (h2 q).at (same_upd' hF) fun b u eb hm f1 f2 f3 => ?_, fun q => (h3 q).mono (same_upd' hF)⟩
    have hb : b ≠ p := fun z => hn i q d e hm (by rw [h1, eb, z])
    exact ⟨by rw [upd_ne hb]; exact f1, f2, f3⟩
  apart := S.apart
  len := S.len
  io := S.io
end
section
variable {cal : Cal} {c : Cx} {k v : Expr} {a b : X} {pos : Pos}
theorem ok_dict1 (hu : c.A.units + 64 < cLine) (ha : OkE cal c k a) (hb : OkE cal c v b) : OkE cal c (.Dict [some k] [v] pos) (.dict (.kv a b .nil)) :=
  OkE.of rfl fun m => (pe_dict1 hu (ha.pe .val) (hb.pe .val)).imp fun σ H Q q => by
    obtain ⟨IO, F0, F, B, O, env, d, env', O', S, e, o, q⟩ := q
    obtain ⟨⟨kvs, e0⟩, e5, e9⟩ := R.bind_eq_ok (show (evDs cal (.kv a b .nil) [] env >>= fun p => R.ok (PyData.dict p.1, p.2)) = .ok (d, env') from e)
    cases e9
    clear e
    obtain ⟨⟨da, e1⟩, ea, e⟩ := R.bind_eq_ok (show (evE cal a env >>= fun p => evE cal b p.2 >>= fun p2 => dput' [] p.1 p2.1 >>= fun kvs => R.ok (kvs, p2.2)) = .ok (kvs, e0) from e5)
    obtain ⟨⟨db, e2⟩, eb, e⟩ := R.bind_eq_ok e
    obtain ⟨kvs', ed, e⟩ := R.bind_eq_ok e
    cases e
    unfold dput' at ed
    split at ed
    · rename_i hc
      cases ed
      simp only [Bool.and_eq_true, decide_eq_true_eq] at hc
      rw [owM_nv rfl] at o
      obtain ⟨O1, oa, o⟩ := andThen_some (show andThen (owE O a) (fun O1 => andThen (owE O1 b) fun O2 => some O2) = some O' from o)
      obtain ⟨O2, ob, o⟩ := andThen_some o
      cases o
      intro p hp
      have hFp : F p = none := S.fh.free hp
      have hBp : B p = none := S.bh.free hp
      have S1 := S.put (a := p) (o := .dK []) hFp (S.noSlot (.inr (.inr hp)))
      refine ⟨IO, F0, F, upd B p (.dK []), O, env, da, e1, O1, S1, ea, oa, fun va F1 H1 p1 r1 => ⟨IO, F0, F1, upd B p (.dK []), O1, e1, db, _, _, p1.sr, eb, ob, fun vb F2 H2 p2 r2 => ?_⟩⟩
      have hp2 : H2 p = some (.dK []) := p2.sr.bh _ _ upd_same
      have hF2 : F2 p = none := by
        cases h : F2 p with
        | none => rfl
        | some u =>
          rcases p2.sr.fb p u h with z | z
          · rw [S.f0 _ _ z] at hFp; cases hFp
          · rw [upd_same] at z; cases z
      refine ⟨F2, da, p2.sr.fh, by rw [hF2]; exact (fun z => by cases z), hp2, hc.1, Rep.mono p2.ff r1, fun L t hL ob => ?_⟩
      have rL := hL db r2
      have hns := p2.sr.noSlot (a := p) (.inr (.inl (by rw [upd_same]; exact fun z => by cases z)))
      have S3 := (p2.sr.put (a := p) (o := dictH c.w p ob L) hF2 hns).less (B := B) fun b u q => by
        have hb := ne_of_none q hBp
        rw [upd_ne hb, upd_ne hb]; exact q
      have hh : prE (.dict (.kv a b .nil)) = true → Same H (upd H2 p (dictH c.w p ob L)) := fun h => by
        have h : (prE a && prE b && true) = true := h
        rw [Bool.and_true, Bool.and_eq_true] at h
        intro b u q
        have hb := ne_of_none q hp
        rw [upd_ne hb]
        exact p2.hh h.2 _ _ (p1.hh h.1 _ _ (by rw [upd_ne hb]; exact q))
      have frz : ∀ F3, F3 = upd F2 p (dictH c.w p ob L) → Rep c.K c.w F3 (.ref p) (.dict [(da, db)]) ∧ Pst c.K c.w IO F0 F B _ σ H _ (prE (.dict (.kv a b .nil))) F3 (upd H2 p (dictH c.w p ob L)) := fun F3 h => by
        subst h
        exact ⟨.dct upd_same (rL.mono (same_upd' hF2)), S3.frz hF2 hBp upd_same hns, (p1.ff.trans p2.ff).trans (same_upd' hF2), hh⟩
      cases m with
      | val => exact q _ _ _ (frz _ rfl).2 (frz _ rfl).1
      | opd => exact q _ _ _ (frz _ rfl).2 ⟨(frz _ rfl).1.opd (frz _ rfl).2.sr.fh, (frz _ rfl).1.ob⟩
      | new => exact q _ F2 _ ⟨S3, p1.ff.trans p2.ff, hh⟩ ⟨⟨p, ob, L, t, rfl, hF2, hBp, upd_same, rL⟩, fun a e _ => by cases e; exact hns⟩
    · cases ed
end
end Ev
end
section
set_option linter.all false
set_option autoImplicit false
set_option maxRecDepth 100000
set_option maxHeartbeats 2000000
/-! EvDg: d.get(k), d.get(k, x). -/
namespace Ev
open PySem PySem.Spec PyProof.Rows L2
/-- at a stands a dict -/
def DcR (X : Cx) (F H : Hp) (a : Addr) (kvs : List (AV × AV)) : Prop := Same F H ∧ ∃ ep L tk, H a = some (dictH X.w a ep L) ∧ RepD X.K X.w F tk L kvs
section
variable {X : Cx} {pins : List (Addr × Obj)} {σ : L2.St} {H F : Hp} {s : Shared} {A : Around} {E : Value → Shared → Prop} {a : Addr} {kvs : List (AV × AV)} {k : AV} {y z : V} {u r : Value}
theorem DcR.at (I : Inv X pins σ H s) (h : DcR X F H a kvs) : s.TypeIs (.ref a) "dict" ∧ (∀ b, Value.ref a = .ref b → ∃ ob, s.heap.get? b = some ob ∧ ob.dict = none) := by
  obtain ⟨hF, ep, L, tk, e, rd⟩ := h
  obtain ⟨_, hx, ho, _⟩ := dic_ents (dic_at I.hok e)
  refine ⟨⟨_, ho, hx.1⟩, fun b q => ?_⟩
  cases q
  exact ⟨_, ho, hx.2.1⟩
theorem dict_get1 {Q : Value → Shared → Prop} (hu : A.units + 9 < cLine) (I : Inv X pins σ H s) (hd : DcR X F H a kvs) (hk : kindOk kvs k = true) (ry : Rep X.K X.w F y k) (rv : RelV y u)
    (h : ∀ s' vv w', Inv X pins σ H s' → Rep X.K X.w F vv ((dget kvs k).getD .none) → RelV vv w' → Q w' s') : wpAny (model X.prog X.w) A (call (.builtin "dict.get") [.ref a, u]) Q E s := by
  obtain ⟨hF, ep, L, tk, e, rd⟩ := hd
  rcases rd.kind hk with ⟨hc, rd⟩ | ⟨hc, rd⟩
  · obtain ⟨nk, hk⟩ := keyA_leaf hc
    obtain rfl := keyA_rep hk ry
    obtain ⟨L0, rfl⟩ := rd.isK
    obtain ⟨_, hs, vs, rel, dd⟩ := dk_ok I e
    refine call_meetsIn PySem.F.slot_dict_get dd.typeIs PySem.F.entry_dict_get (PySem.F.args_dict_get_2 _ _) (meets_dict_get (mixKind X.prog X.w) a (kV_is rv) hs) ⟨_, dd.mapOf, h _ ((valV L0 nk).getD .non) _ (I.tok _) ?_ ((rel.val nk).getD rfl)⟩
    rcases rd.findK hk with ⟨h1, h2⟩ | ⟨v, vv, h1, h2, h3⟩
    · rw [h1, h2]; exact .non
    · rw [h1, h2]; exact h3
  · obtain ⟨nk, hk⟩ := tupKey_ok hc
    obtain ⟨L0, rfl⟩ := rd.isT
    obtain ⟨b, rfl⟩ := rep_ref hk ry
    cases (show u = Value.ref b from rv)
    obtain ⟨z, hs, xs, rel, dd⟩ := dt_ok I hF e rd
    have hroom : A.in1.units + 8 < cLine := by show A.units + 1 + 8 < cLine; omega
    refine call_meetsIn PySem.F.slot_dict_get dd.typeIs PySem.F.entry_dict_get (PySem.F.args_dict_get_2 _ _) (meetsH_dict_get (knd X) a b hs) ⟨hroom, nk, xs, key_is I hF hk ry, dd, h _ (((L0.find? fun p => decide (p.1 = nk)).map (·.2.2)).getD .non) _ (I.tok _) ?_ ((ent_val rel nk).getD (show RelV V.non Value.none from rfl))⟩
    rcases rd.findT hk with ⟨h1, h2⟩ | ⟨v, vv, h1, h2, h3⟩
    · rw [h1, h2]; exact .non
    · rw [h1, h2]; exact h3
theorem dict_get2 {Q : Value → Shared → Prop} {dz : AV} (hu : A.units + 9 < cLine) (I : Inv X pins σ H s) (hd : DcR X F H a kvs) (hk : kindOk kvs k = true) (ry : Rep X.K X.w F y k) (rv : RelV y u) (rz : Rep X.K X.w F z dz) (rr : RelV z r)
    (h : ∀ s' vv w', Inv X pins σ H s' → Rep X.K X.w F vv ((dget kvs k).getD dz) → RelV vv w' → Q w' s') : wpAny (model X.prog X.w) A (call (.builtin "dict.get") [.ref a, u, r]) Q E s := by
  obtain ⟨hF, ep, L, tk, e, rd⟩ := hd
  rcases rd.kind hk with ⟨hc, rd⟩ | ⟨hc, rd⟩
  · obtain ⟨nk, hk⟩ := keyA_leaf hc
    obtain rfl := keyA_rep hk ry
    obtain ⟨L0, rfl⟩ := rd.isK
    obtain ⟨_, hs, vs, rel, dd⟩ := dk_ok I e
    refine call_meetsIn PySem.F.slot_dict_get dd.typeIs PySem.F.entry_dict_get (PySem.F.args_dict_get_3 _ _ _) (meets_dict_get_default (mixKind X.prog X.w) a (kV_is rv) hs r) ⟨_, dd.mapOf, h _ ((valV L0 nk).getD z) _ (I.tok _) ?_ ((rel.val nk).getD rr)⟩
    rcases rd.findK hk with ⟨h1, h2⟩ | ⟨v, vv, h1, h2, h3⟩
    · rw [h1, h2]; exact rz
    · rw [h1, h2]; exact h3
  · obtain ⟨nk, hk⟩ := tupKey_ok hc
    obtain ⟨L0, rfl⟩ := rd.isT
    obtain ⟨b, rfl⟩ := rep_ref hk ry
    cases (show u = Value.ref b from rv)
    obtain ⟨_, hs, xs, rel, dd⟩ := dt_ok I hF e rd
    have hroom : A.in1.units + 8 < cLine := by show A.units + 1 + 8 < cLine; omega
    refine call_meetsIn PySem.F.slot_dict_get dd.typeIs PySem.F.entry_dict_get (PySem.F.args_dict_get_3 _ _ _) (meetsH_dict_get_default (knd X) a b hs r) ⟨hroom, nk, xs, key_is I hF hk ry, dd, h _ (((L0.find? fun p => decide (p.1 = nk)).map (·.2.2)).getD z) _ (I.tok _) ?_ ((ent_val rel nk).getD rr)⟩
    rcases rd.findT hk with ⟨h1, h2⟩ | ⟨v, vv, h1, h2, h3⟩
    · rw [h1, h2]; exact rz
    · rw [h1, h2]; exact h3
end
def tG1 (X : Cx) (td ty : TE) : TE := fun σ H Q => td σ H fun x H1 => ∃ a, x = .ref a ∧ (∃ F kvs, DcR X F H1 a kvs) ∧ ty σ H1 fun y H2 => ∃ F kvs k, DcR X F H2 a kvs ∧ kindOk kvs k = true ∧ Rep X.K X.w F y k ∧ ∀ vv, Rep X.K X.w F vv ((dget kvs k).getD .none) → Q vv H2
def tG2 (X : Cx) (td ty tx : TE) : TE := fun σ H Q => td σ H fun x H1 => ∃ a, x = .ref a ∧ (∃ F kvs, DcR X F H1 a kvs) ∧ ty σ H1 fun y H2 => tx σ H2 fun z H3 => ∃ F kvs k dz, DcR X F H3 a kvs ∧ kindOk kvs k = true ∧ Rep X.K X.w F y k ∧ Rep X.K X.w F z dz ∧ ∀ vv, Rep X.K X.w F vv ((dget kvs k).getD dz) → Q vv H3
section
variable {X : Cx} {o e f : Expr} {apos cpos : Pos} {td ty tx : TE}
theorem pe_get1 (hu : X.A.units + 64 < cLine) (ho : PE X o td) (he : PE X e ty) (m : M1 X o "get" apos e cpos) : PE X (.Call (.Attribute o "get" apos) [e] [] cpos) (tG1 X td ty) := by
  refine ⟨fun pins s σ H Q I h => ?_⟩
  refine wpAny_Call_method m.base m.few m.line PySem.F.plainAttrs_dict PySem.F.slot_dict_get PySem.F.type_dict_get (thn (ho.run pins s σ H _ I h) fun u s1 ⟨x, H1, I1, rx, a, ex, ⟨F0, kv0, d⟩, q1⟩ => ?_)
  subst ex
  obtain rfl : u = Value.ref a := rx
  obtain ⟨t1, t2⟩ := d.at I1
  refine ⟨t1, t2, ?_⟩
  rw [m.trees]
  refine Calls.callWith_builtin rfl (Calls.evalArgs_plain (Calls.spliced_cons (thn (he.run pins s1 σ H1 _ I1 q1) fun iv s2 ⟨y, H2, I2, ry, F, kvs, k, g, hk, rk, q2⟩ => Calls.spliced_nil ?_)))
  exact dict_get1 (by omega) I2 g hk rk ry fun s3 vv w' I3 r1 r2 => ⟨vv, H2, I3, r2, q2 vv r1⟩
theorem pe_get2 (hu : X.A.units + 64 < cLine) (ho : PE X o td) (he : PE X e ty) (hf : PE X f tx) (m : M2 X o "get" apos e f cpos) : PE X (.Call (.Attribute o "get" apos) [e, f] [] cpos) (tG2 X td ty tx) := by
  refine ⟨fun pins s σ H Q I h => ?_⟩
  refine wpAny_Call_method m.base m.few m.line PySem.F.plainAttrs_dict PySem.F.slot_dict_get PySem.F.type_dict_get (thn (ho.run pins s σ H _ I h) fun u s1 ⟨x, H1, I1, rx, a, ex, ⟨F0, kv0, d⟩, q1⟩ => ?_)
  subst ex
  obtain rfl : u = Value.ref a := rx
  obtain ⟨t1, t2⟩ := d.at I1
  refine ⟨t1, t2, ?_⟩
  rw [m.trees]
  refine Calls.callWith_builtin rfl (Calls.evalArgs_plain (Calls.spliced_cons (thn (he.run pins s1 σ H1 _ I1 q1) fun iv s2 ⟨y, H2, I2, ry, q2⟩ =>
    Calls.spliced_cons (thn (hf.run pins s2 σ H2 _ I2 q2) fun fv s3 ⟨z, H3, I3, rz, F, kvs, k, dz, g, hk, rk, rd, q3⟩ => Calls.spliced_nil ?_))))
  exact dict_get2 (by omega) I3 g hk rk ry rd rz fun s4 vv w' I4 r1 r2 => ⟨vv, H3, I4, r2, q3 vv r1⟩
end
section
variable {cal : Cal} {c : Cx} {l r t : Expr} {a b d : X} {apos pos : Pos}
theorem ok_get1 (hu : c.A.units + 64 < cLine) (hm : M1 c l "get" apos r pos) (ha : OkE cal c l a) (hb : OkE cal c r b) : OkE cal c (.Call (.Attribute l "get" apos) [r] [] pos) (.meth .get1 a (.cons b .nil)) :=
  OkE.of rfl fun m => (pe_get1 hu (ha.pe (opM (prE b))) (hb.pe .val) hm).imp fun σ H Q q => by
    obtain ⟨IO, F0, F, B, O, env, d, env', O', S, e, o, q⟩ := q
    obtain ⟨⟨da, e1⟩, ea, e⟩ := R.bind_eq_ok (show (evE cal a env >>= fun p => (evE cal b p.2 >>= fun p2 => (R.ok ([], p2.2) : R (List AV × Env)) >>= fun p3 => R.ok (p2.1 :: p3.1, p3.2)) >>= fun p2 => mthop .get1 p.1 p2.1 >>= fun v => R.ok (v, p2.2)) = .ok (d, env') from e)
    obtain ⟨⟨dbs, e2⟩, eb0, e⟩ := R.bind_eq_ok e
    obtain ⟨⟨db, e3⟩, eb, e4⟩ := R.bind_eq_ok eb0
    obtain ⟨v, ev, e⟩ := R.bind_eq_ok e
    cases e
    cases e4
    rw [owM_nv rfl] at o
    obtain ⟨O1, oa, o⟩ := andThen_some (show andThen (if prE b && true then bor a O (owE O a) else owE O a) (fun O1 => andThen (owE O1 b) some) = some O' from o)
    obtain ⟨O2, ob, o⟩ := andThen_some o
    cases o
    refine ⟨IO, F0, F, B, O, env, da, e1, O1, S, ea, by rw [owM_opM]; rw [Bool.and_true] at oa; exact oa, fun va F1 H1 p1 r1 => ?_⟩
    cases da with
    | dict kvs =>
      have ev : (if kindOk kvs db = true then R.ok ((dget kvs db).getD .none) else .bad) = .ok d := ev
      split at ev
      · rename_i hk
        cases ev
        have o1 : Opd c.K c.w F1 H1 va (.dict kvs) := by
          cases hp : prE b with
          | true => rw [hp] at r1; exact r1.1
          | false => rw [hp] at r1; exact Rep.opd p1.sr.fh r1
        obtain ⟨ad, ep, L, tk, rfl, hq, hr⟩ := id o1
        refine ⟨ad, rfl, ⟨F1, kvs, p1.sr.fh, ep, L, tk, hq, hr⟩, IO, F0, F1, B, O1, e1, db, e3, O', p1.sr, eb, ob, fun vb F2 H2 p2 r2 => ?_⟩
        obtain ⟨ad', ep', L', tk', e', hq', hr'⟩ := opd_after r1 p2
        cases e'
        refine ⟨F2, kvs, db, ⟨p2.sr.fh, ep', L', tk', hq', hr'⟩, hk, r2, fun vv rv => ?_⟩
        have hn : isNew m (.meth .get1 a (.cons b .nil)) = false := by cases m <;> rfl
        have R := res_of (.inr rfl) p2.sr (p1.ff.trans p2.ff) (fun h => by
          have h : (prE a && (prE b && true)) = true := h
          simp only [Bool.and_eq_true, and_true] at h
          exact (p1.hh h.1).trans (p2.hh h.2)) q
        rw [hn] at R
        exact R.old p2.sr.fh rv
      · cases ev
    | _ => cases ev
theorem ok_get2 (hu : c.A.units + 64 < cLine) (hm : M2 c l "get" apos r t pos) (ha : OkE cal c l a) (hb : OkE cal c r b) (hd : OkE cal c t d) : OkE cal c (.Call (.Attribute l "get" apos) [r, t] [] pos) (.meth .get2 a (.cons b (.cons d .nil))) :=
  OkE.of rfl fun m => (pe_get2 hu (ha.pe (opM (prE b && prE d))) (hb.pe .val) (hd.pe .val) hm).imp fun σ H Q q => by
    obtain ⟨IO, F0, F, B, O, env, v, env', O', S, e, o, q⟩ := q
    obtain ⟨⟨da, e1⟩, ea, e⟩ := R.bind_eq_ok (show (evE cal a env >>= fun p => (evE cal b p.2 >>= fun p2 => (evE cal d p2.2 >>= fun p5 => (R.ok ([], p5.2) : R (List AV × Env)) >>= fun p6 => R.ok (p5.1 :: p6.1, p6.2)) >>= fun p3 => R.ok (p2.1 :: p3.1, p3.2)) >>= fun p2 => mthop .get2 p.1 p2.1 >>= fun v => R.ok (v, p2.2)) = .ok (v, env') from e)
    obtain ⟨⟨dbs, e2⟩, eb0, e⟩ := R.bind_eq_ok e
    obtain ⟨⟨db, e3⟩, eb, eb1⟩ := R.bind_eq_ok eb0
    obtain ⟨⟨dds, e4⟩, ed0, eb2⟩ := R.bind_eq_ok eb1
    obtain ⟨⟨dd, e5⟩, ed, ed1⟩ := R.bind_eq_ok ed0
    obtain ⟨v', ev, e⟩ := R.bind_eq_ok e
    cases e
    cases ed1
    cases eb2
    rw [owM_nv rfl] at o
    obtain ⟨O1, oa, o⟩ := andThen_some (show andThen (if prE b && (prE d && true) then bor a O (owE O a) else owE O a) (fun O1 => andThen (owE O1 b) fun O2 => andThen (owE O2 d) some) = some O' from o)
    obtain ⟨O2, ob, o⟩ := andThen_some o
    obtain ⟨O3, od, o⟩ := andThen_some o
    cases o
    refine ⟨IO, F0, F, B, O, env, da, e1, O1, S, ea, by rw [Bool.and_true] at oa; cases hp : (prE b && prE d) <;> rw [hp] at oa <;> exact oa, fun va F1 H1 p1 r1 => ?_⟩
    cases da with
    | dict kvs =>
      have ev : (if kindOk kvs db = true then R.ok ((dget kvs db).getD dd) else .bad) = .ok v := ev
      split at ev
      · rename_i hk
        cases ev
        have o1 : Opd c.K c.w F1 H1 va (.dict kvs) := by
          cases hp : (prE b && prE d) with
          | true => rw [hp] at r1; exact r1.1
          | false => rw [hp] at r1; exact Rep.opd p1.sr.fh r1
        obtain ⟨ad, ep, L, tk, rfl, hq, hr⟩ := id o1
        refine ⟨ad, rfl, ⟨F1, kvs, p1.sr.fh, ep, L, tk, hq, hr⟩, IO, F0, F1, B, O1, e1, db, e3, O2, p1.sr, eb, ob, fun vb F2 H2 p2 r2 => ⟨IO, F0, F2, B, O2, e3, dd, _, _, p2.sr, ed, od, fun vd F3 H3 p3 r3 => ?_⟩⟩
        have o3 : Opd c.K c.w F3 H3 (.ref ad) (.dict kvs) := by
          cases hp : (prE b && prE d) with
          | true =>
            rw [hp] at r1
            rw [Bool.and_eq_true] at hp
            exact Opd.ext p3.ff (p3.hh hp.2) (Opd.ext p2.ff (p2.hh hp.1) r1.1)
          | false =>
            rw [hp] at r1
            exact Rep.opd p3.sr.fh (Rep.mono (p2.ff.trans p3.ff) r1)
        obtain ⟨ad', ep', L', tk', e', hq', hr'⟩ := o3
        cases e'
        refine ⟨F3, kvs, db, dd, ⟨p3.sr.fh, ep', L', tk', hq', hr'⟩, hk, Rep.mono p3.ff r2, r3, fun vv rv => ?_⟩
        have hn : isNew m (.meth .get2 a (.cons b (.cons d .nil))) = false := by cases m <;> rfl
        have R := res_of (.inr rfl) p3.sr ((p1.ff.trans p2.ff).trans p3.ff) (fun h => by
          have h : (prE a && (prE b && (prE d && true))) = true := h
          simp only [Bool.and_eq_true, and_true] at h
          exact ((p1.hh h.1).trans (p2.hh h.2.1)).trans (p3.hh h.2.2)) q
        rw [hn] at R
        exact R.old p3.sr.fh rv
      · cases ev
    | _ => cases ev
end
end Ev
end
section
set_option linter.all false
set_option autoImplicit false
set_option maxRecDepth 100000
set_option maxHeartbeats 2000000
/-! EvDs: {**d, k: v}. -/
namespace Ev
open PySem PySem.Spec PyProof.Rows L2
section
variable {prog : Program} {w : World} {K : Type} [DecidableEq K] {knd : KeyKind prog w K} {A : Around} {E : Value → Shared → Prop} {s : Shared}
theorem wpAny_dictPut_pairs {d : Addr} {kvs : List (K × Value)} {k : K} {h : Int} {key v : Value} {Q : Unit → Shared → Prop} (hkey : knd.is k key = true) (hh : h = knd.hash k) (hm : s.heap.DictOf knd d kvs)
    (hQ : ∀ h', h'.DictOf knd d (stored kvs k v) → Heap.SameBut d s.heap h' → Q () { s with heap := h' })
    (hsz : kvs.length ≤ sizeLine) :
    wpAny (model prog w) A (dictPut d h key v) Q E s := by
  subst hh
  obtain ⟨o, es, ep, ho, hc, hd, hk, hp, hn⟩ := hm
  have hes : es.size ≤ sizeLine := by have e1 := hp.length; have e2 : es.toList.length = es.size := by simp
                                      omega
  unfold dictPut
  refine wpAny_bind (wpAny_dictFind_of hkey ho hd hk ?_)
  have hidx : (es.findIdx? fun e => knd.is k e.key) = kvs.findIdx? fun kv => decide (kv.1 = k) := by
    rw [← hp.findIdx k]; obtain ⟨l⟩ := es; simp
  cases hi : es.findIdx? fun e => knd.is k e.key with
  | some i =>
    refine wpAny_updateDict ho hd (hQ _ ⟨_, _, ep, Heap.get?_update_self _ ho (Obj.isFreed_of_dict (Obj.data_mapDict hd _)),
      hc.mapDict _, Obj.data_mapDict hd _, hk.modify _ _, ?_, ?_⟩ (Heap.SameBut.update ..))
    · rw [stored, if_pos (any_of_findIdx_some (hidx ▸ hi))]
      have hl : (es.toList.findIdx? fun e => knd.is k e.key) = some i := by rw [← hi]; obtain ⟨l⟩ := es; simp
      have := hp.modify hn hl v
      obtain ⟨l⟩ := es
      simpa using this
    · rw [stored, if_pos (any_of_findIdx_some (hidx ▸ hi)), keys_map_store]; exact hn
  | none =>
    have hnot : k ∉ kvs.map (·.1) := not_mem_of_findIdx_none (hidx ▸ hi)
    have hany : ¬ (kvs.any fun kv => decide (kv.1 = k)) = true := by
      rw [List.any_eq_true]; rintro ⟨kv, hkv, he⟩
      exact hnot (List.mem_map.mpr ⟨kv, hkv, of_decide_eq_true he⟩)
    refine wpAny_updateDictKeys (hz := hes) ho hd (hQ _ ⟨_, _, ep + 1, Heap.get?_update_self _ ho (Obj.isFreed_of_dict (Obj.data_mapDictKeys hd _)),
      hc.mapDictKeys _, Obj.data_mapDictKeys hd _, hk.push hkey _, ?_, ?_⟩ (Heap.SameBut.update ..))
    · rw [stored, if_neg hany]
      have := hp.append hkey (knd.hash k) v
      obtain ⟨l⟩ := es
      simpa using this
    · rw [stored, if_neg hany, List.map_append, List.nodup_append]
      refine ⟨hn, by simp, ?_⟩
      intro a ha b hb
      simp only [List.map_cons, List.map_nil, List.mem_singleton] at hb
      subst hb
      exact fun e => hnot (e ▸ ha)
theorem wpAny_merge_pairs {d a : Addr} {kvs more : List (K × Value)} {Q : Unit → Shared → Prop} (hne : a ≠ d) (hs : (a == sysModules) = false) (hm : s.heap.DictOf knd d kvs) (ha : s.heap.DictOf knd a more)
    (hQ : ∀ h', h'.DictOf knd d (merged kvs more) → Heap.SameBut d s.heap h' → Q () { s with heap := h' })
    (hsz : kvs.length + more.length ≤ sizeLine) :
    wpAny (model prog w) A (mergeMapping d (.ref a) false) Q E s := by
  obtain ⟨oa, ea, epa, hoa, hca, hda, hka, hpa, hna⟩ := id ha
  unfold mergeMapping
  refine wpAny_bind (wpAny_isInstance (T := "dict") (b := true) ha.typeIs isSubtype_dict_dict ?_)
  simp only [if_true]
  refine wpAny_bind (wpAny_specialOf ha.typeIs PySem.F.slot_dict_iter.lookup ?_)
  refine wpAny_bind (wpAny_pure ?_)
  simp only [beq_self_eq_true]
  rw [if_neg (by rw [hs]; exact Bool.false_ne_true)]
  obtain ⟨od, ed, epd, hod, hcd, hdd, hkd, hpd, hnd⟩ := id hm
  refine wpAny_bind (wpAny_dictEntries hod hdd ?_)
  have hz : ea.size = more.length := by have e1 := hpa.length; have e2 : ea.toList.length = ea.size := by simp
                                        omega
  -- the loop
  have loop : ∀ (l : List Nat) (n : Nat) (s' : Shared) (acc : List (K × Value)), l = (List.range ea.size).drop n → n ≤ ea.size → s'.heap.DictOf knd d acc → acc.length ≤ kvs.length + n → merged acc (more.drop n) = merged kvs more → Heap.SameBut d s.heap s'.heap → s' = { s with heap := s'.heap } →
      wpAny (model prog w) A (forIn l PUnit.unit fun i __s => do
        let __do_lift ← dictEntries a
        match __do_lift[i]? with
          | some e => do
            holding [e.key, e.val]
                (have __do_jp := fun __r => dictPut d e.hash e.key e.val;
                if false = true then do
                  let __do_lift ← dictFind d e.key e.hash
                  if __do_lift.isSome = true then do
                      rule "dict.merge.duplicate-key"
                      let __do_lift ← newExc (Value.type "KeyError") [e.key]
                      let __r ← raiseNew __do_lift
                      __do_jp __r
                    else __do_jp ()
                else __do_jp ())
            let __do_lift ← dictEpoch a
            if (__do_lift != epa) = true then do
                unsupported "dict.changed-during-merge"
                pure (ForInStep.yield PUnit.unit)
              else pure (ForInStep.yield PUnit.unit)
          | x => do
            unsupported "dict.changed-during-merge"
            pure (ForInStep.yield PUnit.unit)) (fun _ s' => Q () s') E s' := by
    intro l
    induction l with
    | nil =>
      intro n s' acc hl hn hd' hz' hmg hsb he
      rw [List.forIn_nil]
      have hn2 : ea.size ≤ n := by
        have := congrArg List.length hl
        rw [List.length_drop, List.length_range, List.length_nil] at this
        omega
      rw [List.drop_eq_nil_of_le (by omega)] at hmg
      have hmg : acc = merged kvs more := hmg
      subst hmg
      rw [he]
      exact wpAny_pure (hQ _ hd' hsb)
    | cons i l ih =>
      intro n s' acc hl hn hd' hz' hmg hsb he
      have hlt : n < ea.size := by
        have := congrArg List.length hl
        rw [List.length_drop, List.length_range, List.length_cons] at this
        omega
      have hdr : (List.range ea.size).drop n = n :: (List.range ea.size).drop (n + 1) := by
        rw [List.drop_eq_getElem_cons (by rw [List.length_range]; exact hlt), List.getElem_range]
      rw [hdr] at hl
      obtain ⟨rfl, hl2⟩ := List.cons.inj hl
      rw [List.forIn_cons]
      have hoa' : s'.heap.get? a = some oa := (hsb.2 a hne).trans hoa
      refine wpAny_bind (wpAny_bind (wpAny_dictEntries hoa' hda ?_))
      rw [Array.getElem?_eq_getElem hlt]
      have hml : i < more.length := by omega
      obtain ⟨g1, g2⟩ := hpa.get? (e := ea[i]) (i := i) (k := more[i].1) (v := more[i].2) (by simp [hlt]) (by simp [hml])
      have hh : ea[i].hash = knd.hash more[i].1 := by
        obtain ⟨k', q1, q2⟩ := hka ea[i] (Array.getElem_mem hlt)
        rw [q2, knd.inj _ _ _ q1 g1]
      refine wpAny_bind (wpAny_holding ?_)
      rw [if_neg Bool.false_ne_true]
      refine wpAny_dictPut_pairs g1 hh hd' (fun h' hd2 hs2 => ?_) (by omega)
      have hoa2 : h'.get? a = some oa := (hs2.2 a hne).trans hoa'
      refine wpAny_bind (wpAny_dictEpoch (s := { s' with heap := h' }) hoa2 hda ?_)
      rw [if_neg (by simp)]
      refine wpAny_pure ?_
      refine ih (i + 1) { s' with heap := h' } (stored acc more[i].1 more[i].2) hl2 hlt (by rw [← g2]; exact hd2) ?_ ?_ ⟨hs2.1.trans hsb.1, fun b hb => (hs2.2 b hb).trans (hsb.2 b hb)⟩ (by rw [he])
      · rw [length_stored]
        split <;> omega
      · rw [List.drop_eq_getElem_cons hml] at hmg
        exact hmg
  have fin : wpAny (model prog w) A (do
      let __do_lift ← dictEntries a
      have size : Nat := __do_lift.size
      let epoch ← dictEpoch a
      forIn (List.range size) PUnit.unit fun i __s => do
        let __do_lift ← dictEntries a
        match __do_lift[i]? with
          | some e => do
            holding [e.key, e.val]
                (have __do_jp := fun __r => dictPut d e.hash e.key e.val;
                if false = true then do
                  let __do_lift ← dictFind d e.key e.hash
                  if __do_lift.isSome = true then do
                      rule "dict.merge.duplicate-key"
                      let __do_lift ← newExc (Value.type "KeyError") [e.key]
                      let __r ← raiseNew __do_lift
                      __do_jp __r
                    else __do_jp ()
                else __do_jp ())
            let __do_lift ← dictEpoch a
            if (__do_lift != epoch) = true then do
                unsupported "dict.changed-during-merge"
                pure (ForInStep.yield PUnit.unit)
              else pure (ForInStep.yield PUnit.unit)
          | x => do
            unsupported "dict.changed-during-merge"
            pure (ForInStep.yield PUnit.unit)
      pure ()) Q E s := by
    refine wpAny_bind (wpAny_dictEntries hoa hda ?_)
    refine wpAny_bind (wpAny_dictEpoch hoa hda ?_)
    exact wpAny_bind (wpAny_mono (loop _ 0 s kvs rfl (Nat.zero_le _) hm (Nat.le_refl _) rfl ⟨rfl, fun _ _ => rfl⟩ rfl) (fun _ _ h => wpAny_pure h) fun _ _ e => e)
  by_cases hem : ed.isEmpty = true
  · rw [if_pos hem]
    refine wpAny_bind (wpAny_dictEntries hoa hda ?_)
    have hl : (forIn ea PUnit.unit fun e (__s : PUnit) =>
          match e.key with
          | Value.ref a => do
            let __do_lift ← specialOf e.key (Str.ofString "__eq__")
            if (__do_lift != some (Value.builtin "object.__eq__")) = true then
                if (Array.filter (fun x => x.hash == e.hash) ea).size > 1 then do
                  unsupported "dict.merge-into-an-empty-dict:keys-of-equal-hash"
                  pure (ForInStep.yield PUnit.unit)
                else pure (ForInStep.yield PUnit.unit)
              else pure (ForInStep.yield PUnit.unit)
          | x => pure (ForInStep.yield PUnit.unit) : Sem PUnit) = pure PUnit.unit := by
      rw [← Array.forIn_toList]
      refine forIn_yield_id _ fun e he c => ?_
      obtain ⟨k, hkey, _⟩ := hka e (Array.mem_toList_iff.mp he)
      have hb := knd.byValue k _ hkey
      cases hq : e.key with
      | ref b => rw [hq] at hb; cases hb
      | _ => rfl
    exact wpAny_bind (wpAny_of_eq hl fin)
  · rw [if_neg hem]
    exact fin
theorem wpAny_Dict_star {env : PySem.Env} {d k v : Expr} {pos : Pos} {Q : Value → Shared → Prop}
    (h : wpAny (model prog w) A (eval d env) (fun m s1 => wpAny (model prog w) A (mergeMapping s.heap.objs.size m false) (fun _ s2 =>
      wpAny (model prog w) A (eval k env) (fun kv s3 => wpAny (model prog w) A (eval v env) (fun vv s4 => wpAny (model prog w) A (dictSet s2.heap.objs.size kv vv) (fun _ s5 =>
        wpAny (model prog w) A (mergeMapping s.heap.objs.size (.ref s2.heap.objs.size) false) (fun _ s6 => Q (.ref s.heap.objs.size) s6) (fun _ _ => False) s5) E s4) E s3) E
        { s2 with heap := s2.heap.push { cls := .type "dict", data := .dict #[] } }) (fun _ _ => False) s1) E { s with heap := s.heap.push { cls := .type "dict", data := .dict #[] } }) :
    wpAny (model prog w) A (eval (.Dict [none, some k] [d, v] pos) env) Q E s := by
  rw [arm_eval_Dict]
  refine wpAny_bind (wpAny_standAt ?_)
  unfold dictDisplay
  show wpAny _ _ (forIn [_, _] _ _ >>= _) _ _ _
  rw [List.forIn_cons]
  refine wpAny_bind (wpAny_bind ?_)
  show wpAny _ _ (pure none >>= _) _ _ _
  refine wpAny_bind (wpAny_pure ?_)
  refine wpAny_bind (wpAny_alloc ?_)
  refine wpAny_bind (wpAny_holding ?_)
  refine wpAny_bind (wpAny_mono h (fun m s1 h1 => wpAny_bind (wpAny_standAt (wpAny_pure ?_))) fun _ _ e => e)
  refine wpAny_bind (wpAny_onRaise (wpAny_tryCatch (wpAny_onRaise (wpAny_holding (wpAny_mono h1 (fun _ s2 h2 => ?_) fun _ _ e => e.elim)))))
  refine wpAny_pure ?_
  dsimp only
  rw [List.forIn_cons]
  refine wpAny_bind ?_
  show wpAny _ _ (pure _) _ _ _
  refine wpAny_pure ?_
  dsimp only
  rw [List.forIn_nil]
  refine wpAny_pure ?_
  dsimp only
  refine wpAny_bind ?_
  show wpAny _ _ (holding [Value.ref _] (subDict [_]) >>= _) _ _ _
  refine wpAny_bind (wpAny_holding (wpAny_subDict_any (by simp) ?_))
  show wpAny _ _ (eval k env >>= _) _ _ _
  refine wpAny_bind (wpAny_mono h2 (fun kv s3 h3 => ?_) fun _ _ e => e)
  refine wpAny_bind (wpAny_holding ?_)
  refine wpAny_bind (wpAny_mono h3 (fun vv s4 h4 => ?_) fun _ _ e => e)
  refine wpAny_bind (wpAny_standAt (wpAny_pure ?_))
  refine wpAny_bind (wpAny_holding ?_)
  show wpAny _ _ (pure _) _ _ _
  refine wpAny_pure (wpAny_pure ?_)
  unfold storeAll
  rw [List.forIn_cons]
  refine wpAny_bind (wpAny_bind (wpAny_mono h4 (fun _ s5 h5 => wpAny_pure ?_) fun _ _ e => e))
  dsimp only
  rw [List.forIn_nil]
  refine wpAny_pure ?_
  refine wpAny_bind (wpAny_onRaise (wpAny_holding (wpAny_mono h5 (fun _ s6 h6 => ?_) fun _ _ e => e.elim)))
  exact wpAny_pure (wpAny_pure h6)
theorem mergeK_app : ∀ (L acc : List (Key × V)), ((acc ++ L).map (·.1)).Nodup → mergeK acc L = acc ++ L
  | [], acc, _ => by rw [List.append_nil]; rfl
  | (k, v) :: L, acc, h => by
    have hn : ¬ (acc.any fun kv => decide (kv.1 = k)) = true := by
      rw [List.any_eq_true]
      rintro ⟨kv, hkv, he⟩
      have he := of_decide_eq_true he
      rw [List.map_append, List.nodup_append] at h
      exact h.2.2 kv.1 (List.mem_map_of_mem hkv) k (by simp) he
    have e : putK acc k v = acc ++ [(k, v)] := by unfold putK; rw [if_neg hn]
    show mergeK (putK acc k v) L = _
    rw [e, mergeK_app L _ (by rw [List.append_assoc]; exact h), List.append_assoc]
    rfl
/-- {**d, k: v} -/
def tDS (X : Cx) (td tk tv : TE) : TE := fun σ H Q => ∀ p, H p = none → td σ (upd H p (.dK [])) fun x H1 => ∃ (a : Addr) (ob : Obj) (L : List (Key × V)), x = .ref a ∧ H1 a = some (dictH X.w a ob (emK L)) ∧ H1 p = some (.dK []) ∧
  ∀ p2, (upd H1 p (.dK L)) p2 = none → tk σ (upd (upd H1 p (.dK L)) p2 (.dK [])) fun y H2 => tv σ H2 fun z H3 => ∃ (nk : Key), y = kV nk ∧ L.length < sizeLine ∧ H3 p = some (.dK L) ∧ H3 p2 = some (.dK []) ∧
    ∀ ob, Q (.ref p) (upd (upd H3 p2 (.dK [(nk, z)])) p (dictH X.w p ob (emK (putK L nk z))))
theorem pe_dictS {X : Cx} {d k v : Expr} {pos : Pos} {td tk tv : TE} (hd : PE X d td) (hk : PE X k tk) (hv : PE X v tv) : PE X (.Dict [none, some k] [d, v] pos) (tDS X td tk tv) := by
  refine ⟨fun pins s σ H Q I q => ?_⟩
  have hn := I.hok.fresh (Nat.le_refl s.heap.objs.size)
  have I1 := I.laid (a := s.heap.objs.size) (o := .dK []) (h' := s.heap.push { cls := .type "dict", data := .dict #[] }) (t' := s.toks) (fun _ _ q => Heap.get?_push_of_some _ q) (Nat.le_refl _) (dk_empty s.heap I.big)
  generalize hP : s.heap.objs.size = p at *
  refine wpAny_Dict_star ?_
  rw [hP]
  refine thn (hd.run pins _ σ _ _ I1 (q _ hn)) fun m s1 ⟨x, H1, I2, rx, a, ob, L, ex, ha, hp, q2⟩ => ?_
  subst ex
  obtain rfl : m = Value.ref a := rx
  have hap : a ≠ p := fun z => by rw [z, hp] at ha; cases ha
  obtain ⟨z1, hsa, vs, rel, dd⟩ := dk_ok I2 ha
  obtain ⟨_, hsp, ws, relw, dw⟩ := dk_of I2.hok hp
  cases relw
  refine wpAny_merge_pairs hap hsa dw dd (fun h' dd' hs => ?_) (by rw [← rel.length]; simpa using z1)
  have hnd : ((([] : List (Key × V)) ++ L).map (·.1)).Nodup := by
    rw [List.nil_append, KV.fst rel]
    obtain ⟨_, _, _, _, _, _, _, _, hn⟩ := dd
    exact hn
  have rel2 : KV L (merged [] vs) := by
    have := KV.merge rel (show KV ([] : List (Key × V)) ([] : List (Key × Value)) from .nil)
    rwa [mergeK_app L [] hnd, List.nil_append] at this
  have I3 : Inv X pins σ (upd H1 p (.dK L)) { s1 with heap := h' } := d_write (t' := s1.toks) I2 (by rw [hp]; exact True.intro) hs (let ⟨o, _, _, e, _⟩ := dd'; ⟨o, e⟩) (dk_new z1 hsp rel2 dd')
  have hn2 := I3.hok.fresh (Nat.le_refl h'.objs.size)
  have I4 := I3.laid (a := h'.objs.size) (o := .dK []) (h' := h'.push { cls := .type "dict", data := .dict #[] }) (t' := s1.toks) (fun _ _ q => Heap.get?_push_of_some _ q) (Nat.le_refl _) (dk_empty h' I3.big)
  show wpAny _ _ _ (fun kv s3 => wpAny _ _ _ (fun vv s4 => wpAny _ _ (dictSet h'.objs.size kv vv) (fun _ s5 => wpAny _ _ (mergeMapping p (.ref h'.objs.size) false) _ _ s5) _ s4) _ s3) _ { s1 with heap := h'.push { cls := .type "dict", data := .dict #[] } }
  generalize hP2 : h'.objs.size = p2 at *
  have hne : p2 ≠ p := fun z => by rw [z, upd_same] at hn2; cases hn2
  refine thn (hk.run pins _ σ _ _ I4 (q2 _ hn2)) fun u s3 ⟨y, H2, I5, ry, q3⟩ => thn (hv.run pins s3 σ H2 _ I5 q3) fun u2 s4 ⟨z, H3, I6, rz, nk, ey, hl, hp3, hp23, q4⟩ => ?_
  subst ey
  obtain ⟨_, hs2, ws2, relw2, dw2⟩ := dk_of I6.hok hp23
  cases relw2
  refine wpAny_dictSet_pairs (knd := mixKind X.prog X.w) (hsz := Nat.zero_le _) (kV_is ry) dw2 fun h5 dd5 hs5 => ?_
  have I7 : Inv X pins σ (upd H3 p2 (.dK [(nk, z)])) { s4 with heap := h5, toks := s4.toks + 1 } := d_write I6 (by rw [hp23]; exact True.intro) hs5 (let ⟨o, _, _, e, _⟩ := dd5; ⟨o, e⟩) (dk_new (by simp [sizeLine_eq]) hs2 (KV.put .nil nk rz) dd5)
  have hpp : (upd H3 p2 (.dK [(nk, z)])) p = some (.dK L) := by rw [upd_ne (Ne.symm hne)]; exact hp3
  obtain ⟨z3, hs3, vs3, rel3, dd3⟩ := dk_of I7.hok hpp
  obtain ⟨_, _, vs4, rel4, dd4⟩ := dk_of I7.hok (a := p2) (kvs := [(nk, z)]) upd_same
  cases rel4 with
  | cons r4 t4 =>
    cases t4
    refine wpAny_merge_pairs hne hs2 dd3 dd4 (fun h6 dd6 hs6 => ?_) (by rw [← rel3.length]; simp; omega)
    have r5 := KV.merge (.cons r4 .nil) rel3
    have hl5 : (putK L nk z).length ≤ sizeLine := by have := length_putK L nk z; omega
    obtain ⟨ob', d'⟩ := dk_out (L := putK L nk z) hl5 hs3 r5 dd6
    exact ⟨.ref p, _, d_write (t' := s4.toks + 1) I7 (by rw [hpp]; exact True.intro) hs6 ⟨ob', d'.2.2.1⟩ (dic_obj d'), rfl, q4 ob'⟩
end
theorem RepD.leaf {K : PySem.W.Frag} {w : World} {F : Hp} {tk : Bool} {L : List Ent} {kvs : List (AV × AV)} (r : RepD K w F tk L kvs) (h : kvs.all (fun p => leafK p.1) = true) : ∃ L0, L = emK L0 ∧ RepD K w F false (emK L0) kvs := by
  cases r with
  | nil => exact ⟨[], rfl, .nil⟩
  | cons h1 r1 r =>
    obtain ⟨L0, e⟩ := (RepD.cons h1 r1 r).isK
    exact ⟨L0, e, e ▸ .cons h1 r1 r⟩
  | consT h1 r0 r1 r =>
    obtain ⟨_, _, ds, rfl⟩ := keyT_nest h1
    simp [leafK] at h
section
variable {cal : Cal} {c : Cx} {d k v : Expr} {a b g : X} {pos : Pos}
theorem ok_dictS (ha : OkE cal c d a) (hb : OkE cal c k b) (hg : OkE cal c v g) : OkE cal c (.Dict [none, some k] [d, v] pos) (.dict (.star a (.kv b g .nil))) :=
  OkE.of rfl fun m => (pe_dictS (ha.pe .opd) (hb.pe .val) (hg.pe .val)).imp fun σ H Q q => by
    obtain ⟨IO, F0, F, B, O, env, dr, env', O', S, e, o, q⟩ := q
    obtain ⟨⟨kvs, e0⟩, e5, e9⟩ := R.bind_eq_ok (show (evDs cal (.star a (.kv b g .nil)) [] env >>= fun p => R.ok (PyData.dict p.1, p.2)) = .ok (dr, env') from e)
    cases e9
    clear e
    obtain ⟨⟨da, e1⟩, ea, e⟩ := R.bind_eq_ok (show (evE cal a env >>= fun p => match p.1 with
      | .dict kvs => if ([] : List (AV × AV)).isEmpty && kvs.all (fun p => leafK p.1) then (evDs cal (.kv b g .nil) kvs p.2 >>= fun p2 => if p2.1.all (fun p => leafK p.1) then R.ok (p2.1, p2.2) else .bad) else .bad
      | _ => .bad) = .ok (kvs, e0) from e5)
    cases da with
    | dict kv0 =>
      have e : (if ([] : List (AV × AV)).isEmpty && kv0.all (fun p => leafK p.1) then (evDs cal (.kv b g .nil) kv0 e1 >>= fun p2 => if p2.1.all (fun p => leafK p.1) then R.ok (p2.1, p2.2) else .bad) else .bad) = R.ok (kvs, e0) := e
      split at e
      · rename_i hlf
        have hlf : kv0.all (fun p => leafK p.1) = true := by simpa using hlf
        obtain ⟨⟨kv1, e4⟩, e6, e⟩ := R.bind_eq_ok e
        dsimp only at e
        split at e
        · rename_i hlf2
          cases e
          obtain ⟨⟨db, e2⟩, eb, e7⟩ := R.bind_eq_ok (show (evE cal b e1 >>= fun p => evE cal g p.2 >>= fun p2 => dput' kv0 p.1 p2.1 >>= fun kvs => R.ok (kvs, p2.2)) = .ok (kvs, e0) from e6)
          obtain ⟨⟨dg, e3⟩, eg, e7⟩ := R.bind_eq_ok e7
          obtain ⟨kv2, ed, e7⟩ := R.bind_eq_ok e7
          cases e7
          unfold dput' at ed
          split at ed
          · rename_i hc
            cases ed
            simp only [Bool.and_eq_true, decide_eq_true_eq] at hc
            -- the key is a leaf
            have hkl : leafK db = true := by
              rcases hk0 : kv0 with _ | ⟨⟨k0, v0⟩, rest⟩
              · rw [hk0] at hlf2
                simpa [dput] using hlf2
              · rw [hk0] at hc hlf
                have h1 : ((leafK k0 && leafK db) || (tupKey k0 && tupKey db)) = true := hc.1
                have h2 : leafK k0 = true := by simp at hlf; exact hlf.1
                rw [Bool.or_eq_true, Bool.and_eq_true, Bool.and_eq_true] at h1
                rcases h1 with h1 | h1
                · exact h1.2
                · exfalso
                  revert h1 h2
                  cases k0 <;> simp [leafK, tupKey]
            obtain ⟨nk, hnk⟩ := keyA_leaf hkl
            rw [owM_nv rfl] at o
            obtain ⟨O1, oa, o⟩ := andThen_some (show andThen (bor a O (owE O a)) (fun O1 => andThen (owE O1 b) fun O2 => andThen (owE O2 g) fun O3 => some O3) = some O' from o)
            obtain ⟨O2, ob, o⟩ := andThen_some o
            obtain ⟨O3, og, o⟩ := andThen_some o
            cases o
            intro p hp
            have hFp : F p = none := S.fh.free hp
            have hBp : B p = none := S.bh.free hp
            have hF0p : F0 p = none := S.f0.free hFp
            have S1 := S.put (a := p) (o := .dK []) hFp (S.noSlot (.inr (.inr hp)))
            refine ⟨IO, F0, F, upd B p (.dK []), O, env, _, e1, O1, S1, ea, oa, fun va F1 H1 p1 r1 => ?_⟩
            obtain ⟨ad, obj, L, tk, rfl, hq, hr⟩ := (show Opd c.K c.w F1 H1 va (.dict kv0) from r1.1)
            obtain ⟨L0, rfl, hr0⟩ := hr.leaf hlf
            have hp1 : H1 p = some (.dK []) := p1.sr.bh _ _ upd_same
            have hF1 : F1 p = none := by
              cases h : F1 p with
              | none => rfl
              | some u =>
                rcases p1.sr.fb p u h with z | z
                · rw [hF0p] at z; cases z
                · rw [upd_same] at z; cases z
            have hns1 := p1.sr.noSlot (a := p) (.inr (.inl (by rw [upd_same]; exact fun z => by cases z)))
            have S2 := p1.sr.put (a := p) (o := .dK L0) hF1 hns1
            rw [upd_upd] at S2
            refine ⟨ad, obj, L0, rfl, hq, hp1, fun p2 hp2 => ?_⟩
            have hne : p2 ≠ p := fun z => by rw [z, upd_same] at hp2; cases hp2
            have hF1p2 : F1 p2 = none := S2.fh.free hp2
            have hBp2 : (upd B p (.dK L0)) p2 = none := S2.bh.free hp2
            have hF0p2 : F0 p2 = none := S2.f0.free hF1p2
            have S3 := S2.put (a := p2) (o := .dK []) hF1p2 (S2.noSlot (.inr (.inr hp2)))
            refine ⟨IO, F0, F1, _, O1, e1, db, e2, O2, S3, eb, ob, fun vb F2 H2 p2' r2 => ⟨IO, F0, F2, _, O2, e2, dg, _, _, p2'.sr, eg, og, fun vg F3 H3 p3 r3 => ?_⟩⟩
            have eB : ∀ {Bx : Hp}, (upd (upd B p (HO.dK L0)) p2 (HO.dK [])) = Bx → Bx p = some (.dK L0) ∧ Bx p2 = some (.dK []) := fun e => by
              subst e
              exact ⟨by rw [upd_ne (Ne.symm hne), upd_same], upd_same⟩
            obtain ⟨b1, b2⟩ := eB rfl
            have h3p : H3 p = some (.dK L0) := p3.sr.bh _ _ b1
            have h3p2 : H3 p2 = some (.dK []) := p3.sr.bh _ _ b2
            have hF3 : ∀ x, F0 x = none → (upd (upd B p (HO.dK L0)) p2 (HO.dK [])) x ≠ none → F3 x = none := fun x h0 hb => by
              cases h : F3 x with
              | none => rfl
              | some u =>
                rcases p3.sr.fb x u h with z | z
                · rw [h0] at z; cases z
                · exact absurd z hb
            have hF3p := hF3 p hF0p (by rw [b1]; exact fun z => by cases z)
            have hF3p2 := hF3 p2 hF0p2 (by rw [b2]; exact fun z => by cases z)
            have hns3 := p3.sr.noSlot (a := p) (.inr (.inl (by rw [b1]; exact fun z => by cases z)))
            have hns32 := p3.sr.noSlot (a := p2) (.inr (.inl (by rw [b2]; exact fun z => by cases z)))
            obtain rfl := keyA_rep hnk (show Rep c.K c.w F2 vb db from r2)
            have hlen : L0.length < sizeLine := by
              have := hr0.length
              simp only [emK, List.length_map] at this
              rw [this, ← line_eq]
              exact hc.2
            refine ⟨nk, rfl, hlen, h3p, h3p2, fun oc => ?_⟩
            have rL : RepD c.K c.w F3 false (emK (putK L0 nk vg)) (dput kv0 db dg) := (hr0.mono (p2'.ff.trans p3.ff)).put hnk r3
            have S4 := p3.sr.put (a := p2) (o := .dK [(nk, vg)]) hF3p2 hns32
            have hns4 := S4.noSlot (a := p) (.inr (.inl (by rw [upd_ne (Ne.symm hne), b1]; exact fun z => by cases z)))
            have S5 := (S4.put (a := p) (o := dictH c.w p oc (emK (putK L0 nk vg))) hF3p hns4).less (B := B) fun x u qx => by
              have h1 := ne_of_none qx hBp
              have h2 : x ≠ p2 := fun z => by subst z; rw [upd_ne h1] at hBp2; rw [hBp2] at qx; cases qx
              rw [upd_ne h1, upd_ne h2, upd_ne h2, upd_ne h1]; exact qx
            have hns5 : NoSlot O' σ e3 p := hns3
            have hh : prE (.dict (.star a (.kv b g .nil))) = true → Same H (upd (upd H3 p2 (.dK [(nk, vg)])) p (dictH c.w p oc (emK (putK L0 nk vg)))) := fun h => by
              have h : (prE a && (prE b && prE g && true)) = true := h
              simp only [Bool.and_eq_true, and_true] at h
              intro x u qx
              have h1 := ne_of_none qx hp
              have q1 := p1.hh h.1 x u (by rw [upd_ne h1]; exact qx)
              have h2 : x ≠ p2 := fun z => by subst z; rw [upd_ne h1] at hp2; rw [hp2] at q1; cases q1
              rw [upd_ne h1, upd_ne h2]
              refine p3.hh h.2.2 x u (p2'.hh h.2.1 x u ?_)
              rw [upd_ne h2, upd_ne h1]
              exact q1
            have ffA := (p1.ff.trans p2'.ff).trans p3.ff
            have frz : ∀ Fz, Fz = upd F3 p (dictH c.w p oc (emK (putK L0 nk vg))) → Rep c.K c.w Fz (.ref p) (.dict (dput kv0 db dg)) ∧ Pst c.K c.w IO F0 F B _ σ H _ (prE (.dict (.star a (.kv b g .nil)))) Fz (upd (upd H3 p2 (.dK [(nk, vg)])) p (dictH c.w p oc (emK (putK L0 nk vg)))) := fun Fz h => by
              subst h
              exact ⟨.dct upd_same (rL.mono (same_upd' hF3p)), S5.frz hF3p hBp upd_same hns5, ffA.trans (same_upd' hF3p), hh⟩
            cases m with
            | val => exact q _ _ _ (frz _ rfl).2 (frz _ rfl).1
            | opd => exact q _ _ _ (frz _ rfl).2 ⟨(frz _ rfl).1.opd (frz _ rfl).2.sr.fh, (frz _ rfl).1.ob⟩
            | new => exact q _ F3 _ ⟨S5, ffA, hh⟩ ⟨⟨p, oc, _, false, rfl, hF3p, hBp, upd_same, rL⟩, fun a e _ => by cases e; exact hns5⟩
          · cases ed
        · cases e
      · cases e
    | _ => cases e
end
end Ev
end
section
set_option linter.all false
set_option autoImplicit false
set_option maxRecDepth 100000
set_option maxHeartbeats 2000000
/-! EvDj: a dict that is walked: keys, values, items. -/
namespace Ev
open PySem PySem.Spec PyProof.Rows L2
/-- the keys of the dict at a -/
def Itkd (w : World) (a : Addr) (ob : Obj) (L : List Ent) : L2.It :=
  ⟨fun i H => H a = some (dictH w a ob L) ∧ i < L.length, fun i H x H' => H' = H ∧ (L.map keyV)[i]? = some x, fun i H => H a = some (dictH w a ob L) ∧ L.length ≤ i⟩
/-- the values -/
def Itvd (w : World) (a : Addr) (ob : Obj) (L : List Ent) : L2.It :=
  ⟨fun i H => H a = some (dictH w a ob L) ∧ i < L.length, fun i H x H' => H' = H ∧ (L.map (·.2))[i]? = some x, fun i H => H a = some (dictH w a ob L) ∧ L.length ≤ i⟩
/-- the pairs, each a new tuple -/
def Itid (w : World) (a : Addr) (ob : Obj) (L : List Ent) : L2.It :=
  ⟨fun i H => H a = some (dictH w a ob L) ∧ i < L.length, fun i H x H' => ∃ T e, L[i]? = some e ∧ x = .ref T ∧ H T = none ∧ H' = upd H T (.tup [keyV e, e.2]), fun i H => H a = some (dictH w a ob L) ∧ L.length ≤ i⟩
section
variable {P : Program} {w : World} {K : PySem.W.Frag} {tg : Expr} {a : Addr} {ob : Obj} {L : List Ent} {es : Array DictEntry} {ep : Nat}
theorem ent_at (ent : ∀ (i : Nat) (e : Ent), L[i]? = some e → ∃ en : DictEntry, es[i]? = some en ∧ RelV (keyV e) en.key ∧ RelV e.2 en.val) {i : Nat} (hi : i < L.length) : ∃ en, es[i]? = some en ∧ RelV (keyV L[i]) en.key ∧ RelV L[i].2 en.val := ent i L[i] (List.getElem?_eq_getElem hi)
theorem turn_keysD (it : Addr) (hod : ob.data = .dict es ep) : Turn P w K tg (Itkd w a ob L) [it] it (fun i h => h.IsKeyIter it a i L.length ep) where
  mem := by simp
  obj := fun i h st b hb => by
    have e : b = it := by simpa using hb
    subst e
    obtain ⟨oi, e, c, dd⟩ := st
    exact ⟨oi, e, fun v z => by rw [dd] at z; cases z⟩
  keep := fun i h h' st k => st.at fun oi e => k it (by simp) oi e
  item := by
    intro X hP hw hK hc i pins s σ H E I hf st hg
    subst hP hw hK
    obtain ⟨hd, hi⟩ := hg
    obtain ⟨f0, f1, f2, f3, f4, f5⟩ := hf it (by simp)
    obtain ⟨hs, hx, hgd, es', ep', hdt, hsz, z, ent⟩ := dic_ents (dic_at I.hok hd)
    obtain ⟨rfl, rfl⟩ := dict_ep hod hdt
    obtain ⟨en, hen, rk, rv⟩ := ent_at ent hi
    refine next_key_item st hgd hdt hsz hen fun h' st' sb => ?_
    have I1 : Inv X pins σ H { s with heap := h' } := I.turned (t' := s.toks) (fun b ob hb e => (sb.2 b hb).trans e) f0 f1 f3 f4 f5
    obtain ⟨oi, e, c, dd⟩ := id st'
    exact ⟨en.key, rfl, go_of (s := { s with heap := h' }) e c dd (by decide) ⟨keyV L[i], H, I1, rk, ⟨rfl, by rw [List.getElem?_map, List.getElem?_eq_getElem hi]; rfl⟩, st', fun b hb => (hf b hb).1⟩⟩
  done := by
    intro X hP hw hK hc i pins s σ H E I hf st hg
    subst hP hw hK
    obtain ⟨hd, hi⟩ := hg
    obtain ⟨f0, f1, f2, f3, f4, f5⟩ := hf it (by simp)
    obtain ⟨hs, hx, hgd, es', ep', hdt, hsz, z, ent⟩ := dic_ents (dic_at I.hok hd)
    obtain ⟨rfl, rfl⟩ := dict_ep hod hdt
    exact next_key_end (I.ok.hd hc) st hgd hdt hsz hi fun h' eb => ⟨rfl, I.turned (t' := s.toks) (fun b ob hb e => eb b ob hb e) f0 f1 f3 f4 f5⟩
  self := fun A i s Q E st h => by
    refine wpAny_pyIter_slot st.typeIs F.slot_dict_keyiterator_iter (wpAny_call_entry F.slot_dict_keyiterator_iter st.typeIs F.entry_dict_keyiterator_iter ?_ (F.args_dict_keyiterator_iter_1 _))
    show wpAny _ _ (ret (.ref it)) _ _ s
    exact wpAny_pure ⟨_, rfl, "dict_keyiterator", _, st.typeIs, F.slot_dict_keyiterator_next.lookup, h⟩
theorem turn_valsD (it : Addr) (hod : ob.data = .dict es ep) : Turn P w K tg (Itvd w a ob L) [it] it (fun i h => h.IsValIter it a i es.size ep) where
  mem := by simp
  obj := fun i h st b hb => by
    have e : b = it := by simpa using hb
    subst e
    obtain ⟨oi, e, c, dd⟩ := st
    exact ⟨oi, e, fun v z => by rw [dd] at z; cases z⟩
  keep := fun i h h' st k => st.at fun oi e => k it (by simp) oi e
  item := by
    intro X hP hw hK hc i pins s σ H E I hf st hg
    subst hP hw hK
    obtain ⟨hd, hi⟩ := hg
    obtain ⟨f0, f1, f2, f3, f4, f5⟩ := hf it (by simp)
    obtain ⟨hs, hx, hgd, es', ep', hdt, hsz, z, ent⟩ := dic_ents (dic_at I.hok hd)
    obtain ⟨rfl, rfl⟩ := dict_ep hod hdt
    obtain ⟨en, hen, rk, rv⟩ := ent_at ent hi
    obtain ⟨hlt, hen⟩ := Array.getElem?_eq_some_iff.mp hen
    refine wpAny_pyNext_values_item_raw st ⟨ob, hgd, hx, hdt⟩ hlt fun h' st' sb => ?_
    have I1 : Inv X pins σ H { s with heap := h' } := I.turned (t' := s.toks) (fun b ob hb e => (sb.2 b hb).trans e) f0 f1 f3 f4 f5
    obtain ⟨oi, e, c, dd⟩ := id st'
    refine ⟨es'[i].val, rfl, go_of (s := { s with heap := h' }) e c dd (by decide) ⟨L[i].2, H, I1, by rw [hen]; exact rv, ⟨rfl, by rw [List.getElem?_map, List.getElem?_eq_getElem hi]; rfl⟩, st', fun b hb => (hf b hb).1⟩⟩
  done := by
    intro X hP hw hK hc i pins s σ H E I hf st hg
    subst hP hw hK
    obtain ⟨hd, hi⟩ := hg
    obtain ⟨f0, f1, f2, f3, f4, f5⟩ := hf it (by simp)
    obtain ⟨hs, hx, hgd, es', ep', hdt, hsz, z, ent⟩ := dic_ents (dic_at I.hok hd)
    obtain ⟨rfl, rfl⟩ := dict_ep hod hdt
    exact wpAny_pyNext_values_end_raw (I.ok.hd hc) st ⟨ob, hgd, hx, hdt⟩ (by omega) fun h' eb => ⟨rfl, I.turned (t' := s.toks) (fun b ob hb e => eb b ob hb e) f0 f1 f3 f4 f5⟩
  self := fun A i s Q E st h => wpAny_pyIter_valiter st h
theorem turn_itemsD {elts : List Expr} {kk : Nat} {tpos : Pos} (it : Addr) (hod : ob.data = .dict es ep) :
    Turn P w K (.Tuple elts kk tpos) (Itid w a ob L) [it] it (fun i h => ∃ ok ov, IsItemIter h it a i es.size ep ok ov) where
  mem := by simp
  obj := fun i h st b hb => by
    have e : b = it := by simpa using hb
    subst e
    obtain ⟨ok, ov, e⟩ := st
    exact ⟨_, e, fun v z => nomatch z⟩
  keep := fun i h h' st k => let ⟨ok, ov, e⟩ := st; ⟨ok, ov, k it (by simp) _ e⟩
  item := by
    intro X hP hw hK hc i pins s σ H E I hf st hg
    subst hP hw hK
    obtain ⟨hd, hi⟩ := hg
    obtain ⟨hs, hx, hgd, es', ep', hdt, hsz, z, ent⟩ := dic_ents (dic_at I.hok hd)
    obtain ⟨rfl, rfl⟩ := dict_ep hod hdt
    obtain ⟨en, hen, rk, rv⟩ := ent_at ent hi
    obtain ⟨hlt, hen⟩ := Array.getElem?_eq_some_iff.mp hen
    obtain ⟨ok, ov, he⟩ := st
    have hl : it < s.heap.objs.size := Heap.lt_size he
    refine wpAny_pyNext_items_item_raw he ⟨ob, hgd, hx, hdt⟩ hlt fun h' ho hT hz hk => ?_
    refine ⟨_, rfl, wpAny_letOwnedTupleGo_items (s := { s with heap := h' }) ho fun h'' he' sb => ?_⟩
    have hT2 : h''.get? s.heap.objs.size = some { cls := .type "tuple", data := .seq #[es'[i].key, es'[i].val] } := (sb.2 _ (Nat.ne_of_gt hl)).trans hT
    have new : ObjOk X.prog X.w (upd H s.heap.objs.size (.tup [keyV L[i], L[i].2])) h'' s.heap.objs.size (.tup [keyV L[i], L[i].2]) :=
      ⟨by show 2 ≤ sizeLine; decide, [es'[i].key, es'[i].val], .cons (by rw [hen]; exact rk) (.cons (by rw [hen]; exact rv) .nil), ⟨_, hT2, rfl, _, rfl⟩⟩
    have I1 : Inv X pins σ (upd H s.heap.objs.size (.tup [keyV L[i], L[i].2])) { s with heap := h'' } :=
      I.turnedNew (t' := s.toks) (ch := [it]) (fun b ob hb e => (sb.2 b (by simpa using hb)).trans (hk b ob (by simpa using hb) e)) hf (Nat.le_refl _) new
    refine ⟨.ref s.heap.objs.size, _, I1, rfl, ⟨_, L[i], List.getElem?_eq_getElem hi, rfl, I.hok.fresh (Nat.le_refl _), rfl⟩, ⟨_, _, he'⟩, fun b hb => ?_⟩
    have e : b = it := by simpa using hb
    rw [e, upd_ne (Nat.ne_of_lt hl)]
    exact (hf it (by simp)).1
  done := by
    intro X hP hw hK hc i pins s σ H E I hf st hg
    subst hP hw hK
    obtain ⟨hd, hi⟩ := hg
    obtain ⟨f0, f1, f2, f3, f4, f5⟩ := hf it (by simp)
    obtain ⟨hs, hx, hgd, es', ep', hdt, hsz, z, ent⟩ := dic_ents (dic_at I.hok hd)
    obtain ⟨rfl, rfl⟩ := dict_ep hod hdt
    obtain ⟨ok, ov, he⟩ := st
    exact wpAny_pyNext_items_end_raw (I.ok.hd hc) he ⟨ob, hgd, hx, hdt⟩ (by omega) fun h' eb => ⟨rfl, I.turned (t' := s.toks) (fun b ob hb e => eb b ob hb e) f0 f1 f3 f4 f5⟩
  self := fun A i s Q E st h => let ⟨_, _, e⟩ := st; PySem.W.kcp_self e h
theorem walk_keysD : Walk (Itkd w a ob L) L.length (fun H => H a = some (dictH w a ob L)) (fun i H x H' => H' = H ∧ (L.map keyV)[i]? = some x) :=
  ⟨fun _ _ hi q => ⟨q, hi⟩, fun _ q => ⟨q, Nat.le_refl _⟩, fun _ _ _ _ _ _ y => y⟩
theorem walk_valsD : Walk (Itvd w a ob L) L.length (fun H => H a = some (dictH w a ob L)) (fun i H x H' => H' = H ∧ (L.map (·.2))[i]? = some x) :=
  ⟨fun _ _ hi q => ⟨q, hi⟩, fun _ q => ⟨q, Nat.le_refl _⟩, fun _ _ _ _ _ _ y => y⟩
theorem walk_itemsD : Walk (Itid w a ob L) L.length (fun H => H a = some (dictH w a ob L)) (fun i H x H' => ∃ T e, L[i]? = some e ∧ x = .ref T ∧ H T = none ∧ H' = upd H T (.tup [keyV e, e.2])) :=
  ⟨fun _ _ hi q => ⟨q, hi⟩, fun _ q => ⟨q, Nat.le_refl _⟩, fun _ _ _ _ _ _ y => y⟩
end
/-- a dict's iterator -/
def iDic (X : Cx) (J : World → Addr → Obj → List Ent → L2.It) (td : TE) : TI := fun σ H R => td σ H fun x H1 => ∃ a ob L, x = .ref a ∧ H1 a = some (dictH X.w a ob L) ∧ R (J X.w a ob L) H1
section
variable {X : Cx} {tg e : Expr} {td : TE} {apos cpos : Pos}
theorem pi_valsD (he : PE X e td) (hbase : attributeBase e "values" X.env (eval e X.env) = eval e X.env) (hline : (apos.endLine == cpos.line) = true) : PI X tg (.Call (.Attribute e "values" apos) [] [] cpos) (iDic X Itvd td) := by
  refine ⟨fun pins s σ H R I h => ?_⟩
  refine wpAny_Call_method (T := "dict") (id := "dict.values") hbase rfl hline F.plainAttrs_dict F.slot_dict_values F.type_dict_values (thn (he.run pins s σ H _ I h) fun u s1 ⟨x, H1, I1, rx, a, ob, L, ex, hd, q⟩ => ?_)
  subst ex
  obtain rfl : u = Value.ref a := rx
  obtain ⟨hs, hx, hgd, es, ep, hdt, hsz, z, ent⟩ := dic_ents (dic_at I1.hok hd)
  have ht : s1.TypeIs (.ref a) "dict" := ⟨ob, hgd, hx.1⟩
  refine ⟨ht, fun b q => ?_, ?_⟩
  · cases q
    exact ⟨ob, hgd, hx.2.1⟩
  have I2 : Inv X pins σ H1 { s1 with heap := s1.heap.push { cls := .type "dict_values", data := .fields #[.ref a] } } := I1.kept (t' := s1.toks) fun b ob q => Heap.get?_push_of_some _ q
  have fin : wpAny (model X.prog X.w) X.A (pyIter (.ref s1.heap.objs.size)) (PIE X pins σ tg R) X.xe { s1 with heap := s1.heap.push { cls := .type "dict_values", data := .fields #[.ref a] } } := by
    refine wpAny_pyIter_values_raw (d := a) (es := es) (ep := ep) ⟨_, Heap.get?_push_size _ rfl, rfl, rfl⟩ ⟨ob, Heap.get?_push_of_some _ hgd, hx, hdt⟩ (pi_one (tk := s1.toks) I2 _ (turn_valsD _ hdt) ⟨_, Heap.get?_push_size _ rfl, rfl, rfl⟩ q)
  show wpAny _ _ (callWith cpos (.builtin "dict.values") [.ref a] [] []) _ X.xe s1
  exact method_meetsIn F.slot_dict_values F.entry_dict_values rfl (PySem.evalArgs_none ⟨rfl, ht, F.args_dict_values_1 _, _, meets_dict_values_raw a hs, ⟨es, ep, ob, hgd, hx, hdt⟩, fin⟩)
theorem pi_itemsD {elts : List Expr} {kk : Nat} {tpos : Pos} (he : PE X e td) (hbase : attributeBase e "items" X.env (eval e X.env) = eval e X.env) (hline : (apos.endLine == cpos.line) = true) :
    PI X (.Tuple elts kk tpos) (.Call (.Attribute e "items" apos) [] [] cpos) (iDic X Itid td) := by
  refine ⟨fun pins s σ H R I h => ?_⟩
  refine wpAny_Call_method (T := "dict") (id := "dict.items") hbase rfl hline F.plainAttrs_dict F.slot_dict_items F.type_dict_items (thn (he.run pins s σ H _ I h) fun u s1 ⟨x, H1, I1, rx, a, ob, L, ex, hd, q⟩ => ?_)
  subst ex
  obtain rfl : u = Value.ref a := rx
  obtain ⟨hs, hx, hgd, es, ep, hdt, hsz, z, ent⟩ := dic_ents (dic_at I1.hok hd)
  have ht : s1.TypeIs (.ref a) "dict" := ⟨ob, hgd, hx.1⟩
  refine ⟨ht, fun b q => ?_, ?_⟩
  · cases q
    exact ⟨ob, hgd, hx.2.1⟩
  have I2 : Inv X pins σ H1 { s1 with heap := s1.heap.push { cls := .type "dict_items", data := .fields #[.ref a] } } := I1.kept (t' := s1.toks) fun b ob q => Heap.get?_push_of_some _ q
  have fin : wpAny (model X.prog X.w) X.A (pyIter (.ref s1.heap.objs.size)) (PIE X pins σ (.Tuple elts kk tpos) R) X.xe { s1 with heap := s1.heap.push { cls := .type "dict_items", data := .fields #[.ref a] } } := by
    refine wpAny_pyIter_items_raw (d := a) (es := es) (ep := ep) ⟨_, Heap.get?_push_size _ rfl, rfl, rfl⟩ ⟨ob, Heap.get?_push_of_some _ hgd, hx, hdt⟩ (pi_one (tk := s1.toks) I2 _ (turn_itemsD _ hdt) ⟨.none, .none, Heap.get?_push_size _ rfl⟩ q)
  show wpAny _ _ (callWith cpos (.builtin "dict.items") [.ref a] [] []) _ X.xe s1
  exact method_meetsIn F.slot_dict_items F.entry_dict_items rfl (PySem.evalArgs_none ⟨rfl, ht, F.args_dict_items_1 _, _, meets_dict_items_raw a hs, ⟨es, ep, ob, hgd, hx, hdt⟩, fin⟩)
end
end Ev
end
section
set_option linter.all false
set_option autoImplicit false
set_option maxRecDepth 100000
set_option maxHeartbeats 2000000
/-! EvDc: dict comprehensions of two clauses, by the machine; their stores. -/
namespace Dc2
open PySem PySem.Spec PyProof.Rows L2
/-- the text -/
abbrev dcE (kx vx ta ia tb ib : Expr) (fa fb : List Expr) (sc : Scope) (pos : Pos) : Expr := .DictComp kx vx [⟨ta, ia, fa, 0⟩, ⟨tb, ib, fb, 0⟩] sc pos
/-- the tests of a clause -/
abbrev tests (fs : List Expr) (env : Env) : Sem Bool := forIn fs true fun c r => if r = true then do let ok ← isTrue c env (eval c env); pure (ForInStep.yield ok) else pure (ForInStep.yield r)
section
variable (kx vx ta ia tb ib : Expr) (fa fb : List Expr) (sc : Scope) (pos : Pos) (it acc : Value) (D : Addr) (env : Env)
theorem turn_a : compTurn (dcE kx vx ta ia tb ib fa fb sc pos) 0 it acc env = (do
      standAt ia.pos
      match ← pyNext it with
      | none => pure (.done .next)
      | some v =>
        letOwnedTupleGo ta it v
        assign ta env v
        let mut ok := true
        for c in fa do
          if ok then ok ← isTrue c env (eval c env)
        if ok then
          let x ← eval ib env
          standAt ib.pos
          let x ← foldedSetIterable ib env x
          let _ ← runOwn (.compStart (dcE kx vx ta ia tb ib fa fb sc pos) 1 (← holding [x] (pyIter x)) acc env) env
        again (.compLoop (dcE kx vx ta ia tb ib fa fb sc pos) 0 it acc env)) := by rfl
theorem turn_b : compTurn (dcE kx vx ta ia tb ib fa fb sc pos) 1 it (.ref D) env = (do
      standAt ib.pos
      match ← pyNext it with
      | none => pure (.done .next)
      | some v =>
        letOwnedTupleGo tb it v
        assign tb env v
        let mut ok := true
        for c in fb do
          if ok then ok ← isTrue c env (eval c env)
        if ok then
          (do
            let kv ← eval kx env
            let vv ← holding [kv] (eval vx env)
            standAt { kx.pos with endLine := vx.pos.endLine, endCol := vx.pos.endCol }
            holding [kv, vv] (dictSet D kv vv))
        again (.compLoop (dcE kx vx ta ia tb ib fa fb sc pos) 1 it (.ref D) env)) := by rfl
end
section
variable {prog : Program} {w : World} {A : Around} {R : Result → Shared → Prop} {s : Shared} {kx vx ta ia tb ib : Expr} {fa fb : List Expr} {sc : Scope} {pos : Pos} {it acc : Value} {D : Addr} {env : Env}
/-- what is done with an error -/
abbrev bad (prog : Program) (w : World) (A : Around) (env : Env) (R : Result → Shared → Prop) : Value → Shared → Prop := notedBy (model prog w) A env fun e s' => R (.error e) s'
/-- the outer loop -/
theorem loop_a (hs : ∀ x, foldedSetIterable ib env x = pure x) (I : Nat → Shared → Prop)
    (turn : ∀ n s, I n s → wpAny (model prog w) A (pyNext it) (fun r s1 => match r with
      | none => R (.ok .next) s1
      | some v => wpAny (model prog w) A (letOwnedTupleGo ta it v) (fun _ s2 => wpAny (model prog w) A (assign ta env v) (fun _ s3 => wpAny (model prog w) A (tests fa env) (fun ok s4 =>
            if ok = true then wpAny (model prog w) A (eval ib env) (fun x s5 => wpAny (model prog w) A (pyIter x) (fun itb s6 =>
              codeAny (model prog w) A (.compStart (dcE kx vx ta ia tb ib fa fb sc pos) 1 itb acc env) (fun r s' => match r with
                | .ok _ => ∃ m, m < n ∧ I m s'
                | .error _ => False) s6) (bad prog w A env R) s5) (bad prog w A env R) s4
            else ∃ m, m < n ∧ I m s4) (bad prog w A env R) s3) (bad prog w A env R) s2) (bad prog w A env R) s1) (bad prog w A env R) s)
    (n : Nat) (h : I n s) : codeAny (model prog w) A (.compLoop (dcE kx vx ta ia tb ib fa fb sc pos) 0 it acc env) R s := by
  refine codeAny_loop rfl I (fun n s hI => ?_) n h
  show wpAny _ A ((compTurn (dcE kx vx ta ia tb ib fa fb sc pos) 0 it acc env).onRaise (fun x => do noteFrame x env; theTreesLotGoes x)) _ _ s
  refine wpAny_noted ?_
  rw [turn_a]
  refine wpAny_bind (wpAny_standAt (wpAny_bind (wpAny_mono (turn n s hI) (fun r s1 h1 => ?_) fun _ _ z => z)))
  cases r with
  | none => exact wpAny_pure h1
  | some v =>
    refine wpAny_bind (wpAny_mono h1 (fun _ s2 h2 => ?_) fun _ _ z => z)
    refine wpAny_bind (wpAny_mono h2 (fun _ s3 h3 => wpAny_bind (wpAny_mono h3 (fun ok s4 h4 => ?_) fun _ _ z => z)) fun _ _ z => z)
    cases ok with
    | false => exact wpAny_pure ⟨rfl, h4⟩
    | true =>
      refine wpAny_bind (wpAny_mono h4 (fun x s5 h5 => ?_) fun _ _ z => z)
      refine wpAny_bind (wpAny_standAt (wpAny_bind (wpAny_of_eq (hs x) (wpAny_bind (wpAny_holding (wpAny_mono h5 (fun itb s6 h6 => ?_) fun _ _ z => z))))))
      refine wpAny_bind (wpAny_runOwn ?_)
      rw [Around.mark_none]
      refine codeAny_mono h6 fun r s' hr => ?_
      cases r with
      | error e => exact hr.elim
      | ok f => first
          | exact wpAny_pure ⟨rfl, hr⟩
          | exact wpAny_bind (wpAny_pure (wpAny_pure ⟨rfl, hr⟩))
/-- the inner one -/
theorem loop_b (I : Nat → Shared → Prop)
    (turn : ∀ n s, I n s → wpAny (model prog w) A (pyNext it) (fun r s1 => match r with
      | none => R (.ok .next) s1
      | some v => wpAny (model prog w) A (letOwnedTupleGo tb it v) (fun _ s2 => wpAny (model prog w) A (assign tb env v) (fun _ s3 => wpAny (model prog w) A (tests fb env) (fun ok s4 =>
            if ok = true then wpAny (model prog w) A (eval kx env) (fun kv s5 => wpAny (model prog w) A (eval vx env) (fun vv s6 =>
              wpAny (model prog w) A (dictSet D kv vv) (fun _ s7 => ∃ m, m < n ∧ I m s7) (bad prog w A env R) s6) (bad prog w A env R) s5) (bad prog w A env R) s4
            else ∃ m, m < n ∧ I m s4) (bad prog w A env R) s3) (bad prog w A env R) s2) (bad prog w A env R) s1) (bad prog w A env R) s)
    (n : Nat) (h : I n s) : codeAny (model prog w) A (.compLoop (dcE kx vx ta ia tb ib fa fb sc pos) 1 it (.ref D) env) R s := by
  refine codeAny_loop rfl I (fun n s hI => ?_) n h
  show wpAny _ A ((compTurn (dcE kx vx ta ia tb ib fa fb sc pos) 1 it (.ref D) env).onRaise (fun x => do noteFrame x env; theTreesLotGoes x)) _ _ s
  refine wpAny_noted ?_
  rw [turn_b]
  refine wpAny_bind (wpAny_standAt (wpAny_bind (wpAny_mono (turn n s hI) (fun r s1 h1 => ?_) fun _ _ z => z)))
  cases r with
  | none => exact wpAny_pure h1
  | some v =>
    refine wpAny_bind (wpAny_mono h1 (fun _ s2 h2 => ?_) fun _ _ z => z)
    refine wpAny_bind (wpAny_mono h2 (fun _ s3 h3 => wpAny_bind (wpAny_mono h3 (fun ok s4 h4 => ?_) fun _ _ z => z)) fun _ _ z => z)
    cases ok with
    | false => exact wpAny_pure ⟨rfl, h4⟩
    | true =>
      refine wpAny_bind (wpAny_bind (wpAny_mono h4 (fun kv s5 h5 => ?_) fun _ _ z => z))
      refine wpAny_bind (wpAny_holding (wpAny_mono h5 (fun vv s6 h6 => ?_) fun _ _ z => z))
      exact wpAny_bind (wpAny_standAt (wpAny_holding (wpAny_mono h6 (fun _ s7 h7 => wpAny_pure ⟨rfl, h7⟩) fun _ _ z => z)))
/-- how the inner one starts -/
theorem start_b (h0 : codeAny (model prog w) A (.compLoop (dcE kx vx ta ia tb ib fa fb sc pos) 1 it acc env) R s)
    (h : wpAny (model prog w) A (pyIter it) (fun it' s' => codeAny (model prog w) A (.compLoop (dcE kx vx ta ia tb ib fa fb sc pos) 1 it' acc env) R s') (bad prog w A env R) s) :
    codeAny (model prog w) A (.compStart (dcE kx vx ta ia tb ib fa fb sc pos) 1 it acc env) R s := by
  refine codeAny_of_tree ?_
  show wpAny _ _ ((compStart (dcE kx vx ta ia tb ib fa fb sc pos) 1 it acc env).onRaise (fun x => do noteFrame x env; standAt theWindowsPlace)) _ _ s
  refine wpAny_notedAt ?_
  unfold compStart
  show wpAny _ _ (ask >>= _) _ _ s
  refine wpAny_bind (wpAny_askSetting (wpAny_ite ?_))
  split
  · first
      | exact wpAny_pure (And.intro rfl h0)
      | exact wpAny_bind (wpAny_pure (wpAny_pure (And.intro rfl h0)))
  · first
      | exact wpAny_bind (wpAny_rule (wpAny_bind (wpAny_standAt (wpAny_bind (wpAny_mono h (fun it' s' h' => wpAny_pure (And.intro rfl h')) fun _ _ z => z)))))
      | (refine wpAny_bind (wpAny_rule ?_)
         show wpAny _ _ (standAt ib.pos >>= _) _ _ s
         exact wpAny_bind (wpAny_standAt (wpAny_bind (wpAny_mono h (fun it' s' h' => wpAny_pure (And.intro rfl h')) fun _ _ z => z))))
end
section
variable {X : Cx}
/-- what the inner parts of the block keep -/
abbrev InB (X : Cx) (sc : Scope) (p : Cx → Prop) : Prop := ∀ (s : Shared) (H : Hp) (C : Addr) (cl : List (Str × Addr)) (fp : List Addr), p (X.blk s H sc (compEnvC sc cl C X.env) fp)
/-- {k: v for .. for ..} at D -/
def tDc2 (wi : TI) (g : TG) (tt : TT) (wi1 : TI) (g1 : TG) (tt1 : TT) (tk tv : TE) (vs vs1 : List Nat) : TE := fun σ H Q => wi σ H fun J H1 => ∀ D, H1 D = none → ∃ W : Nat → Nat → Hp → Prop, (∃ m, W 0 m (upd H1 D (.dK []))) ∧ ∀ i m H, W i m H →
  (J.stop i H ∧ Q (.ref D) H) ∨ (J.go i H ∧ ∃ Nx : Hp → Prop, (∀ H', Nx H' → ∃ m', m' < m ∧ W (i + 1) m' H') ∧ ∀ x H', J.yld i H x H' → g x (wipe σ vs) H' fun σ2 H2 => wipe σ2 vs = wipe σ vs ∧ tt σ2 H2 fun b H3 =>
    if b = true then wi1 σ2 H3 fun J1 H4 => ∃ W1 : Nat → Nat → Hp → Prop, (∃ m, W1 0 m H4) ∧ ∀ j k H, W1 j k H →
      (J1.stop j H ∧ Nx H) ∨ (J1.go j H ∧ ∃ Nx1 : Hp → Prop, (∀ H', Nx1 H' → ∃ k', k' < k ∧ W1 (j + 1) k' H') ∧ ∀ x H', J1.yld j H x H' → g1 x (wipe σ2 vs1) H' fun σ3 H5 => wipe σ3 vs1 = wipe σ2 vs1 ∧ tt1 σ3 H5 fun b H6 =>
        if b = true then tk σ3 H6 fun y H7 => tv σ3 H7 fun z H8 => ∃ L k, y = kV k ∧ H8 D = some (.dK L) ∧ L.length < sizeLine ∧ Nx1 (upd H8 D (.dK (putK L k z))) else Nx1 H6)
    else Nx H3)
theorem core {pins : List (Addr × Obj)} {s : Shared} {σ : L2.St} {H : Hp} {Q : VK} {kx vx ta ia tb ib : Expr} {fa fb : List Expr} {sc : Scope} {own : List (Str × Nat)} {vs1 : List Nat} {pos pos' : Pos} {wi wi1 : TI} {g g1 : TG} {tt tt1 : TT} {tk tv : TE} {use : Option (Value → Sem Unit)} {Qf : Value → Shared → Prop}
    (hc : X.calm = true) (hN : X.N.Nodup) (I : L2.Inv X pins σ H s) (hi : PI X ta ia wi) (ok : BlkOk X.N X.env.scope sc own) (hv : ∀ i ∈ vs1, i ∈ own.map (·.2))
    (hg : InB X sc fun c => PG c ta g) (ht : InB X sc fun c => PTs c fa tt) (hk : InB X sc fun c => PE c kx tk) (he : InB X sc fun c => PE c vx tv) (hs : ∀ x, foldedSetIterable ia X.env x = pure x)
    (hi1 : InB X sc fun c => PI c tb ib wi1) (hg1 : InB X sc fun c => PG c tb g1) (ht1 : InB X sc fun c => PTs c fb tt1) (hs1 : ∀ env x, foldedSetIterable ib env x = pure x)
    (h : tDc2 wi g tt wi1 g1 tt1 tk tv (own.map (·.2)) vs1 σ H Q)
    (hRR : ∀ D C s' m H', L2.Inv X pins σ H' s' → Q (.ref D) H' → s'.heap.Ns C m → FpOk X pins H' C → compPost (model X.prog X.w) X.A X.xe use Qf (.ref D) C (.ok .next) s') :
    wpAny (model X.prog X.w) X.A (comprehension (dcE kx vx ta ia tb ib fa fb sc pos) sc X.env pos' newDict false (eval ia X.env) use) Qf X.xe s := by
  have cells : ∀ y ∈ sc.names, y.2 = .free → ∃ c, X.env.cells.lookup y.1 = some c := fun y hy e => (ok.free y hy e).elim (fun k => I.ok.has _ (.inl k)) fun k => I.ok.has _ (.inr k)
  refine wpAny_comprehension_free (use := use) rfl hs (closure_ok cells) ok.kind (fun y hy e => by rw [ok.uniq y hy, e]) (thn (hi.run pins s σ H _ I h) fun xv s1 hx => thn hx fun itv s2 h2 => ?_)
  obtain ⟨it, fp, tn, J, H2, e, I2, T, st2, f2, q⟩ := h2
  subst e
  refine wpAny_newObj_type (newEnv_comp ?_)
  generalize hD : s2.heap.objs.size = D
  have hDn : H2 D = none := I2.hok.fresh (Nat.le_of_eq hD)
  obtain ⟨W, ⟨m0, w0⟩, turn⟩ := q D hDn
  generalize hs3 : ({ s2 with heap := s2.heap.push { cls := .type "dict", data := .dict #[] } } : Shared) = s3
  have I3 : L2.Inv X pins σ (upd H2 D (.dK [])) s3 := by
    rw [← hs3]
    refine I2.laid (t' := s2.toks) (fun b o e => Heap.get?_push_of_some _ e) (Nat.le_of_eq hD) ?_
    rw [← hD]
    exact dk_empty s2.heap I2.big
  have h3 : s3.heap = s2.heap.push { cls := .type "dict", data := .dict #[] } := by rw [← hs3]
  have f3 : ∀ b ∈ fp, FpOk X pins (upd H2 D (.dK [])) b ∧ b < s3.heap.objs.size := fun b hb => by
    obtain ⟨o, eo, _⟩ := T.obj _ _ st2 b hb
    have hlt := Heap.lt_size eo
    have hne : b ≠ D := by rw [← hD]; exact Nat.ne_of_lt hlt
    exact ⟨⟨by rw [upd_ne hne]; exact (f2 b hb).1, (f2 b hb).2⟩, by rw [h3, Heap.size_push]; exact Nat.lt_succ_of_lt hlt⟩
  have st3 : tn 0 s3.heap := T.keep _ _ _ st2 fun b _ o e => by rw [h3]; exact Heap.get?_push_of_some _ e
  have I4 := block_start I3 ok hN f3
  generalize hH3 : upd H2 D (.dK []) = H3 at I3 I4 w0 f3
  generalize hcl : cellsFrom (s3.heap.objs.size + 1) sc.names (cloFrom X.env.cells sc.names []) = cl at I4
  have pg := hg s3 H3 s3.heap.objs.size cl fp
  have pt := ht s3 H3 s3.heap.objs.size cl fp
  have pk := hk s3 H3 s3.heap.objs.size cl fp
  have pe := he s3 H3 s3.heap.objs.size cl fp
  have pi1 := hi1 s3 H3 s3.heap.objs.size cl fp
  have pg1 := hg1 s3 H3 s3.heap.objs.size cl fp
  have pt1 := ht1 s3 H3 s3.heap.objs.size cl fp
  show codeAny _ _ (.compStart (dcE kx vx ta ia tb ib fa fb sc pos) 0 (.ref it) (.ref D) (compEnvC sc cl s3.heap.objs.size X.env)) (compPost (model X.prog X.w) X.A X.xe use Qf (.ref D) s3.heap.objs.size) { s3 with heap := pushCells (s3.heap.push { cls := .type "dict", data := .dict #[] }) sc.names }
  have nfp : ∀ b ∈ fp, H3 b = none := fun b hb => (f3 b hb).1.1
  generalize hce : compEnvC sc cl s3.heap.objs.size X.env = ce at I4 pg pt pk pe pi1 pg1 pt1 ⊢
  have cL : ce.locals = s3.heap.objs.size := by subst hce; rfl
  generalize hs4 : ({ s3 with heap := pushCells (s3.heap.push { cls := .type "dict", data := .dict #[] }) sc.names } : Shared) = s4 at I4 ⊢
  have st4 : tn 0 s4.heap := T.keep _ _ _ st3 fun b _ o e => by rw [← hs4]; exact pushCells_keeps _ _ _ _ (Heap.get?_push_of_some _ e)
  let Y := X.blk s3 H3 sc ce fp
  have stat : ∀ {σ' : L2.St} {H' : Hp} {s' : Shared}, L2.Inv Y [] σ' H' s' → (∀ b ∈ fp, H' b = none) → ∀ b ∈ fp, FpOk Y [] H' b := fun {σ' H' s'} I' hn b hb =>
    ⟨hn b hb, (I'.ok.exf b hb).1, I'.ok.exfs b hb, .inl hb, fun x c e => (I'.ok.exf b hb).2 x c e, fun p hp => absurd (show p ∈ ([] : List (Addr × Obj)) ++ [] from hp) (by simp)⟩
  have loop : codeAny (model X.prog X.w) X.A (.compLoop (dcE kx vx ta ia tb ib fa fb sc pos) 0 (.ref it) (.ref D) ce) (compPost (model X.prog X.w) X.A X.xe use Qf (.ref D) s3.heap.objs.size) s4 := by
    refine loop_a (hs1 ce) (fun n s' => ∃ i H', L2.Inv Y [] (wipe σ (own.map (·.2))) H' s' ∧ tn i s'.heap ∧ (∀ b ∈ fp, H' b = none) ∧ W i n H') ?_ m0 ⟨0, H3, I4, st4, nfp, w0⟩
    rintro n s5 ⟨i, H5, I5, st5, n5, w5⟩
    rcases turn i n H5 w5 with ⟨stop, qq⟩ | ⟨go, Nx, hNx, step⟩
    · refine thnF (T.done Y rfl rfl rfl hc i [] s5 _ H5 (fun _ _ => False) I5 (stat I5 n5) st5 stop) fun r s6 ⟨hr, I6⟩ => ?_
      subst hr
      have I7 : L2.Inv X pins σ H5 s6 := I3.call' (ch := fp) I6.os I6.base I6.hok I6.bare fun b hb =>
        let z := (f3 b hb).1.2
        ⟨z.2.2.1, z.1, z.2.2.2.1, z.2.2.2.2⟩
      have nC : H5 s3.heap.objs.size = none := by
        have z : H5 ce.locals = none := I6.free
        rw [cL] at z
        exact z
      obtain ⟨m, hn, _⟩ := I6.loc
      have hn : s6.heap.Ns ce.locals m := hn
      rw [cL] at hn
      exact hRR D s3.heap.objs.size s6 m H5 I7 qq hn (I3.fpOk (Nat.le_refl _) nC)
    · refine thnF (T.item Y rfl rfl rfl hc i [] s5 _ H5 (fun _ _ => False) I5 (stat I5 n5) st5 go) fun r s6 ⟨u, hr, h6⟩ => ?_
      subst hr
      refine thnF h6 fun _ s7 ⟨x, H7, I7, r7, y7, st7, n7⟩ => ?_
      have P7 := I7.pinned (stat I7 n7) (T.obj _ _ st7)
      refine thnF (pg.run _ s7 _ H7 x u _ P7 r7 (step x H7 y7)) fun _ s8 ⟨σ8, H8, I8, w8, q8⟩ => ?_
      refine thnF (pt.run _ s8 σ8 H8 _ I8 q8) fun b s9 ⟨H9, I9, q9⟩ => ?_
      -- how a turn ends
      have fin : ∀ {σ9 : L2.St} {s' : Shared} {H' : Hp}, L2.Inv Y ([] ++ pinsAt fp s7.heap) σ9 H' s' → (wipe σ (own.map (·.2))).length = σ9.length → (∀ (j : Nat) v, (wipe σ (own.map (·.2)))[j]? = some (some v) → σ9[j]? = some (some v)) → Nx H' →
          ∃ m, m < n ∧ ∃ i H', L2.Inv Y [] (wipe σ (own.map (·.2))) H' s' ∧ tn i s'.heap ∧ (∀ b ∈ fp, H' b = none) ∧ W i m H' := fun {σ9 s' H'} I' hl hkp nx => by
        obtain ⟨m', hm, w'⟩ := hNx H' nx
        have stay : ∀ b ∈ fp, ∀ o, s7.heap.get? b = some o → s'.heap.get? b = some o ∧ H' b = none := fun b hb o eo => by
          have z := I'.pin (b, o) (List.mem_append_right _ (List.mem_append_right _ (mem_pinsAt hb eo)))
          exact ⟨z.1, z.2.1⟩
        refine ⟨m', hm, i + 1, H', (I'.unpinned (pins := [])).weak hl hkp, T.keep _ _ _ st7 fun b hb o e => (stay b hb o e).1, fun b hb => ?_, w'⟩
        obtain ⟨o, eo, _⟩ := T.obj _ _ st7 b hb
        exact (stay b hb o eo).2
      have l8 : (wipe σ (own.map (·.2))).length = σ8.length := by rw [← w8, wipe_length]
      have k8 : ∀ (j : Nat) v, (wipe σ (own.map (·.2)))[j]? = some (some v) → σ8[j]? = some (some v) ∧ j ∉ own.map (·.2) := fun j v e => by
        rw [← w8] at e
        exact wipe_some e
      cases b with
      | false =>
        simp only [Bool.false_eq_true, if_false] at q9 ⊢
        exact fin I9 l8 (fun j v e => (k8 j v e).1) q9
      | true =>
        simp only [if_true] at q9 ⊢
        refine thnF (pi1.run _ s9 σ8 H9 _ I9 q9) fun xv s10 hx => thnF hx fun itv s11 h11 => ?_
        obtain ⟨itb, fp1, tn1, J1, H11, e1, I11, T1, st11, f11, W1, ⟨m1, w1⟩, turn1⟩ := h11
        subst e1
        have stat1 : ∀ {H' : Hp}, (∀ b ∈ fp1, H' b = none) → ∀ b ∈ fp1, FpOk Y ([] ++ pinsAt fp s7.heap) H' b := fun hn b hb => ⟨hn b hb, (f11 b hb).2⟩
        have inner : codeAny (model X.prog X.w) X.A (.compLoop (dcE kx vx ta ia tb ib fa fb sc pos) 1 (.ref itb) (.ref D) ce)
            (fun r s' => match r with
              | .ok _ => ∃ m, m < n ∧ ∃ i H', L2.Inv Y [] (wipe σ (own.map (·.2))) H' s' ∧ tn i s'.heap ∧ (∀ b ∈ fp, H' b = none) ∧ W i m H'
              | .error _ => False) s11 := by
          refine loop_b (fun k s' => ∃ j H', L2.Inv Y ([] ++ pinsAt fp s7.heap) (wipe σ8 vs1) H' s' ∧ tn1 j s'.heap ∧ (∀ b ∈ fp1, H' b = none) ∧ W1 j k H') ?_ m1 ⟨0, H11, I11.weak (wipe_length _ _) (fun j v e => (wipe_some e).1), st11, fun b hb => (f11 b hb).1, w1⟩
          rintro k s12 ⟨j, H12, I12, st12, n12, w12⟩
          rcases turn1 j k H12 w12 with ⟨stop1, nx1⟩ | ⟨go1, Nx1, hNx1, step1⟩
          · refine thnF (T1.done Y rfl rfl rfl hc j _ s12 (wipe σ8 vs1) H12 (fun _ _ => False) I12 (stat1 n12) st12 stop1) fun r s13 ⟨hr, I13⟩ => ?_
            subst hr
            refine fin I13 (l8.trans (wipe_length σ8 vs1).symm) (fun j v e => ?_) nx1
            obtain ⟨z1, z2⟩ := k8 j v e
            rw [wipe_out fun z => z2 (hv j z)]
            exact z1
          · refine thnF (T1.item Y rfl rfl rfl hc j _ s12 (wipe σ8 vs1) H12 (fun _ _ => False) I12 (stat1 n12) st12 go1) fun r s13 ⟨u1, hr, h13⟩ => ?_
            subst hr
            refine thnF h13 fun _ s14 ⟨x1, H14, I14, r14, y14, st14, n14⟩ => ?_
            have P14 := I14.pinned (stat1 n14) (T1.obj _ _ st14)
            refine thnF (pg1.run _ s14 (wipe σ8 vs1) H14 x1 u1 _ P14 r14 (step1 x1 H14 y14)) fun _ s15 ⟨σ15, H15, I15, w15, q15⟩ => ?_
            refine thnF (pt1.run _ s15 σ15 H15 _ I15 q15) fun b1 s16 ⟨H16, I16, q16⟩ => ?_
            have fin1 : ∀ {s' : Shared} {H' : Hp}, L2.Inv Y (([] ++ pinsAt fp s7.heap) ++ pinsAt fp1 s14.heap) σ15 H' s' → Nx1 H' → ∃ m, m < k ∧ ∃ j H', L2.Inv Y ([] ++ pinsAt fp s7.heap) (wipe σ8 vs1) H' s' ∧ tn1 j s'.heap ∧ (∀ b ∈ fp1, H' b = none) ∧ W1 j m H' := fun {s' H'} I' nx => by
              obtain ⟨m', hm, w'⟩ := hNx1 H' nx
              have stay : ∀ b ∈ fp1, ∀ o, s14.heap.get? b = some o → s'.heap.get? b = some o ∧ H' b = none := fun b hb o eo => by
                have z := I'.pin (b, o) (List.mem_append_right _ (List.mem_append_right _ (mem_pinsAt hb eo)))
                exact ⟨z.1, z.2.1⟩
              refine ⟨m', hm, j + 1, H', I'.unpinned.weak (by rw [← w15, wipe_length]) (fun j v e => by rw [← w15] at e; exact (wipe_some e).1), T1.keep _ _ _ st14 fun b hb o e => (stay b hb o e).1, fun b hb => ?_, w'⟩
              obtain ⟨o, eo, _⟩ := T1.obj _ _ st14 b hb
              exact (stay b hb o eo).2
            cases b1 with
            | false =>
              simp only [Bool.false_eq_true, if_false] at q16 ⊢
              exact fin1 I16 q16
            | true =>
              simp only [if_true] at q16 ⊢
              refine thnF (pk.run _ s16 σ15 H16 _ I16 q16) fun z s17 ⟨yk, H17, I17, r17, q17⟩ => ?_
              refine thnF (pe.run _ s17 σ15 H17 _ I17 q17) fun z2 s18 ⟨yv, H18, I18, r18, L, k1, ek, hD18, hz18, nx⟩ => ?_
              subst ek
              exact d_dictSet (X := Y) I18 hD18 hz18 r17 r18 fun s19 I19 => fin1 I19 nx
        exact start_b inner (T1.self X.A 0 _ _ _ st11 inner)
  exact codeAny_compStart_dict loop (T.self X.A 0 _ _ _ st4 loop)
end
end Dc2
namespace Ev
open PySem PySem.Spec PyProof.Rows L2
section
variable {X : Cx}
/-- the dict's object told -/
def toD (K : World) (t : TE) : TE := fun σ H Q => t σ H fun v H' => ∃ D L, v = .ref D ∧ H' D = some (.dK L) ∧ ∀ o, Q (.ref D) (upd H' D (dictH K D o (emK L)))
theorem pe_toD {e : Expr} {t : TE} (h : PE X e t) : PE X e (toD X.w t) := ⟨fun pins s σ H Q I hq => thn (h.run pins s σ H _ I hq) fun v s1 ⟨x, H1, I1, rx, D, L, e1, e2, q⟩ => by
  subst e1
  obtain ⟨o, I2⟩ := todict I1 e2
  exact ⟨_, _, I2, rx, q o⟩⟩
theorem pe_dc2 {kx vx ta ia tb ib : Expr} {fa fb : List Expr} {sc : Scope} {own : List (Str × Nat)} {vs1 : List Nat} {pos : Pos} {wi wi1 : TI} {g g1 : TG} {tt tt1 : TT} {tk tv : TE}
    (hc : X.calm = true) (hN : X.N.Nodup) (hi : PI X ta ia wi) (ok : BlkOk X.N X.env.scope sc own) (hv : ∀ i ∈ vs1, i ∈ own.map (·.2))
    (hg : Dc2.InB X sc fun c => PG c ta g) (ht : Dc2.InB X sc fun c => PTs c fa tt) (hi1 : Dc2.InB X sc fun c => PI c tb ib wi1) (hg1 : Dc2.InB X sc fun c => PG c tb g1) (ht1 : Dc2.InB X sc fun c => PTs c fb tt1)
    (hk : Dc2.InB X sc fun c => PE c kx tk) (he : Dc2.InB X sc fun c => PE c vx tv) (hs : ∀ x, foldedSetIterable ia X.env x = pure x) (hs1 : ∀ env x, foldedSetIterable ib env x = pure x) :
    PE X (Dc2.dcE kx vx ta ia tb ib fa fb sc pos) (toD X.w (Dc2.tDc2 wi g tt wi1 g1 tt1 tk tv (own.map (·.2)) vs1)) := by
  refine pe_toD ⟨fun pins s σ H Q I h => ?_⟩
  rw [arm_eval_DictComp]
  refine Dc2.core hc hN I hi ok hv hg ht hk he hs hi1 hg1 ht1 hs1 h fun D C s' m H' I' q hn f => ⟨m, hn, fun h2 sb => ?_⟩
  exact ⟨.ref D, H', I'.turned (t' := s'.toks) (fun b o hb e => (sb.2 b hb).trans e) f.1 f.2.1 f.2.2.2.1 f.2.2.2.2.1 f.2.2.2.2.2, rfl, q⟩
/-- the store behind it -/
theorem dc_store {i : Nat} {y : Str} {py : Pos} {pins : List (Addr × Obj)} {σ : L2.St} {H' : Hp} {s' : Shared} {Dn : Ends} {L : Addr} {C : Addr} {m : Str → Option Value} (hN : X.N.Nodup) (hy : X.N[i]? = some y) (hl : X.env.scope.names.lookup y = some .local)
    (I' : L2.Inv X pins σ H' s') (q : ∃ D M, V.ref L = .ref D ∧ H' D = some (.dK M) ∧ ∀ o, gName i (.ref D) σ (upd H' D (dictH X.w D o (emK M))) Dn.nx) (hn : s'.heap.Ns C m) (f : FpOk X pins H' C) :
    compPost (model X.prog X.w) X.A X.xe (some (assign (.Name y py) X.env)) (fun _ s' => SP X pins Dn .next s') (.ref L) C (.ok .next) s' := by
  obtain ⟨D, M, e1, e2, q⟩ := q
  cases e1
  obtain ⟨o, I1⟩ := todict I' e2
  have q := q o
  have f0 : upd H' L (dictH X.w L o (emK M)) C = none := by
    rw [upd_ne fun z => by have y := f.1; rw [z, e2] at y; cases y]
    exact f.1
  show wpAny _ _ (assign (.Name y py) X.env (.ref L)) _ _ _
  refine wpAny_assign_Name (store_ok2 (v := V.ref L) I1 hN hy (.inl hl) rfl (fun s2 I2 ⟨a, sb, ha⟩ => ?_) (.inr hl))
  have hne : C ≠ a := ha.elim (fun z => by rw [z]; exact f.2.1) fun z e => f.2.2.2.2.1 y a z e.symm
  refine ⟨m, hn.sameBut sb hne, fun h3 sb3 => ?_⟩
  exact ⟨_, _, I2.turned (t' := s2.toks) (fun b o hb e => (sb3.2 b hb).trans e) f0 f.2.1 f.2.2.2.1 f.2.2.2.2.1 f.2.2.2.2.2, q⟩
theorem ps_setDc2 {i : Nat} {y : Str} {py spos : Pos} {kx vx ta ia tb ib : Expr} {fa fb : List Expr} {sc : Scope} {own : List (Str × Nat)} {vs1 : List Nat} {pos : Pos} {wi wi1 : TI} {g g1 : TG} {tt tt1 : TT} {tk tv : TE}
    (hc : X.calm = true) (hN : X.N.Nodup) (hy : X.N[i]? = some y) (hyl : X.env.scope.names.lookup y = some .local) (hsw : swapsWith (Dc2.dcE kx vx ta ia tb ib fa fb sc pos) (some (.Name y py)) spos.line X.env = pure true)
    (hi : PI X ta ia wi) (ok : BlkOk X.N X.env.scope sc own) (hv : ∀ i ∈ vs1, i ∈ own.map (·.2))
    (hg : Dc2.InB X sc fun c => PG c ta g) (ht : Dc2.InB X sc fun c => PTs c fa tt) (hi1 : Dc2.InB X sc fun c => PI c tb ib wi1) (hg1 : Dc2.InB X sc fun c => PG c tb g1) (ht1 : Dc2.InB X sc fun c => PTs c fb tt1)
    (hk : Dc2.InB X sc fun c => PE c kx tk) (he : Dc2.InB X sc fun c => PE c vx tv) (hs : ∀ x, foldedSetIterable ia X.env x = pure x) (hs1 : ∀ env x, foldedSetIterable ib env x = pure x) :
    PS X (.Assign [.Name y py] (Dc2.dcE kx vx ta ia tb ib fa fb sc pos) spos) (tAsg (toD X.w (Dc2.tDc2 wi g tt wi1 g1 tt1 tk tv (own.map (·.2)) vs1)) (gName i)) := by
  refine ⟨fun pins s σ H D I h => ?_⟩
  rw [exec_Assign_Name_used _ _ _ _ hsw]
  refine wpAny_bind (wpAny_standAt (wpAny_bind ?_))
  show wpAny _ X.A (do let _ ← comprehension (Dc2.dcE kx vx ta ia tb ib fa fb sc pos) sc X.env (firstIterPos [⟨ta, ia, fa, 0⟩, ⟨tb, ib, fb, 0⟩] pos) newDict false (eval ia X.env) (some (assign (.Name y py) X.env))) _ _ s
  have h : Dc2.tDc2 wi g tt wi1 g1 tt1 tk tv (own.map (·.2)) vs1 σ H (fun v H' => ∃ D' L, v = .ref D' ∧ H' D' = some (.dK L) ∧ ∀ o, gName i (.ref D') σ (upd H' D' (dictH X.w D' o (emK L))) D.nx) := h
  refine wpAny_bind (thn (Dc2.core (Qf := fun _ s' => SP X pins D .next s') hc hN I hi ok hv hg ht hk he hs hi1 hg1 ht1 hs1 h fun L C s' m H' I' q hn f => dc_store hN hy hyl I' q hn f) fun _ s' hq => wpAny_pure (wpAny_pure hq))
/-- one clause -/
theorem pe_dc1 {kx vx ta ia : Expr} {fa : List Expr} {sc : Scope} {own : List (Str × Nat)} {pos : Pos} {wi : TI} {g : TG} {tt : TT} {tk tv : TE}
    (hc : X.calm = true) (hN : X.N.Nodup) (hi : PI X ta ia wi) (ok : BlkOk X.N X.env.scope sc own)
    (hg : Dc2.InB X sc fun c => PG c ta g) (ht : Dc2.InB X sc fun c => PTs c fa tt) (hk : Dc2.InB X sc fun c => PE c kx tk) (he : Dc2.InB X sc fun c => PE c vx tv) (hs : ∀ x, foldedSetIterable ia X.env x = pure x) :
    PE X (.DictComp kx vx [⟨ta, ia, fa, 0⟩] sc pos) (toD X.w (tDc wi g tt tk tv (own.map (·.2)))) := pe_toD (pe_dc hc hN hi ok hg ht hk he hs)
theorem ps_setDc1 {i : Nat} {y : Str} {py spos : Pos} {kx vx ta ia : Expr} {fa : List Expr} {sc : Scope} {own : List (Str × Nat)} {pos : Pos} {wi : TI} {g : TG} {tt : TT} {tk tv : TE}
    (hc : X.calm = true) (hN : X.N.Nodup) (hy : X.N[i]? = some y) (hyl : X.env.scope.names.lookup y = some .local) (hsw : swapsWith (.DictComp kx vx [⟨ta, ia, fa, 0⟩] sc pos) (some (.Name y py)) spos.line X.env = pure true)
    (hi : PI X ta ia wi) (ok : BlkOk X.N X.env.scope sc own)
    (hg : Dc2.InB X sc fun c => PG c ta g) (ht : Dc2.InB X sc fun c => PTs c fa tt) (hk : Dc2.InB X sc fun c => PE c kx tk) (he : Dc2.InB X sc fun c => PE c vx tv) (hs : ∀ x, foldedSetIterable ia X.env x = pure x) :
    PS X (.Assign [.Name y py] (.DictComp kx vx [⟨ta, ia, fa, 0⟩] sc pos) spos) (tAsg (toD X.w (tDc wi g tt tk tv (own.map (·.2)))) (gName i)) := by
  refine ⟨fun pins s σ H D I h => ?_⟩
  rw [exec_Assign_Name_used _ _ _ _ hsw]
  refine wpAny_bind (wpAny_standAt (wpAny_bind ?_))
  show wpAny _ X.A (do let _ ← comprehension (.DictComp kx vx [⟨ta, ia, fa, 0⟩] sc pos) sc X.env (firstIterPos [⟨ta, ia, fa, 0⟩] pos) newDict false (eval ia X.env) (some (assign (.Name y py) X.env))) _ _ s
  have h : tDc wi g tt tk tv (own.map (·.2)) σ H (fun v H' => ∃ D' L, v = .ref D' ∧ H' D' = some (.dK L) ∧ ∀ o, gName i (.ref D') σ (upd H' D' (dictH X.w D' o (emK L))) D.nx) := h
  refine wpAny_bind (thn (dc_core (Qf := fun _ s' => SP X pins D .next s') hc hN I hi ok hg ht hk he hs h fun L C s' m H' I' q hn f => dc_store hN hy hyl I' q hn f) fun _ s' hq => wpAny_pure (wpAny_pure hq))
end
end Ev
end
section
set_option linter.all false
set_option autoImplicit false
set_option maxRecDepth 100000
/-! EvI: targets, what is walked. -/
namespace Ev
open PySem PySem.Spec PyProof.Rows L2
theorem wipeE_length (env : Env) : ∀ vs : List Nat, (wipeE env vs).length = env.length
  | [] => rfl
  | v :: vs => by unfold wipeE; rw [List.length_set, wipeE_length env vs]
theorem wipeE_some {env : Env} {i : Nat} {x : AV} : ∀ {vs : List Nat}, (wipeE env vs)[i]? = some (some x) → env[i]? = some (some x) ∧ i ∉ vs
  | [], h => ⟨h, by simp⟩
  | v :: vs, h => by
    unfold wipeE at h
    by_cases hi : v = i
    · subst hi
      rw [List.getElem?_set] at h
      by_cases hv : v < (wipeE env vs).length <;> simp [hv] at h
    · rw [List.getElem?_set_ne hi] at h
      obtain ⟨h1, h2⟩ := wipeE_some h
      exact ⟨h1, by simp only [List.mem_cons, not_or]; exact ⟨Ne.symm hi, h2⟩⟩
theorem wipeE_out {env : Env} {i : Nat} : ∀ {vs : List Nat}, i ∉ vs → (wipeE env vs)[i]? = env[i]?
  | [], _ => rfl
  | v :: vs, h => by
    simp only [List.mem_cons, not_or] at h
    unfold wipeE
    rw [List.getElem?_set_ne (Ne.symm h.1), wipeE_out h.2]
theorem wipeS_out {σ : L2.St} {i : Nat} : ∀ {vs : List Nat}, i ∉ vs → (wipe σ vs)[i]? = σ[i]?
  | [], _ => rfl
  | v :: vs, h => by
    simp only [List.mem_cons, not_or] at h
    unfold wipe
    rw [List.getElem?_set_ne (Ne.symm h.1), wipeS_out h.2]
theorem wipeS_in {σ : L2.St} {i : Nat} : ∀ {vs : List Nat}, i ∈ vs → i < σ.length → (wipe σ vs)[i]? = some none
  | v :: vs, h, hl => by
    unfold wipe
    by_cases hi : v = i
    · subst hi
      rw [List.getElem?_set_self (by rw [wipe_length]; exact hl)]
    · rw [List.getElem?_set_ne hi]
      exact wipeS_in ((List.mem_cons.mp h).resolve_left (Ne.symm hi)) hl
/-- states that agree but for vs -/
theorem wipe_agree {σ σ' : L2.St} {vs : List Nat} (hl : σ'.length = σ.length) (h : ∀ i, i ∉ vs → σ'[i]? = σ[i]?) : wipe σ' vs = wipe σ vs := by
  apply List.ext_getElem?
  intro i
  by_cases hi : i ∈ vs
  · by_cases hlt : i < σ.length
    · rw [wipeS_in hi hlt, wipeS_in hi (by rw [hl]; exact hlt)]
    · rw [List.getElem?_eq_none (by rw [wipe_length, hl]; omega), List.getElem?_eq_none (by rw [wipe_length]; omega)]
  · rw [wipeS_out hi, wipeS_out hi, h i hi]
theorem back_length (e0 env : Env) : ∀ vs : List Nat, (back e0 env vs).length = env.length
  | [] => rfl
  | v :: vs => by unfold back; rw [List.length_set, back_length e0 env vs]
theorem back_out {e0 env : Env} {i : Nat} : ∀ {vs : List Nat}, i ∉ vs → (back e0 env vs)[i]? = env[i]?
  | [], _ => rfl
  | v :: vs, h => by
    simp only [List.mem_cons, not_or] at h
    unfold back
    rw [List.getElem?_set_ne (Ne.symm h.1), back_out h.2]
theorem back_in {e0 env : Env} {i : Nat} {d : AV} : ∀ {vs : List Nat}, i ∈ vs → (back e0 env vs)[i]? = some (some d) → e0[i]? = some (some d)
  | v :: vs, h, q => by
    unfold back at q
    by_cases hi : v = i
    · subst hi
      rw [List.getElem?_set] at q
      by_cases hl : v < (back e0 env vs).length
      · simp [hl] at q
        cases z : e0[v]? with
        | none => rw [z] at q; cases q
        | some o => rw [z] at q; cases q; rfl
      · simp [hl] at q
    · rw [List.getElem?_set_ne hi] at q
      exact back_in ((List.mem_cons.mp h).resolve_left (Ne.symm hi)) q
section
variable {K : PySem.W.Frag} {w : World} {IO : List (Nat × Addr)} {F F1 F2 F0 B B1 B2 H H1 H2 : Hp} {σ : L2.St} {env e1 e2 : Env} {O O1 : Sl} {vs : List Nat} {a : Addr} {o u : HO}
theorem SR.wipe (S : SR K w IO F0 F B O σ H env) (hv : ∀ i ∈ O, i ∉ vs) : SR K w IO F0 F B O (L2.wipe σ vs) H (wipeE env vs) :=
  S.forget (wipeE_length _ _) (wipe_length _ _) (fun i d e => by
    obtain ⟨h1, h2⟩ := wipeE_some e
    exact ⟨h1, wipeS_out h2⟩) fun i hi => wipeS_out (hv i hi)
/-- behind a comprehension: the names of its own as they were -/
theorem SR.back (S1 : SR K w IO F0 F1 B1 O1 σ H1 e1) (S2 : SR K w IO F0 F2 B2 O (L2.wipe σ vs) H2 (wipeE e2 vs)) (ff : Same F1 F2) (h1 : ∀ i ∈ O1, i ∉ vs) (h2 : ∀ i ∈ O, i ∉ vs) : SR K w IO F0 F2 B2 O σ H2 (back e1 e2 vs) where
  fh := S2.fh
  bh := S2.bh
  f0 := S2.f0
  fb := S2.fb
  slot := fun i d e => by
    by_cases hi : i ∈ vs
    · obtain ⟨v, g1, g2, g3⟩ := S1.slot i d (back_in hi e)
      exact ⟨v, g1, fun z => absurd hi (h2 i z), fun _ => Rep.mono ff (g3 fun z => h1 i z hi)⟩
    · rw [back_out hi] at e
      obtain ⟨v, g1, g2, g3⟩ := S2.slot i d (by rw [wipeE_out hi]; exact e)
      rw [wipeS_out hi] at g1
      exact ⟨v, g1, g2, g3⟩
  apart := fun i j a d e hi hj q1 q2 m1 m2 s1 s2 => by
    rw [back_out (h2 i hi)] at q1
    rw [back_out (h2 j hj)] at q2
    exact S2.apart i j a d e hi hj (by rw [wipeE_out (h2 i hi)]; exact q1) (by rw [wipeE_out (h2 j hj)]; exact q2) m1 m2 (by rw [wipeS_out (h2 i hi)]; exact s1) (by rw [wipeS_out (h2 j hj)]; exact s2)
  len := by
    rw [back_length]
    have := S2.len
    rw [wipeE_length, wipe_length] at this
    exact this
  io := fun p hp q => by
    have := S2.io p hp q
    rw [wipeS_out (h2 _ q)] at this
    exact this
/-- an object of nobody's is frozen -/
theorem SR.froz (S : SR K w IO F0 F B O σ H env) (hF : F a = none) (hB : B a = none) (hH : H a = some o) (hn : NoSlot O σ env a) : SR K w IO F0 (upd F a o) B O σ H env where
  fh := fun b u e => by
    by_cases hb : b = a
    · subst hb; rw [upd_same] at e; cases e; exact hH
    · rw [upd_ne hb] at e; exact S.fh _ _ e
  bh := S.bh
  f0 := S.f0.trans (same_upd' hF)
  fb := fun b u e => by
    by_cases hb : b = a
    · subst hb; exact .inr hB
    · rw [upd_ne hb] at e; exact S.fb _ _ e
  slot := fun i d e => by
    obtain ⟨v, h1, h2, h3⟩ := S.slot i d e
    refine ⟨v, h1, fun q => (h2 q).at (same_upd' hF) fun b u eb hm f1 f2 f3 => ?_, fun q => Rep.mono (same_upd' hF) (h3 q)⟩
    have hb : b ≠ a := fun z => hn i q d e hm (by rw [h1, eb, z])
    exact ⟨by rw [upd_ne hb]; exact f1, f2, f3⟩
  apart := S.apart
  len := S.len
  io := S.io
end
/-! ### targets -/
def gNames : List Nat → TGs
  | [] => gNil
  | i :: is => gCons (gName i) (gNames is)
def gT (K : PySem.W.Frag) : Tg → TG
  | .var i => gName i
  | .tup is => gTup K is.length (gNames is)
def nameB (N : List Str) (fn : Str → Bool) (sc : Scope) (i : Nat) (y : Str) : Bool := decide (N[i]? = some y) && (decide (sc.names.lookup y = some .local) || (fn y && decide (sc.names.lookup y = some .cell)))
def chkNames (N : List Str) (fn : Str → Bool) (sc : Scope) : List Expr → List Nat → Bool
  | [], [] => true
  | .Name y _ :: es, i :: is => nameB N fn sc i y && chkNames N fn sc es is
  | _, _ => false
def chkTg (N : List Str) (fn : Str → Bool) (sc : Scope) : Expr → Tg → Bool
  | .Name y _, .var i => nameB N fn sc i y
  | .Tuple es _ _, .tup is => chkNames N fn sc es is
  | _, _ => false
section
variable {c : Cx} {sc : Scope}
theorem pg_nameB {i : Nat} {y : Str} {pos : Pos} (hN : c.N.Nodup) (h : nameB c.N c.fn c.env.scope i y = true) : PG c (.Name y pos) (gName i) := by
  unfold nameB at h
  simp only [Bool.and_eq_true, Bool.or_eq_true, decide_eq_true_eq] at h
  obtain ⟨h1, h2⟩ := h
  rcases h2 with h2 | ⟨h2, h3⟩
  · exact pg_name hN h1 (.inl h2) (.inr h2)
  · exact pg_name hN h1 (.inr h3) (.inl h2)
theorem pgs_names (hN : c.N.Nodup) : ∀ {es : List Expr} {is : List Nat}, chkNames c.N c.fn c.env.scope es is = true → PGs c es (gNames is) ∧ (assignEach es c.env).length = is.length ∧ (assignEach es c.env).findIdx? (·.1) = none
  | [], [], _ => ⟨pgs_nil, rfl, rfl⟩
  | [], _ :: _, h => by cases h
  | e :: es, [], h => by cases e <;> cases h
  | e :: es, i :: is, h => by
    cases e with
    | Name y p =>
      have h : (nameB c.N c.fn c.env.scope i y && chkNames c.N c.fn c.env.scope es is) = true := h
      rw [Bool.and_eq_true] at h
      obtain ⟨g1, g2, g3⟩ := pgs_names hN h.2
      refine ⟨pgs_cons (pg_nameB hN h.1) g1 rfl, ?_, ?_⟩
      · show ((false, assign (.Name y p) c.env) :: assignEach es c.env).length = _
        rw [List.length_cons, g2, List.length_cons]
      · show ((false, assign (.Name y p) c.env) :: assignEach es c.env).findIdx? (·.1) = none
        rw [List.findIdx?_cons]
        simp [g3]
    | _ => cases h
theorem pg_tg (hN : c.N.Nodup) (hc : c.calm = true) {e : Expr} {tg : Tg} (h : chkTg c.N c.fn c.env.scope e tg = true) : PG c e (gT c.K tg) := by
  cases e with
  | Name y p => cases tg with
    | var i => exact pg_nameB hN h
    | tup is => cases h
  | Tuple es k p => cases tg with
    | var i => cases h
    | tup is =>
      obtain ⟨g1, g2, g3⟩ := pgs_names hN h
      exact pg_tup hc g1 g2 g3
  | _ => cases tg <;> cases h
end
section
variable {K : PySem.W.Frag} {w : World} {IO : List (Nat × Addr)} {F F0 B H : Hp} {env env2 : Env} {O : Sl}
theorem names_imp {Q : L2.St → Hp → Prop} : ∀ {is : List Nat} {ds : List AV} {us : List V} {σ : L2.St} {env : Env}, SR K w IO F0 F B O σ H env → setAll is ds env = some env2 → RepL K w F us ds → (∀ i ∈ is, i ∉ O) →
    (∀ σ2, SR K w IO F0 F B O σ2 H env2 → σ2.length = σ.length → (∀ i, i ∉ is → σ2[i]? = σ[i]?) → Q σ2 H) → us.length = is.length ∧ gNames is us σ H Q
  | [], [], us, σ, env, S, h, r, hO, q => by
    cases h
    cases r
    exact ⟨rfl, rfl, q σ S rfl fun _ _ => rfl⟩
  | i :: is, d :: ds, us, σ, env, S, h, r, hO, q => by
    cases r with
    | cons r1 r2 =>
      rename_i v us
      obtain ⟨g1, g2⟩ := names_imp (Q := Q) (S.store (hO i List.mem_cons_self) r1) (show setAll is ds (env.set i (some d)) = some env2 from h) r2 (fun j hj => hO j (List.mem_cons_of_mem _ hj)) fun σ2 S2 l2 h2 => q σ2 S2 (by rw [l2, List.length_set]) fun j hj => by
        simp only [List.mem_cons, not_or] at hj
        rw [h2 j hj.2, List.getElem?_set_ne (Ne.symm hj.1)]
      exact ⟨by rw [List.length_cons, List.length_cons, g1], v, us, rfl, g2⟩
  | [], _ :: _, _, _, _, _, h, _, _, _ => by cases h
  | _ :: _, [], _, _, _, _, h, _, _, _ => by cases h
theorem tg_imp {tg : Tg} {d : AV} {v : V} {σ : L2.St} {Q : L2.St → Hp → Prop} (S : SR K w IO F0 F B O σ H env) (hb : bindTg tg d env = .ok env2) (hr : Rep K w F v d) (hO : ∀ i ∈ tgsOf tg, i ∉ O)
    (q : ∀ σ2, SR K w IO F0 F B O σ2 H env2 → σ2.length = σ.length → (∀ i, i ∉ tgsOf tg → σ2[i]? = σ[i]?) → Q σ2 H) : gT K tg v σ H Q := by
  cases tg with
  | var i =>
    cases hb
    exact q _ (S.store (hO i List.mem_cons_self) hr) (List.length_set ..) fun j hj => List.getElem?_set_ne fun z => hj (by rw [z]; exact List.mem_cons_self)
  | tup is =>
    cases d with
    | tuple ds =>
      have hb : (match setAll is ds env with
        | some e => R.ok e
        | none => .bad) = .ok env2 := hb
      cases hs : setAll is ds env with
      | none => rw [hs] at hb; cases hb
      | some e =>
        rw [hs] at hb
        cases hb
        cases hr with
        | tup h1 r1 =>
          obtain ⟨g1, g2⟩ := names_imp S hs r1 hO q
          exact ⟨_, _, rfl, Same.tup S.fh h1, g1, g2⟩
    | _ => cases hb
end
/-! ### what is walked -/
/-- the i-th of ds comes -/
def YEv (K : PySem.W.Frag) (w : World) (F1 : Hp) (ds : List AV) : Nat → Hp → V → Hp → Prop := fun i H x H' => ∀ F, Same F1 F → Same F H → ∃ d F', ds[i]? = some d ∧ Ext F H F' H' ∧ Rep K w F' x d
def rdIt (K : PySem.W.Frag) (w : World) (cal : Cal) (b : Bool) (it : It) : TI := fun σ H R => ∃ IO F0 F B O env ds env' O', SR K w IO F0 F B O σ H env ∧ evIt cal it env = .ok (ds, env') ∧ owIt b O it = some O' ∧
  ∀ J F' H' Bs, Pst K w IO F0 F B O' σ H env' (prIt it) F' H' → Same Bs H' → (b = false → Bs = F') → (∀ a o, Bs a = some o → F' a = some o ∨ B a = none) → Walk J ds.length (Same Bs) (YEv K w F' ds) → R J H'
theorem PI.imp' {X : Cx} {tg e : Expr} {t t' : TI} (h : PI X tg e t) (hi : ∀ σ H R, t' σ H R → t σ H R) : PI X tg e t' := ⟨fun pins s σ H R I q => h.run pins s σ H R I (hi σ H R q)⟩
theorem old_yld {K : PySem.W.Frag} {w : World} {F1 : Hp} {ds : List AV} {xs : List V} (r : RepL K w F1 xs ds) {i : Nat} {H : Hp} {x : V} {H' : Hp} (h : H' = H ∧ xs[i]? = some x) : YEv K w F1 ds i H x H' := fun F s1 s2 => by
  obtain ⟨rfl, h⟩ := h
  obtain ⟨d, g1, g2⟩ := r.get' h
  exact ⟨d, F, g1, Ext.refl s2, Rep.mono s1 g2⟩
section
variable {c : Cx} {cal : Cal} {tg l : Expr} {a : X} {tl : TE}
/-- a list or a tuple -/
def iSeq (K : PySem.W.Frag) (w : World) (tl : TE) : TI := fun σ H R => tl σ H fun x H1 => ∃ p, x = .ref p ∧ ((∃ xs, SqL K H1 p xs) ∧ R (Itl K p) H1 ∨ (∃ xs, SqT K H1 p xs) ∧ R (Itt K p) H1 ∨ ∃ ob L, H1 p = some (dictH w p ob L) ∧ R (Itkd w p ob L) H1)
theorem pi_seq (hl : PE c l tl) : PI c tg l (iSeq c.K c.w tl) := by
  refine ⟨fun pins s σ H R I h => thn (hl.run pins s σ H _ I h) fun u st ⟨x, Hx, Ix, rx, p, ep, q⟩ => ?_⟩
  subst ep
  cases rx
  have fresh : ∀ b ∈ [st.heap.objs.size], FpOk c pins Hx b := fun b hb => by
    obtain rfl : b = st.heap.objs.size := by simpa using hb
    exact Ix.fpOk (Nat.le_refl _) (Ix.hok.fresh (Nat.le_refl _))
  rcases q with ⟨⟨xs, hq⟩, q⟩ | ⟨⟨xs, hq⟩, q⟩ | ⟨ob, L, hd, q⟩
  · obtain ⟨its, _, pl, _⟩ := Ix.list hq
    exact wpAny_pyIter_list pl.isList ⟨st.heap.objs.size, [st.heap.objs.size], _, _, Hx, rfl, Ix.kept (t' := st.toks) fun b o e => Heap.get?_push_of_some _ e, turn_list p _, ⟨_, Heap.get?_push_size _ rfl, rfl, rfl⟩, fresh, q⟩
  · obtain ⟨its, _, pt, _⟩ := Ix.tuple hq
    exact wpAny_pyIter_tuple (show st.heap.IsTuple p its.toArray from pt) ⟨st.heap.objs.size, [st.heap.objs.size], _, _, Hx, rfl, Ix.kept (t' := st.toks) fun b o e => Heap.get?_push_of_some _ e, turn_tuple p _, ⟨_, Heap.get?_push_size _ rfl, rfl, rfl⟩, fresh, q⟩
  · obtain ⟨hs, hx, hgd, es, ep, hdt, hsz, z, ent⟩ := dic_ents (dic_at Ix.hok hd)
    refine iter_keys hs hgd hx hdt (pi_one (tk := st.toks) Ix _ (turn_keysD _ hdt) ⟨_, Heap.get?_push_size _ rfl, rfl, ?_⟩ q)
    rw [hsz] <;> rfl
/-- a dict that is walked: what stands still -/
theorem dic_key {b : Bool} {a : X} {F1 B H1 : Hp} {O' : Sl} {σ : L2.St} {e1 : Env} {va : V} {kvs : List (AV × AV)} (hh : Same F1 H1) (r1 : RV c.K c.w (opM b) a F1 B H1 O' σ e1 va (.dict kvs)) :
    ∃ x ob L tk Bs, va = .ref x ∧ Same Bs H1 ∧ (b = false → Bs = F1) ∧ (∀ a o, Bs a = some o → F1 a = some o ∨ B a = none) ∧ Bs x = some (dictH c.w x ob L) ∧ H1 x = some (dictH c.w x ob L) ∧ RepD c.K c.w F1 tk L kvs := by
  cases b with
  | true =>
    obtain ⟨r1, ob⟩ := r1
    obtain ⟨x, o, L, tk, rfl, hq, hr⟩ := (show Opd c.K c.w F1 H1 va (.dict kvs) from r1)
    rcases ob rfl with ⟨a, u, ea, hb, hu⟩ | hr2
    · cases ea
      rw [hu] at hq
      cases hq
      by_cases hf : F1 x = none
      · refine ⟨x, o, L, tk, upd F1 x (dictH c.w x o L), rfl, fun b u2 e => ?_, (fun z => by cases z), fun b u2 e => ?_, upd_same, hu, hr⟩
        · by_cases hbx : b = x
          · subst hbx; rw [upd_same] at e; cases e; exact hu
          · rw [upd_ne hbx] at e; exact hh _ _ e
        · by_cases hbx : b = x
          · subst hbx; exact .inr hb
          · rw [upd_ne hbx] at e; exact .inl e
      · obtain ⟨u, hu2⟩ := Option.ne_none_iff_exists'.mp hf
        have h1 := hh _ _ hu2
        rw [hu] at h1
        cases h1
        exact ⟨x, o, L, tk, F1, rfl, hh, (fun z => by cases z), fun b u e => .inl e, hu2, hu, hr⟩
    · cases hr2 with
      | dct hq2 hr3 => exact ⟨x, _, _, _, F1, rfl, hh, (fun z => by cases z), fun b u e => .inl e, hq2, hh _ _ hq2, hr3⟩
  | false =>
    cases (show Rep c.K c.w F1 va (.dict kvs) from r1) with
    | dct hq2 hr3 => exact ⟨_, _, _, _, F1, rfl, hh, fun _ => rfl, fun b u e => .inl e, hq2, hh _ _ hq2, hr3⟩
theorem it_expr (b : Bool) (ha : OkE cal c l a) : PI c tg l (rdIt c.K c.w cal b (.expr a)) := PI.imp' (pi_seq (ha.pe (opM b))) fun σ H RR h => by
  obtain ⟨IO, F0, F, B, O, env, ds, env', O', S, e, o, q⟩ := h
  obtain ⟨⟨da, e1⟩, ea, e⟩ := R.bind_eq_ok (show (evE cal a env >>= fun p => match p.1 with
    | .list xs => R.ok (xs, p.2)
    | .tuple xs => R.ok (xs, p.2)
    | .dict kvs => R.ok (kvs.map (·.1), p.2)
    | _ => .bad) = .ok (ds, env') from e)
  refine ⟨IO, F0, F, B, O, env, da, e1, O', S, ea, by revert o; unfold owIt opM; cases b <;> exact fun z => z, fun va F1 H1 p1 r1 => ?_⟩
  have hh : Same F1 H1 := p1.sr.fh
  cases da with
  | list xs =>
    cases e
    cases b with
    | true =>
      obtain ⟨r1, ob⟩ := r1
      obtain ⟨x, us, rfl, hq, hr⟩ := Opd.listE (show Opd c.K c.w F1 H1 va (.list ds) from r1)
      have key : ∃ Bs us, Same Bs H1 ∧ (∀ a o, Bs a = some o → F1 a = some o ∨ B a = none) ∧ LstX c.K Bs x us ∧ LstX c.K H1 x us ∧ RepL c.K c.w F1 us ds := by
        rcases ob rfl with ⟨a, u, ea, hb, hu⟩ | hr2
        · cases ea
          rcases hq with hq | hq
          · by_cases hf : F1 x = none
            · refine ⟨upd F1 x u, us, fun b u2 e => ?_, fun b u2 e => ?_, .inl ?_, .inl hq, hr⟩
              · by_cases hbx : b = x
                · subst hbx; rw [upd_same] at e; cases e; exact hu
                · rw [upd_ne hbx] at e; exact hh _ _ e
              · by_cases hbx : b = x
                · subst hbx; exact .inr hb
                · rw [upd_ne hbx] at e; exact .inl e
              · rcases hq with q | ⟨o, q⟩
                · rw [hu] at q; cases q; exact .inl upd_same
                · rw [hu] at q; cases q; exact .inr ⟨o, upd_same⟩
            · obtain ⟨o, ho⟩ := Option.ne_none_iff_exists'.mp hf
              refine ⟨F1, us, hh, fun b u e => .inl e, .inl ?_, .inl hq, hr⟩
              have h1 := hh _ _ ho
              rcases hq with q | ⟨o2, q⟩
              · rw [h1] at q; cases q; exact .inl ho
              · rw [h1] at q; cases q; exact .inr ⟨o2, ho⟩
          · exact ⟨F1, us, hh, fun b u e => .inl e, .inr hq, .inr hq, hr⟩
        · cases hr2 with
          | lst hq2 hr3 => exact ⟨F1, _, hh, fun b u e => .inl e, hq2, hq2.mono hh, hr3⟩
      obtain ⟨Bs, us, b1, b2, b3, b4, hr⟩ := key
      refine ⟨x, rfl, .inl ⟨⟨us, b4.sql⟩, q _ F1 H1 Bs p1 b1 (fun z => by cases z) b2 ?_⟩⟩
      rw [← hr.length]
      exact walk_list.mono (fun H2 s2 => (b3.mono s2).sql) fun i H2 x H3 _ _ y => old_yld hr y
    | false =>
      cases (show Rep c.K c.w F1 va (.list ds) from r1) with
      | lst hq hr =>
        refine ⟨_, rfl, .inl ⟨⟨_, (hq.mono hh).sql⟩, q _ F1 H1 F1 p1 hh (fun _ => rfl) (fun _ _ e => .inl e) ?_⟩⟩
        rw [← hr.length]
        exact walk_list.mono (fun H2 s2 => (hq.mono s2).sql) fun i H2 x H3 _ _ y => old_yld hr y
  | tuple xs =>
    cases e
    have r2 : Rep c.K c.w F1 va (.tuple ds) := by
      cases b with
      | true => exact r1.1
      | false => exact r1
    cases r2 with
    | tup hq hr =>
      cases b with
      | true =>
        refine ⟨_, rfl, .inr (.inl ⟨⟨_, Same.tup hh hq⟩, q _ F1 H1 F1 p1 hh (fun z => by cases z) (fun _ _ e => .inl e) ?_⟩)⟩
        rw [← hr.length]
        exact walk_tup.mono (fun H2 s2 => Same.tup s2 hq) fun i H2 x H3 _ _ y => old_yld hr y
      | false =>
        refine ⟨_, rfl, .inr (.inl ⟨⟨_, Same.tup hh hq⟩, q _ F1 H1 F1 p1 hh (fun _ => rfl) (fun _ _ e => .inl e) ?_⟩)⟩
        rw [← hr.length]
        exact walk_tup.mono (fun H2 s2 => Same.tup s2 hq) fun i H2 x H3 _ _ y => old_yld hr y
  | dict kvs =>
    cases e
    obtain ⟨x, ob, L, tk, Bs, rfl, b1, b2, b3, b4, b5, hr⟩ := dic_key hh r1
    refine ⟨x, rfl, .inr (.inr ⟨ob, L, b5, q _ F1 H1 Bs p1 b1 b2 b3 ?_⟩)⟩
    rw [List.length_map, ← hr.length]
    exact walk_keysD.mono (fun H2 s2 => s2 _ _ b4) fun i H2 x H3 _ _ y => old_yld hr.keysV y
  | _ => cases e
/-- d.values() -/
theorem it_vals {apos cpos : Pos} (b : Bool) (hbase : attributeBase l "values" c.env (eval l c.env) = eval l c.env) (hline : (apos.endLine == cpos.line) = true) (ha : OkE cal c l a) : PI c tg (.Call (.Attribute l "values" apos) [] [] cpos) (rdIt c.K c.w cal b (.vals a)) := PI.imp' (pi_valsD (ha.pe (opM b)) hbase hline) fun σ H RR h => by
  obtain ⟨IO, F0, F, B, O, env, ds, env', O', S, e, o, q⟩ := h
  obtain ⟨⟨da, e1⟩, ea, e⟩ := R.bind_eq_ok (show (evE cal a env >>= fun p => match p.1 with
    | .dict kvs => R.ok (kvs.map (·.2), p.2)
    | _ => .bad) = .ok (ds, env') from e)
  refine ⟨IO, F0, F, B, O, env, da, e1, O', S, ea, by revert o; unfold owIt opM; cases b <;> exact fun z => z, fun va F1 H1 p1 r1 => ?_⟩
  have hh : Same F1 H1 := p1.sr.fh
  cases da with
  | dict kvs =>
    cases e
    obtain ⟨x, ob, L, tk, Bs, rfl, b1, b2, b3, b4, b5, hr⟩ := dic_key hh r1
    refine ⟨x, ob, L, rfl, b5, q _ F1 H1 Bs p1 b1 b2 b3 ?_⟩
    rw [List.length_map, ← hr.length]
    exact walk_valsD.mono (fun H2 s2 => s2 _ _ b4) fun i H2 x H3 _ _ y => old_yld hr.valsV y
  | _ => cases e
theorem items_get {K : PySem.W.Frag} {w : World} {F : Hp} : ∀ {tk : Bool} {L : List Ent} {kvs : List (AV × AV)} {i : Nat} {e : Ent}, RepD K w F tk L kvs → L[i]? = some e → ∃ p, kvs[i]? = some p ∧ Rep K w F (keyV e) p.1 ∧ Rep K w F e.2 p.2
  | _, _, _, _, _, .nil, h => by simp at h
  | _, _, _, 0, _, .cons h1 r1 _, h => by
    simp only [List.getElem?_cons_zero, Option.some.injEq] at h
    subst h
    exact ⟨_, rfl, rep_keyA h1, r1⟩
  | _, _, _, i + 1, _, .cons _ _ r, h => by
    obtain ⟨p, g1, g2⟩ := items_get (i := i) r (by simpa using h)
    exact ⟨p, by simpa using g1, g2⟩
  | _, _, _, 0, _, .consT _ r0 r1 _, h => by
    simp only [List.getElem?_cons_zero, Option.some.injEq] at h
    subst h
    exact ⟨_, rfl, r0, r1⟩
  | _, _, _, i + 1, _, .consT _ _ _ r, h => by
    obtain ⟨p, g1, g2⟩ := items_get (i := i) r (by simpa using h)
    exact ⟨p, by simpa using g1, g2⟩
theorem items_yld {K : PySem.W.Frag} {w : World} {F1 : Hp} {tk : Bool} {L : List Ent} {kvs : List (AV × AV)} (r : RepD K w F1 tk L kvs) {i : Nat} {H H' : Hp} {v : V} (h : ∃ T e, L[i]? = some e ∧ v = .ref T ∧ H T = none ∧ H' = upd H T (.tup [keyV e, e.2])) : YEv K w F1 (kvs.map fun p => PyData.tuple [p.1, p.2]) i H v H' := fun F s1 s2 => by
  obtain ⟨T, e, h2, rfl, h1, rfl⟩ := h
  obtain ⟨p, g1, g2, g3⟩ := items_get r h2
  have hX := ext_new' (o := .tup [keyV e, e.2]) s2 h1
  refine ⟨.tuple [p.1, p.2], _, ?_, hX, ?_⟩
  · rw [List.getElem?_map, g1]; rfl
  · exact .tup (.inl (.inl upd_same)) (.cons (Rep.mono (s1.trans hX.ff) g2) (.cons (Rep.mono (s1.trans hX.ff) g3) .nil))
/-- d.items() -/
theorem it_items {es : List Expr} {n : Nat} {tp apos cpos : Pos} (b : Bool) (hbase : attributeBase l "items" c.env (eval l c.env) = eval l c.env) (hline : (apos.endLine == cpos.line) = true) (ha : OkE cal c l a) : PI c (.Tuple es n tp) (.Call (.Attribute l "items" apos) [] [] cpos) (rdIt c.K c.w cal b (.items a)) := PI.imp' (pi_itemsD (ha.pe (opM b)) hbase hline) fun σ H RR h => by
  obtain ⟨IO, F0, F, B, O, env, ds, env', O', S, e, o, q⟩ := h
  obtain ⟨⟨da, e1⟩, ea, e⟩ := R.bind_eq_ok (show (evE cal a env >>= fun p => match p.1 with
    | .dict kvs => R.ok (kvs.map (fun p => .tuple [p.1, p.2]), p.2)
    | _ => .bad) = .ok (ds, env') from e)
  refine ⟨IO, F0, F, B, O, env, da, e1, O', S, ea, by revert o; unfold owIt opM; cases b <;> exact fun z => z, fun va F1 H1 p1 r1 => ?_⟩
  have hh : Same F1 H1 := p1.sr.fh
  cases da with
  | dict kvs =>
    cases e
    obtain ⟨x, ob, L, tk, Bs, rfl, b1, b2, b3, b4, b5, hr⟩ := dic_key hh r1
    refine ⟨x, ob, L, rfl, b5, q _ F1 H1 Bs p1 b1 b2 b3 ?_⟩
    rw [List.length_map, ← hr.length]
    exact walk_itemsD.mono (fun H2 s2 => s2 _ _ b4) fun i H2 x H3 _ _ y => items_yld hr y
  | _ => cases e
theorem okRng_b {i : Int} (h : okRng i = true) : -(2 ^ 62) ≤ i ∧ i < 2 ^ 62 := by
  unfold okRng at h
  simp only [Bool.and_eq_true, decide_eq_true_eq] at h
  omega
theorem rangeD_length (lo hi : Int) : (rangeD lo hi).length = (hi - lo).toNat := by unfold rangeD; rw [List.length_map, List.length_range]
theorem rng_walk {K : PySem.W.Frag} {w : World} {F1 Bs : Hp} {lo hi : Int} : Walk (Itr lo (hi - lo).toNat) (rangeD lo hi).length (Same Bs) (YEv K w F1 (rangeD lo hi)) := by
  rw [rangeD_length]
  refine walk_range.mono (fun _ _ => trivial) fun i H x H' hi' _ y => fun F s1 s2 => ?_
  obtain ⟨rfl, rfl⟩ := y
  refine ⟨.int (lo + i), F, ?_, Ext.refl s2, .int _⟩
  unfold rangeD
  rw [List.getElem?_map, List.getElem?_range hi']
  rfl
theorem it_rng1 {p pos : Pos} (b : Bool) (hs : stE l = false) (hg : Gl c "range") (hm : c.mg "range" = none) (ha : OkE cal c l a) : PI c tg (.Call (.Name "range" p) [l] [] pos) (rdIt c.K c.w cal b (.rng1 a)) :=
  PI.imp' (pi_range1 hg hm (pa_cons (ha.pe .val) pa_nil (star_plain hs)) (star_plain hs)) fun σ H RR h => by
    obtain ⟨IO, F0, F, B, O, env, ds, env', O', S, e, o, q⟩ := h
    obtain ⟨⟨da, e1⟩, ea, e⟩ := R.bind_eq_ok (show (evE cal a env >>= fun p => match p.1 with
      | .int n => if okRng n then R.ok (rangeD 0 n, p.2) else .bad
      | _ => .bad) = .ok (ds, env') from e)
    refine ⟨IO, F0, F, B, O, env, da, e1, O', S, ea, o, fun va F1 H1 p1 r1 => ?_⟩
    cases da with
    | int n =>
      cases (show Rep c.K c.w F1 va (.int n) from r1)
      have e : (if okRng n then R.ok (rangeD 0 n, e1) else .bad) = .ok (ds, env') := e
      split at e
      · rename_i hr
        cases e
        obtain ⟨h1, h2⟩ := okRng_b hr
        refine ⟨n, rfl, h1, h2, ?_⟩
        have := q (Itr 0 (n - 0).toNat) F1 H1 F1 p1 p1.sr.fh (fun _ => rfl) (fun _ _ e => .inl e) rng_walk
        rw [Int.sub_zero] at this
        exact this
      · cases e
    | _ => cases e
theorem it_rng2 {l2 : Expr} {d : X} {p pos : Pos} (b : Bool) (hs : stE l = false) (hs2 : stE l2 = false) (hg : Gl c "range") (hm : c.mg "range" = none) (ha : OkE cal c l a) (hd : OkE cal c l2 d) : PI c tg (.Call (.Name "range" p) [l, l2] [] pos) (rdIt c.K c.w cal b (.rng2 a d)) :=
  PI.imp' (pi_range2 hg hm (pa_cons (ha.pe .val) (pa_cons (hd.pe .val) pa_nil (star_plain hs2)) (star_plain hs)) (by rw [star_plain hs, star_plain hs2]; rfl) (star_plain hs2)) fun σ H RR h => by
    obtain ⟨IO, F0, F, B, O, env, ds, env', O', S, e, o, q⟩ := h
    obtain ⟨⟨da, e1⟩, ea, e⟩ := R.bind_eq_ok (show (evE cal a env >>= fun p => evE cal d p.2 >>= fun p2 => match p.1, p2.1 with
      | .int m, .int n => if okRng m && okRng n then R.ok (rangeD m n, p2.2) else .bad
      | _, _ => .bad) = .ok (ds, env') from e)
    obtain ⟨⟨db, e2⟩, eb, e⟩ := R.bind_eq_ok e
    obtain ⟨O1, oa, ob⟩ := andThen_some (show andThen (owE O a) (fun O1 => owE O1 d) = some O' from o)
    refine ⟨IO, F0, F, B, O, env, da, e1, O1, S, ea, oa, fun va F1 H1 p1 r1 => ⟨IO, F0, F1, B, O1, e1, db, e2, O', p1.sr, eb, ob, fun vb F2 H2 p2 r2 => ?_⟩⟩
    cases da with
    | int m => cases db with
      | int n =>
        cases (show Rep c.K c.w F1 va (.int m) from r1)
        cases (show Rep c.K c.w F2 vb (.int n) from r2)
        have e : (if okRng m && okRng n then R.ok (rangeD m n, e2) else .bad) = .ok (ds, env') := e
        split at e
        · rename_i hr
          rw [Bool.and_eq_true] at hr
          cases e
          obtain ⟨h1, h2⟩ := okRng_b hr.1
          obtain ⟨h3, h4⟩ := okRng_b hr.2
          exact ⟨m, n, rfl, ⟨h1, h2, h3, h4⟩, q (Itr m (n - m).toNat) F2 H2 F2 (p1.trans p2 fun z => by
            have z : (prE a && prE d) = true := z
            rw [Bool.and_eq_true] at z
            exact z) p2.sr.fh (fun _ => rfl) (fun _ _ e => .inl e) rng_walk⟩
        · cases e
      | _ => cases e
    | _ => cases db <;> cases e
end
end Ev
end
section
set_option linter.all false
set_option autoImplicit false
set_option maxRecDepth 100000
/-! EvJ: comprehensions. -/
namespace Ev
open PySem PySem.Spec PyProof.Rows L2
/-- turns of a comprehension: BODY leads to the next turn's state -/
def LoopR (J : L2.It) (σ : L2.St) (vs : List Nat) (g : TG) (tt : TT) (BODY : L2.St → Hp → (Hp → Prop) → Prop) (Qd : Hp → Prop) (H0 : Hp) : Prop := ∃ W : Nat → Nat → Hp → Prop, (∃ m, W 0 m H0) ∧ ∀ i m H, W i m H →
  (J.stop i H ∧ Qd H) ∨ (J.go i H ∧ ∃ Nx : Hp → Prop, (∀ H', Nx H' → ∃ m', m' < m ∧ W (i + 1) m' H') ∧ ∀ x H', J.yld i H x H' → g x (wipe σ vs) H' fun σ2 H2 => wipe σ2 vs = wipe σ vs ∧ tt σ2 H2 fun b H3 => if b = true then BODY σ2 H3 Nx else Nx H3)
def tT (K : PySem.W.Frag) (w : World) (cal : Cal) : Ox → TT
  | .none => tYes
  | .some x => tB (rd K w cal .val x)
/-- one turn's own function -/
def turnF (cal : Cal) (ws : List Nat) (tg : Tg) (c : Ox) (rest : Env → R (List AV × Env)) (x : AV) (env : Env) : R (List AV × Env) := do
  let env2 ← bindTg tg x (wipeE env ws)
  let (b, env3) ← evOx cal c env2
  match b with
  | none => rest env3
  | some b => match (← asB b) with
    | true => rest env3
    | false => .ok ([], env3)
theorem apart_mem {A B : Sl} (h : apartS A B = true) {i : Nat} (hi : i ∈ A) : i ∉ B := by
  have := List.all_eq_true.mp h i hi
  simpa using this
theorem minus_mem {O P : Sl} {i : Nat} : i ∈ minus O P ↔ i ∈ O ∧ i ∉ P := by simp [minus]
theorem wipe_wipe {σ : L2.St} {vs us : List Nat} (h : ∀ i ∈ us, i ∈ vs) : wipe (wipe σ us) vs = wipe σ vs :=
  wipe_agree (wipe_length _ _) fun i hi => wipeS_out fun z => hi (h i z)
theorem wipeE_agree {e e' : Env} {vs : List Nat} (hl : e'.length = e.length) (h : ∀ i, i ∉ vs → e'[i]? = e[i]?) : wipeE e' vs = wipeE e vs := by
  have nn : ∀ {e : Env} {vs : List Nat} {i : Nat}, i ∈ vs → i < e.length → (wipeE e vs)[i]? = some none := by
    intro e vs
    induction vs with
    | nil => intro i h; cases h
    | cons v vs ih =>
      intro i h hl
      unfold wipeE
      by_cases hi : v = i
      · subst hi
        rw [List.getElem?_set_self (by rw [wipeE_length]; exact hl)]
      · rw [List.getElem?_set_ne hi]
        exact ih ((List.mem_cons.mp h).resolve_left (Ne.symm hi)) hl
  apply List.ext_getElem?
  intro i
  by_cases hi : i ∈ vs
  · by_cases hlt : i < e.length
    · rw [nn hi hlt, nn hi (by rw [hl]; exact hlt)]
    · rw [List.getElem?_eq_none (by rw [wipeE_length, hl]; omega), List.getElem?_eq_none (by rw [wipeE_length]; omega)]
  · rw [wipeE_out hi, wipeE_out hi, h i hi]
theorem wipeE_wipeE {e : Env} {vs us : List Nat} (h : ∀ i ∈ us, i ∈ vs) : wipeE (wipeE e us) vs = wipeE e vs :=
  wipeE_agree (wipeE_length _ _) fun i hi => wipeE_out fun z => hi (h i z)
section
variable {K : PySem.W.Frag} {w : World} {cal : Cal} {IO : List (Nat × Addr)} {F F0 F1 B H : Hp} {O O2 : Sl} {σ : L2.St} {env : Env} {ws vs : List Nat} {tg : Tg} {c : Ox} {ds r : List AV} {env4 : Env} {rest : Env → R (List AV × Env)}
/-- one turn up to its body -/
theorem turn_imp {i : Nat} {x : V} {H' : Hp} {d : AV} {K1 : L2.St → Hp → Prop} {K2 : Hp → Prop} (S : SR K w IO F0 F B O σ H (wipeE env ws)) (y : YEv K w F1 ds i H x H') (s1 : Same F1 F) (hd : ds[i]? = some d)
    (e : turnF cal ws tg c rest d env = .ok (r, env4)) (how : owOx (minus O (ws ++ tgsOf tg)) c = some O2) (hO : ∀ i ∈ O, i ∉ ws ++ tgsOf tg) (hsub : ∀ i ∈ tgsOf tg, i ∈ vs)
    (hy : ∀ env3 σ2 F3 H3, SR K w IO F0 F3 B O2 σ2 H3 env3 → Same F F3 → (prOx c = true → Same H H3) → wipe σ2 vs = wipe σ vs → rest env3 = .ok (r, env4) → K1 σ2 H3)
    (hn : ∀ σ2 F3 H3, SR K w IO F0 F3 B O2 σ2 H3 env4 → Same F F3 → (prOx c = true → Same H H3) → wipe σ2 vs = wipe σ vs → r = [] → K2 H3) :
    gT K tg x σ H' fun σ2 H2 => wipe σ2 vs = wipe σ vs ∧ tT K w cal c σ2 H2 fun b H3 => if b = true then K1 σ2 H3 else K2 H3 := by
  obtain ⟨d', F', hd', X, hr⟩ := y F s1 S.fh
  rw [hd] at hd'
  cases hd'
  obtain ⟨env2, eb, e⟩ := R.bind_eq_ok (show (bindTg tg d (wipeE env ws) >>= fun env2 => evOx cal c env2 >>= fun p => match p.1 with
    | none => rest p.2
    | some b => asB b >>= fun k => match k with
      | true => rest p.2
      | false => R.ok ([], p.2)) = .ok (r, env4) from e)
  obtain ⟨⟨ob, env3⟩, ec, e9⟩ := R.bind_eq_ok e
  refine tg_imp (S.ext X) eb hr (fun i hi z => hO i z (List.mem_append_right _ hi)) fun σ2 S2 l2 a2 => ?_
  have hw : wipe σ2 vs = wipe σ vs := wipe_agree l2 fun i hi => a2 i fun z => hi (hsub i z)
  refine ⟨hw, ?_⟩
  have S3 : SR K w IO F0 F' B (minus O (ws ++ tgsOf tg)) σ2 H' env2 := S2.congr fun i => by rw [minus_mem]; exact ⟨fun z => z.1, fun z => ⟨z, hO i z⟩⟩
  cases c with
  | none =>
    cases ec
    cases how
    exact hy _ σ2 F' H' S3 X.ff (fun _ => X.hh) hw e9
  | some x =>
    obtain ⟨⟨dx, e3⟩, ex, ec⟩ := R.bind_eq_ok (show (evE cal x env2 >>= fun p => R.ok (some p.1, p.2)) = .ok (ob, env3) from ec)
    cases ec
    obtain ⟨k, ek, e10⟩ := R.bind_eq_ok (show (asB dx >>= fun k => match k with
      | true => rest e3
      | false => R.ok ([], e3)) = .ok (r, env4) from e9)
    obtain rfl := asB_ok ek
    refine ⟨IO, F0, F', B, _, env2, _, e3, O2, S3, ex, how, fun v F3 H3 p3 r3 => ?_⟩
    cases (show Rep K w F3 v (.bool k) from r3)
    refine ⟨k, rfl, ?_⟩
    cases k with
    | true => exact hy _ σ2 F3 H3 p3.sr (X.ff.trans p3.ff) (fun z => X.hh.trans (p3.hh z)) hw e10
    | false =>
      cases e10
      exact hn σ2 F3 H3 p3.sr (X.ff.trans p3.ff) (fun z => X.hh.trans (p3.hh z)) hw rfl
theorem steady_some {l O' : Sl} {f : Sl → Option Sl} (h : steady l f O = some O') : ∃ O2, f O' = some O2 ∧ (∀ i ∈ O', i ∈ O) ∧ (∀ i ∈ O', i ∈ O2) ∧ ∀ i ∈ O', i ∉ l := by
  unfold steady at h
  cases h1 : f O with
  | none => rw [h1] at h; cases h
  | some O1 =>
    rw [h1] at h
    have h : (match f O1 with
      | some O2 => if (sub O1 O && sub O1 O2 && apartS l O1) = true then some O1 else none
      | none => none) = some O' := h
    cases h2 : f O1 with
    | none => rw [h2] at h; cases h
    | some O2 =>
      rw [h2] at h
      have h : (if (sub O1 O && sub O1 O2 && apartS l O1) = true then some O1 else none) = some O' := h
      split at h
      · rename_i hc
        cases h
        simp only [Bool.and_eq_true] at hc
        exact ⟨O2, h2, fun i hi => sub_mem hc.1.1 hi, fun i hi => sub_mem hc.1.2 hi, fun i hi z => apart_mem hc.2 z hi⟩
      · cases h
/-- the turns: acc what stands at D, accd its values; pre: those that stood there at the start -/
theorem loop_impG {Ac : Type} {mk : Ac → HO} {Rl : Hp → Ac → List AV → Prop} {Pc : List AV → Prop} (mono : ∀ {F F' : Hp} {a : Ac} {l : List AV}, Same F F' → Rl F a l → Rl F' a l) (pcl : ∀ l m, Pc (l ++ m) → Pc l) {J : L2.It} {Bs H1 : Hp} {D : Addr} {BODY : L2.St → Hp → (Hp → Prop) → Prop} {Qd : Hp → Prop} {O' O3 O4 : Sl} {e1 env1 : Env} {out pre : List AV} {acc0 : Ac} {bp pb : Bool}
    (W : Walk J ds.length (Same Bs) (YEv K w F1 ds)) (hBs : Same Bs H1) (hb : bp = false → Bs = F1) (hbp : bp = true → prOx c = true ∧ pb = true) (hF0 : F0 D = none) (hB : B D = none) (hsub : ∀ i ∈ ws ++ tgsOf tg, i ∈ vs) (hws : ∀ i ∈ vs, i ∈ ws)
    (S1 : SR K w IO F0 F (upd B D (mk acc0)) O σ H1 e1) (s1 : Same F1 F) (r0 : Rl F acc0 pre) (el : loopC (turnF cal ws tg c rest) ds e1 = .ok (out, env1)) (hz : Pc (pre ++ out))
    (hO' : ∀ i ∈ O', i ∈ O) (h3 : owOx (minus O' (ws ++ tgsOf tg)) c = some O3) (h5 : ∀ i ∈ O', i ∈ O3 ∧ i ∈ O4) (h6 : ∀ i ∈ O', i ∉ ws ++ tgsOf tg)
    (hbody : ∀ (acc : Ac) (accd : List AV) (env3 : Env) (σ2 : L2.St) (F3 H3 : Hp) (a : List AV) (en : Env) (Nx : Hp → Prop), SR K w IO F0 F3 (upd B D (mk acc)) O3 σ2 H3 env3 → Same F F3 → Rl F3 acc accd → rest env3 = .ok (a, en) → Pc (accd ++ a) →
      (∀ (acc' : Ac) (F4 H4 : Hp) (σ4 : L2.St), SR K w IO F0 F4 (upd B D (mk acc')) O4 σ4 H4 (wipeE en vs) → wipe σ4 vs = wipe σ2 vs → Same F3 F4 → Rl F4 acc' (accd ++ a) → (pb = true → ∀ b o, b ≠ D → H3 b = some o → H4 b = some o) → Nx H4) → BODY σ2 H3 Nx)
    (hq : ∀ (acc : Ac) (F4 H4 : Hp), SR K w IO F0 F4 (upd B D (mk acc)) O' (wipe σ vs) H4 (wipeE env1 vs) → Same F F4 → Rl F4 acc (pre ++ out) → (bp = true → ∀ b o, b ≠ D → H1 b = some o → H4 b = some o) → Qd H4)
    (hDs : ∀ o, Bs D ≠ some o) :
    LoopR J σ vs (gT K tg) (tT K w cal c) BODY Qd H1 := by
  have hO'v : ∀ i ∈ O', i ∉ vs := fun i hi z => h6 i hi (List.mem_append_left _ (hws i z))
  have same : ∀ {H4 : Hp}, (∀ b o, b ≠ D → H1 b = some o → H4 b = some o) → Same Bs H4 := fun {H4} h b o e => h b o (fun z => hDs o (z ▸ e)) (hBs b o e)
  obtain ⟨F2, S2, s2⟩ := S1.shrink hO'
  let Pv : Nat → Hp → Prop := fun i H => ∃ (acc : Ac) (accd : List AV) (en : Env) (F4 : Hp) (rst : List AV), SR K w IO F0 F4 (upd B D (mk acc)) O' (wipe σ vs) H (wipeE en vs) ∧ Same F F4 ∧ Rl F4 acc (pre ++ accd) ∧
    (bp = true → ∀ b o, b ≠ D → H1 b = some o → H b = some o) ∧ loopC (turnF cal ws tg c rest) (ds.drop i) en = .ok (rst, env1) ∧ out = accd ++ rst
  refine ⟨fun i m H => m = ds.length - i ∧ i ≤ ds.length ∧ Pv i H, ⟨ds.length, by simp, Nat.zero_le _, acc0, [], e1, F2, out, S2.wipe hO'v, s2, by rw [List.append_nil]; exact mono s2 r0, fun _ _ _ _ h => h, by simpa using el, rfl⟩, ?_⟩
  rintro i m H ⟨rfl, hi, acc, accd, en, F4, rst, S4, s4, r4, p4, e4, ho⟩
  have hG : Same Bs H := by
    cases hbv : bp with
    | true => exact same (p4 hbv)
    | false => rw [hb hbv]; exact s1.trans (s4.trans S4.fh)
  by_cases hlt : i < ds.length
  · refine .inr ⟨W.goes i H hlt hG, Pv (i + 1), fun H' p' => ⟨ds.length - (i + 1), by omega, rfl, hlt, p'⟩, fun x H' yl => ?_⟩
    have hd : ds[i]? = some ds[i] := List.getElem?_eq_getElem hlt
    rw [List.drop_eq_getElem_cons hlt] at e4
    obtain ⟨⟨a, en1⟩, ea, e4⟩ := R.bind_eq_ok (show (turnF cal ws tg c rest ds[i] en >>= fun p => loopC (turnF cal ws tg c rest) (ds.drop (i + 1)) p.2 >>= fun p2 => R.ok (p.1 ++ p2.1, p2.2)) = .ok (rst, env1) from e4)
    obtain ⟨⟨rst2, en2⟩, er, e5⟩ := R.bind_eq_ok e4
    cases e5
    have wv : wipeE en ws = wipeE en vs := by
      apply List.ext_getElem?
      intro j
      by_cases hj : j ∈ vs
      · have h1 : wipeE (wipeE en vs) ws = wipeE en ws := wipeE_wipeE hws
        have h2 : wipeE (wipeE en ws) vs = wipeE en vs := wipeE_wipeE fun i hi => hsub i (List.mem_append_left _ hi)
        by_cases hjl : j < en.length
        · cases q1 : (wipeE en ws)[j]? with
          | none => rw [List.getElem?_eq_none_iff, wipeE_length] at q1; omega
          | some o1 => cases o1 with
            | some d1 => exact absurd (hws j hj) (wipeE_some q1).2
            | none => cases q2 : (wipeE en vs)[j]? with
              | none => rw [List.getElem?_eq_none_iff, wipeE_length] at q2; omega
              | some o2 => cases o2 with
                | some d2 => exact absurd hj (wipeE_some q2).2
                | none => rfl
        · rw [List.getElem?_eq_none (by rw [wipeE_length]; omega), List.getElem?_eq_none (by rw [wipeE_length]; omega)]
      · rw [wipeE_out hj, wipeE_out fun z => hj (hsub j (List.mem_append_left _ z))]
    have hlen : Pc (pre ++ (accd ++ a)) := by
      rw [ho] at hz
      refine pcl _ rst2 ?_
      rw [List.append_assoc, List.append_assoc]
      exact hz
    have hww : wipe (wipe σ vs) vs = wipe σ vs := wipe_wipe fun _ h => h
    refine (turn_imp (K1 := fun σ2 H3 => BODY σ2 H3 (Pv (i + 1))) (K2 := Pv (i + 1)) (F1 := F1) (vs := vs) (ds := ds) (by rw [wv]; exact S4) (W.yields i H x H' hlt hG yl) (s1.trans s4) hd ea h3 h6 (fun i hi => hsub i (List.mem_append_right _ hi))
      (fun env3 σ2 F3 H3 S3 f3 hh3 w3 e3 => ?_) fun σ2 F3 H3 S3 f3 hh3 w3 e3 => ?_) |> fun h => by
        rw [hww] at h
        exact h
    · rw [hww] at w3
      refine hbody acc (pre ++ accd) env3 σ2 F3 H3 a en1 (Pv (i + 1)) S3 (s4.trans f3) (mono f3 r4) e3 (by rw [List.append_assoc]; exact hlen) fun acc' F5 H5 σ5 S5 w5 f5 r5 hh5 => ?_
      obtain ⟨F6, S6, s6⟩ := S5.shrink (O' := O') fun j hj => (h5 j hj).2
      have S7 := S6.wipe hO'v
      rw [w5, w3, wipeE_wipeE (fun _ h => h)] at S7
      refine ⟨acc', accd ++ a, en1, F6, rst2, S7, s4.trans (f3.trans (f5.trans s6)), by rw [← List.append_assoc]; exact mono s6 r5, fun hbt b o hbD hbo => ?_, er, by rw [ho]; simp⟩
      obtain ⟨q1, q2⟩ := hbp hbt
      exact hh5 q2 b o hbD (hh3 q1 b o (p4 hbt b o hbD hbo))
    · rw [hww] at w3
      subst e3
      obtain ⟨F6, S6, s6⟩ := S3.shrink (O' := O') fun j hj => (h5 j hj).1
      have S7 := S6.wipe hO'v
      rw [w3] at S7
      exact ⟨acc, accd, en1, F6, rst2, S7, s4.trans (f3.trans s6), mono (f3.trans s6) r4, fun hbt b o hbD hbo => hh3 (hbp hbt).1 b o (p4 hbt b o hbD hbo), er, by rw [ho]; simp⟩
  · have e : i = ds.length := by omega
    subst e
    rw [List.drop_length] at e4
    cases e4
    rw [List.append_nil] at ho
    subst ho
    exact .inl ⟨W.stops H hG, hq acc F4 H S4 s4 r4 p4⟩
/-- the turns: acc the list at D, accd its values; pre: those that stood there at the start -/
theorem loop_imp {J : L2.It} {Bs H1 : Hp} {D : Addr} {BODY : L2.St → Hp → (Hp → Prop) → Prop} {Qd : Hp → Prop} {O' O3 O4 : Sl} {e1 env1 : Env} {out pre : List AV} {acc0 : List V} {bp pb : Bool}
    (W : Walk J ds.length (Same Bs) (YEv K w F1 ds)) (hBs : Same Bs H1) (hb : bp = false → Bs = F1) (hbp : bp = true → prOx c = true ∧ pb = true) (hF0 : F0 D = none) (hB : B D = none) (hsub : ∀ i ∈ ws ++ tgsOf tg, i ∈ vs) (hws : ∀ i ∈ vs, i ∈ ws)
    (S1 : SR K w IO F0 F (upd B D (.lst acc0)) O σ H1 e1) (s1 : Same F1 F) (r0 : RepL K w F acc0 pre) (el : loopC (turnF cal ws tg c rest) ds e1 = .ok (out, env1)) (hz : (pre ++ out).length ≤ sizeLine)
    (hO' : ∀ i ∈ O', i ∈ O) (h3 : owOx (minus O' (ws ++ tgsOf tg)) c = some O3) (h5 : ∀ i ∈ O', i ∈ O3 ∧ i ∈ O4) (h6 : ∀ i ∈ O', i ∉ ws ++ tgsOf tg)
    (hbody : ∀ (acc : List V) (accd : List AV) (env3 : Env) (σ2 : L2.St) (F3 H3 : Hp) (a : List AV) (en : Env) (Nx : Hp → Prop), SR K w IO F0 F3 (upd B D (.lst acc)) O3 σ2 H3 env3 → Same F F3 → RepL K w F3 acc accd → rest env3 = .ok (a, en) → (accd ++ a).length ≤ sizeLine →
      (∀ (acc' : List V) (F4 H4 : Hp) (σ4 : L2.St), SR K w IO F0 F4 (upd B D (.lst acc')) O4 σ4 H4 (wipeE en vs) → wipe σ4 vs = wipe σ2 vs → Same F3 F4 → RepL K w F4 acc' (accd ++ a) → (pb = true → ∀ b o, b ≠ D → H3 b = some o → H4 b = some o) → Nx H4) → BODY σ2 H3 Nx)
    (hq : ∀ (acc : List V) (F4 H4 : Hp), SR K w IO F0 F4 (upd B D (.lst acc)) O' (wipe σ vs) H4 (wipeE env1 vs) → Same F F4 → RepL K w F4 acc (pre ++ out) → (bp = true → ∀ b o, b ≠ D → H1 b = some o → H4 b = some o) → Qd H4)
    (hDs : ∀ o, Bs D ≠ some o) :
    LoopR J σ vs (gT K tg) (tT K w cal c) BODY Qd H1 :=
  loop_impG (Ac := List V) (mk := .lst) (Rl := fun F a l => RepL K w F a l) (Pc := fun l => l.length ≤ sizeLine) (fun s r => RepL.mono s r) (fun l m h => by rw [List.length_append] at h; omega) W hBs hb hbp hF0 hB hsub hws S1 s1 r0 el hz hO' h3 h5 h6 hbody hq hDs
end
end Ev
end
section
set_option linter.all false
set_option autoImplicit false
set_option maxRecDepth 100000
/-! EvK: list comprehensions of one and of two clauses. -/
namespace Ev
open PySem PySem.Spec PyProof.Rows L2
section
variable {K : PySem.W.Frag} {w : World} {cal : Cal}
/-- a new list whose items are there -/
theorem new_list {m : Md} {x : X} {IO : List (Nat × Addr)} {F0 F F1 B H H' : Hp} {O' : Sl} {σ : L2.St} {env' : Env} {D : Addr} {acc : List V} {ds : List AV} {pr : Bool} {Q : VK} (hf : freshE x = true) (S : SR K w IO F0 F1 B O' σ H' env') (hF : F1 D = none) (hB : B D = none) (hn : NoSlot O' σ env' D) (hD : H' D = some (.lst acc)) (r : RepL K w F1 acc ds)
    (ff : Same F F1) (hh : pr = true → Same H H') (q : ∀ v F' H', Pst K w IO F0 F B O' σ H env' pr F' H' → RV K w m x F' B H' O' σ env' v (.list ds) → Q v H') : Q (.ref D) H' := by
  cases m with
  | val => exact q _ _ H' ⟨S.froz hF hB hD hn, ff.trans (same_upd' hF), hh⟩ (.lst (.inl (.inl upd_same)) (r.mono (same_upd' hF)))
  | opd => exact q _ F1 H' ⟨S, ff, hh⟩ ⟨⟨D, acc, rfl, .inl (.inl hD), r⟩, fun _ => .inl ⟨D, _, rfl, hB, hD⟩⟩
  | new =>
    refine q _ F1 H' ⟨S, ff, hh⟩ ?_
    unfold RV
    rw [if_pos hf]
    exact ⟨⟨D, acc, rfl, hF, hB, hD, r⟩, fun a e _ => by cases e; exact hn⟩
/-- the item's own step -/
def BodyE (K : PySem.W.Frag) (w : World) (cal : Cal) (ex : X) (D : Addr) : L2.St → Hp → (Hp → Prop) → Prop := fun σ2 H3 Nx => rd K w cal .val ex σ2 H3 fun y H4 => ∃ acc, H4 D = some (.lst acc) ∧ acc.length < sizeLine ∧ Nx (upd H4 D (.lst (acc ++ [y])))
def lastE (cal : Cal) (ex : X) (env : Env) : R (List AV × Env) := do
  let (v, env') ← evE cal ex env
  .ok ([v], env')
theorem body_imp {IO : List (Nat × Addr)} {F0 F3 B H3 : Hp} {O3 O4 : Sl} {σ2 : L2.St} {env3 en : Env} {D : Addr} {acc : List V} {accd a : List AV} {ex : X} {Nx : Hp → Prop} {vs : List Nat} {pb : Bool} (hpb : pb = true → prE ex = true) (hF0 : F0 D = none)
    (S3 : SR K w IO F0 F3 (upd B D (.lst acc)) O3 σ2 H3 env3) (r : RepL K w F3 acc accd) (e : lastE cal ex env3 = .ok (a, en)) (hz : (accd ++ a).length ≤ sizeLine) (ho : owE O3 ex = some O4) (hv : ∀ i ∈ O4, i ∉ vs)
    (h : ∀ (acc' : List V) (F4 H4 : Hp) (σ4 : L2.St), SR K w IO F0 F4 (upd B D (.lst acc')) O4 σ4 H4 (wipeE en vs) → wipe σ4 vs = wipe σ2 vs → Same F3 F4 → RepL K w F4 acc' (accd ++ a) → (pb = true → ∀ b o, b ≠ D → H3 b = some o → H4 b = some o) → Nx H4) : BodyE K w cal ex D σ2 H3 Nx := by
  obtain ⟨⟨v, e1⟩, ev, e⟩ := R.bind_eq_ok (show (evE cal ex env3 >>= fun p => R.ok ([p.1], p.2)) = .ok (a, en) from e)
  cases e
  refine ⟨IO, F0, F3, _, O3, env3, v, _, O4, S3, ev, ho, fun y F4 H4 p4 r4 => ?_⟩
  have r4 : Rep K w F4 y v := r4
  have hl := r.length
  have bD : (upd B D (HO.lst acc)) D = some (.lst acc) := upd_same
  have nF : F4 D = none := by
    cases z : F4 D with
    | none => rfl
    | some o =>
      rcases p4.sr.fb D o z with q | q
      · rw [hF0] at q; cases q
      · rw [bD] at q; cases q
  refine ⟨acc, p4.sr.bh _ _ bD, by simp only [List.length_append, List.length_cons, List.length_nil] at hz; omega, ?_⟩
  have S5 := p4.sr.put (o := .lst (acc ++ [y])) nF (p4.sr.noSlot (.inr (.inl (by rw [bD]; simp))))
  rw [upd_upd] at S5
  refine h (acc ++ [y]) F4 _ _ (S5.wipe hv) (wipe_wipe fun _ h => h) p4.ff ((r.mono p4.ff).snoc r4) fun z b o hb ho => ?_
  rw [upd_ne hb]
  exact p4.hh (hpb z) b o ho
theorem owC_one {O O' : Sl} {ws : List Nat} {tg : Tg} {it : It} {c : Ox} {pb : Bool} {last : Sl → Option Sl} (h : owCs O (.cons ws tg it c .nil) pb last = some O') :
    ∃ O1 O3 O4, owIt (prOx c && pb) O it = some O1 ∧ (∀ i ∈ O', i ∈ O1) ∧ owOx (minus O' (ws ++ tgsOf tg)) c = some O3 ∧ last O3 = some O4 ∧ (∀ i ∈ O', i ∈ O3 ∧ i ∈ O4) ∧ ∀ i ∈ O', i ∉ ws ++ tgsOf tg := by
  obtain ⟨O1, h1, h⟩ := andThen_some (show andThen (owIt (prOx c && true && pb) O it) (fun O1 => steady (ws ++ tgsOf tg) (fun O => andThen (owOx (minus O (ws ++ tgsOf tg)) c) fun O2 => both (some O2) (last O2)) O1) = some O' from h)
  obtain ⟨O2, h2, g1, g2, g3⟩ := steady_some h
  obtain ⟨O3, h3, h4⟩ := andThen_some h2
  obtain ⟨A, O4, e1, h5, rfl⟩ := both_some h4
  cases e1
  rw [Bool.and_true] at h1
  exact ⟨O1, O3, O4, h1, g1, h3, h5, fun i hi => mem_meet.mp (g2 i hi), g3⟩
theorem evC_one {ws : List Nat} {tg : Tg} {it : It} {c : Ox} {last : Env → R (List AV × Env)} {env : Env} : evCs cal (.cons ws tg it c .nil) last env = (do let (xs, env1) ← evIt cal it env; loopC (turnF cal ws tg c last) xs env1) := rfl
theorem evC_two {ws ws1 : List Nat} {tg tg1 : Tg} {it it1 : It} {c c1 : Ox} {last : Env → R (List AV × Env)} {env : Env} : evCs cal (.cons ws tg it c (.cons ws1 tg1 it1 c1 .nil)) last env = (do let (xs, env1) ← evIt cal it env; loopC (turnF cal ws tg c fun env => do let (xs, env1) ← evIt cal it1 env; loopC (turnF cal ws1 tg1 c1 last) xs env1) xs env1) := rfl
/-- one clause -/
theorem comp1_imp {m : Md} {own : List Nat} {tg : Tg} {it : It} {c : Ox} {ex : X} {σ : L2.St} {H : Hp} {Q : VK} (hsub : ∀ i ∈ tgsOf tg, i ∈ own) (hv : ∀ (O3 O4 : Sl), owE O3 ex = some O4 → ∀ i ∈ O4, i ∈ O3) (hvc : ∀ (O3 O4 : Sl), owOx O3 c = some O4 → ∀ i ∈ O4, i ∈ O3)
    (h : rd K w cal m (.comp own (.cons own tg it c .nil) ex) σ H Q) : tLc (rdIt K w cal (prOx c && prE ex) it) (gT K tg) (tT K w cal c) (rd K w cal .val ex) own σ H Q := by
  obtain ⟨IO, F0, F, B, O, env, d, env', O', S, e, o, q⟩ := h
  obtain ⟨⟨out, env1⟩, ec, e⟩ := R.bind_eq_ok (show (evCs cal (.cons own tg it c .nil) (lastE cal ex) env >>= fun p => lstR p.1 >>= fun l => R.ok (l, back env p.2 own)) = .ok (d, env') from e)
  obtain ⟨l, el, e⟩ := R.bind_eq_ok e
  cases e
  obtain ⟨rfl, hz⟩ := lstR_ok el
  rw [evC_one] at ec
  obtain ⟨⟨ds, e1⟩, ei, eloop⟩ := R.bind_eq_ok ec
  rw [owM_nv rfl] at o
  have o : (if apartS own O = true then owCs O (.cons own tg it c .nil) (prE ex) (fun O => owE O ex) else none) = some O' := o
  split at o
  · rename_i hap
    obtain ⟨O1, O3, O4, oi, g1, g2, g3, g4, g5⟩ := owC_one o
    refine ⟨IO, F0, F, B, O, env, ds, e1, O1, S, ei, oi, fun J F1 H1 Bs p1 hBs hb _ W D hD => ?_⟩
    have nF : F1 D = none := p1.sr.fh.free hD
    have nB : B D = none := p1.sr.bh.free hD
    have nF0 : F0 D = none := p1.sr.f0.free nF
    have S1 := p1.sr.put (o := .lst []) nF (p1.sr.noSlot (.inr (.inr hD)))
    have hO'v : ∀ i ∈ O', i ∉ own := fun i hi z => g5 i hi (List.mem_append_left _ z)
    have hO4 : ∀ i ∈ O4, i ∉ own := fun i hi z => by
      have h1 := hvc _ _ g2 i (hv _ _ g3 i hi)
      exact (minus_mem.mp h1).2 (List.mem_append_left _ z)
    have bs0 : ∀ o, Bs D ≠ some o := fun o z => by
      have := hBs _ _ z
      rw [hD] at this
      cases this
    refine loop_imp (BODY := BodyE K w cal ex D) (Qd := fun H => Q (.ref D) H) (bp := prOx c && prE ex) (pb := prE ex) (pre := []) W (hBs.trans (same_upd' hD)) hb (fun z => by rw [Bool.and_eq_true] at z; exact z) nF0 nB (fun i hi => (List.mem_append.mp hi).elim id (hsub i)) (fun i hi => hi) S1 (Same.refl _) .nil eloop (by simpa using hz) g1 g2 g4 g5
      (fun acc accd env3 σ2 F3 H3 a en Nx S3 f3 r3 e3 z3 k => body_imp (fun z => z) nF0 S3 r3 e3 z3 g3 hO4 k) (fun acc F4 H4 S4 f4 r4 h4 => ?_) bs0
    have S5 : SR K w IO F0 F4 B O' (wipe σ own) H4 (wipeE env1 own) := S4.less (same_upd' nB)
    have S6 := S.back S5 (p1.ff.trans f4) (fun i hi z => apart_mem hap z hi) hO'v
    have bD : (upd B D (HO.lst acc)) D = some (.lst acc) := upd_same
    have hD4 : H4 D = some (.lst acc) := S4.bh _ _ bD
    have nF4 : F4 D = none := by
      cases z : F4 D with
      | none => rfl
      | some o =>
        rcases S4.fb D o z with q | q
        · rw [nF0] at q; cases q
        · rw [bD] at q; cases q
    have ns : NoSlot O' σ (back env env1 own) D := fun j hj dd hd hm hs => by
      rw [back_out (hO'v j hj)] at hd
      exact S4.noSlot (.inr (.inl (by rw [bD]; simp))) j hj dd (by rw [wipeE_out (hO'v j hj)]; exact hd) hm (by rw [wipeS_out (hO'v j hj)]; exact hs)
    refine new_list (ds := out) rfl S6 nF4 nB ns hD4 r4 (p1.ff.trans f4) (fun z => ?_) q
    have z : ((prIt it && prOx c && true) && prE ex) = true := z
    simp only [Bool.and_eq_true, and_true] at z
    intro b o hbo
    have hb1 := p1.hh z.1.1 b o hbo
    have nb : b ≠ D := fun y => by subst y; rw [hD] at hb1; cases hb1
    exact h4 (by rw [z.1.2, z.2]; rfl) b o nb (by rw [upd_ne nb]; exact hb1)
  · cases o
/-- two clauses -/
theorem comp2_imp {m : Md} {own ws1 : List Nat} {tg tg1 : Tg} {it it1 : It} {c c1 : Ox} {ex : X} {σ : L2.St} {H : Hp} {Q : VK} (hsub : ∀ i ∈ tgsOf tg, i ∈ own) (hsub1 : ∀ i ∈ ws1 ++ tgsOf tg1, i ∈ ws1) (hs2 : ∀ i ∈ ws1, i ∈ own)
    (hv : ∀ (O3 O4 : Sl), owE O3 ex = some O4 → ∀ i ∈ O4, i ∈ O3) (hvc : ∀ (O3 O4 : Sl), owOx O3 c = some O4 → ∀ i ∈ O4, i ∈ O3) (hvc1 : ∀ (O3 O4 : Sl), owOx O3 c1 = some O4 → ∀ i ∈ O4, i ∈ O3)
    (hvi : ∀ b (O3 O4 : Sl), owIt b O3 it1 = some O4 → ∀ i ∈ O4, i ∈ O3)
    (h : rd K w cal m (.comp own (.cons own tg it c (.cons ws1 tg1 it1 c1 .nil)) ex) σ H Q) :
    tLc2 (rdIt K w cal (prOx c && (prIt it1 && prOx c1 && true) && prE ex) it) (gT K tg) (tT K w cal c) (rdIt K w cal (prOx c1 && prE ex) it1) (gT K tg1) (tT K w cal c1) (rd K w cal .val ex) own ws1 σ H Q := by
  obtain ⟨IO, F0, F, B, O, env, d, env', O', S, e, o, q⟩ := h
  obtain ⟨⟨out, env1⟩, ec, e⟩ := R.bind_eq_ok (show (evCs cal (.cons own tg it c (.cons ws1 tg1 it1 c1 .nil)) (lastE cal ex) env >>= fun p => lstR p.1 >>= fun l => R.ok (l, back env p.2 own)) = .ok (d, env') from e)
  obtain ⟨l, el, e⟩ := R.bind_eq_ok e
  cases e
  obtain ⟨rfl, hz⟩ := lstR_ok el
  rw [evC_two] at ec
  obtain ⟨⟨ds, e1⟩, ei, eloop⟩ := R.bind_eq_ok ec
  rw [owM_nv rfl] at o
  have o : (if apartS own O = true then owCs O (.cons own tg it c (.cons ws1 tg1 it1 c1 .nil)) (prE ex) (fun O => owE O ex) else none) = some O' := o
  split at o
  · rename_i hap
    obtain ⟨O1, oi, o⟩ := andThen_some (show andThen (owIt (prOx c && (prIt it1 && prOx c1 && true) && prE ex) O it) (fun O1 => steady (own ++ tgsOf tg) (fun O => andThen (owOx (minus O (own ++ tgsOf tg)) c) fun O2 => both (some O2) (owCs O2 (.cons ws1 tg1 it1 c1 .nil) (prE ex) (fun O => owE O ex))) O1) = some O' from o)
    obtain ⟨O2, h2, g1, g4, g5⟩ := steady_some o
    obtain ⟨O3, g2, h4⟩ := andThen_some h2
    obtain ⟨A, O4, e9, oin, rfl⟩ := both_some h4
    cases e9
    obtain ⟨P1, P3, P4, pi, k1, k2, k3, k4, k5⟩ := owC_one oin
    refine ⟨IO, F0, F, B, O, env, ds, e1, O1, S, ei, oi, fun J F1 H1 Bs p1 hBs hb _ W D hD => ?_⟩
    have nF : F1 D = none := p1.sr.fh.free hD
    have nB : B D = none := p1.sr.bh.free hD
    have nF0 : F0 D = none := p1.sr.f0.free nF
    have S1 := p1.sr.put (o := .lst []) nF (p1.sr.noSlot (.inr (.inr hD)))
    have hO'v : ∀ i ∈ O', i ∉ own := fun i hi z => g5 i hi (List.mem_append_left _ z)
    have hO3 : ∀ i ∈ O3, i ∉ own := fun i hi z => (minus_mem.mp (hvc _ _ g2 i hi)).2 (List.mem_append_left _ z)
    have hP4 : ∀ i ∈ P4, i ∉ ws1 := fun i hi z => (minus_mem.mp (hvc1 _ _ k2 i (hv _ _ k3 i hi))).2 (List.mem_append_left _ z)
    have hO4v : ∀ i ∈ O4, i ∉ own := fun i hi z => hO3 i (hvi _ _ _ pi i (k1 i hi)) z
    have bs0 : ∀ o, Bs D ≠ some o := fun o z => by
      have := hBs _ _ z
      rw [hD] at this
      cases this
    refine loop_imp (BODY := fun σ2 H3 Nx => rdIt K w cal (prOx c1 && prE ex) it1 σ2 H3 fun J1 H4 => LoopR J1 σ2 ws1 (gT K tg1) (tT K w cal c1) (BodyE K w cal ex D) Nx H4) (Qd := fun H => Q (.ref D) H) (bp := prOx c && (prIt it1 && prOx c1 && true) && prE ex) (pb := prIt it1 && prOx c1 && prE ex) (pre := []) W (hBs.trans (same_upd' hD)) hb
      (fun z => by simp only [Bool.and_eq_true, and_true] at z ⊢; exact ⟨z.1.1, z.1.2, z.2⟩) nF0 nB (fun i hi => (List.mem_append.mp hi).elim id (hsub i)) (fun i hi => hi) S1 (Same.refl _) .nil eloop (by simpa using hz) g1 g2 (fun i hi => mem_meet.mp (g4 i hi)) g5
      (fun acc accd env3 σ2 F3 H3 a en Nx S3 f3 r3 e3 z3 k => ?_) (fun acc F4 H4 S4 f4 r4 h4 => ?_) bs0
    · obtain ⟨⟨ds1, e5⟩, ei1, eloop1⟩ := R.bind_eq_ok e3
      refine ⟨IO, F0, F3, _, O3, env3, ds1, e5, P1, S3, ei1, pi, fun J1 F5 H5 Bs1 p5 hBs1 hb1 hB1 W1 => ?_⟩
      have bD3 : H5 D = some (.lst acc) := p5.sr.bh _ _ upd_same
      have nF5 : F5 D = none := by
        cases z : F5 D with
        | none => rfl
        | some o =>
          rcases p5.sr.fb D o z with q | q
          · rw [nF0] at q; cases q
          · rw [upd_same] at q; cases q
      have hO4w : ∀ i ∈ O4, i ∉ ws1 := fun i hi z => hO4v i hi (hs2 i z)
      refine loop_imp (BODY := BodyE K w cal ex D) (Qd := Nx) (bp := prOx c1 && prE ex) (pb := prE ex) (pre := accd) (acc0 := acc) W1 hBs1 hb1 (fun z => by rw [Bool.and_eq_true] at z; exact z) nF0 nB hsub1 (fun i hi => hi) p5.sr (Same.refl _) (r3.mono p5.ff) eloop1 z3 k1 k2 k4 k5
        (fun acc accd env3 σ3 F6 H6 a en Nx S6 f6 r6 e6 z6 kk => body_imp (fun z => z) nF0 S6 r6 e6 z6 k3 hP4 kk) (fun acc F6 H6 S6 f6 r6 h6 => ?_) fun o z => ?_
      · have S7 := S6.wipe hO4v
        rw [wipe_wipe hs2, wipeE_wipeE hs2] at S7
        refine k acc F6 H6 _ S7 (wipe_wipe fun _ h => h) (p5.ff.trans f6) r6 fun z b o hb ho => ?_
        simp only [Bool.and_eq_true] at z
        exact h6 (by rw [z.1.2, z.2]; rfl) b o hb (p5.hh z.1.1 b o ho)
      · rcases hB1 _ _ z with q | q
        · rw [nF5] at q; cases q
        · rw [upd_same] at q; cases q
    · have S5 : SR K w IO F0 F4 B O' (wipe σ own) H4 (wipeE env1 own) := S4.less (same_upd' nB)
      have S6 := S.back S5 (p1.ff.trans f4) (fun i hi z => apart_mem hap z hi) hO'v
      have bD : (upd B D (HO.lst acc)) D = some (.lst acc) := upd_same
      have hD4 : H4 D = some (.lst acc) := S4.bh _ _ bD
      have nF4 : F4 D = none := by
        cases z : F4 D with
        | none => rfl
        | some o =>
          rcases S4.fb D o z with q | q
          · rw [nF0] at q; cases q
          · rw [bD] at q; cases q
      have ns : NoSlot O' σ (back env env1 own) D := fun j hj dd hd hm hs => by
        rw [back_out (hO'v j hj)] at hd
        exact S4.noSlot (.inr (.inl (by rw [bD]; simp))) j hj dd (by rw [wipeE_out (hO'v j hj)]; exact hd) hm (by rw [wipeS_out (hO'v j hj)]; exact hs)
      refine new_list (ds := out) rfl S6 nF4 nB ns hD4 r4 (p1.ff.trans f4) (fun z => ?_) q
      have z : ((prIt it && prOx c && (prIt it1 && prOx c1 && true)) && prE ex) = true := z
      simp only [Bool.and_eq_true, and_true] at z
      intro b o hbo
      have hb1 := p1.hh z.1.1.1 b o hbo
      have nb : b ≠ D := fun y => by subst y; rw [hD] at hb1; cases hb1
      exact h4 (by simp [z.1.1.2, z.1.2.1, z.1.2.2, z.2]) b o nb (by rw [upd_ne nb]; exact hb1)
  · cases o
end
end Ev
end
section
set_option linter.all false
set_option autoImplicit false
set_option maxRecDepth 100000
/-! EvK2: dict comprehensions of one and of two clauses. -/
namespace Ev
open PySem PySem.Spec PyProof.Rows L2
theorem pairs_append : ∀ (l m : List AV), pairs? (l ++ m) = (pairs? l).bind fun a => (pairs? m).map fun b => a ++ b
  | [], m => by
    show pairs? m = _
    cases h : pairs? m <;> simp [pairs?, h]
  | x :: l, m => by
    have key : ∀ k v, x = .tuple [k, v] → pairs? (x :: l ++ m) = (pairs? (x :: l)).bind fun a => (pairs? m).map fun b => a ++ b := fun k v e => by
      subst e
      show (pairs? (l ++ m)).map ((k, v) :: ·) = ((pairs? l).map ((k, v) :: ·)).bind _
      rw [pairs_append l m]
      cases pairs? l <;> cases pairs? m <;> rfl
    cases x with
    | tuple ds =>
      rcases ds with _ | ⟨a, _ | ⟨b, _ | ⟨c, ds⟩⟩⟩ <;> first
        | exact key _ _ rfl
        | rfl
    | _ => rfl
theorem dputs_append : ∀ (l m kvs : List (AV × AV)), dputs kvs (l ++ m) = (dputs kvs l >>= fun k => dputs k m)
  | [], m, kvs => rfl
  | (k, v) :: l, m, kvs => by
    show (dput' kvs k v >>= fun k' => dputs k' (l ++ m)) = ((dput' kvs k v >>= fun k' => dputs k' l) >>= fun k => dputs k m)
    cases dput' kvs k v with
    | ok q => exact dputs_append l m q
    | exc c as => rfl
    | bad => rfl
theorem disp_ok {l : List AV} {kvs : List (AV × AV)} (h : dispL l = .ok kvs) : ∃ ps, pairs? l = some ps ∧ (∀ p ∈ ps, leafK p.1 = true) ∧ dputs [] ps = .ok kvs := by
  unfold dispL at h
  cases hp : pairs? l with
  | none => rw [hp] at h; cases h
  | some ps =>
    rw [hp] at h
    dsimp only at h
    split at h
    · rename_i ha
      exact ⟨ps, rfl, List.all_eq_true.mp ha, h⟩
    · cases h
theorem disp_mk {l : List AV} {ps kvs : List (AV × AV)} (h1 : pairs? l = some ps) (h2 : ∀ p ∈ ps, leafK p.1 = true) (h3 : dputs [] ps = .ok kvs) : dispL l = .ok kvs := by
  unfold dispL
  rw [h1]
  dsimp only
  rw [if_pos (List.all_eq_true.mpr h2)]
  exact h3
/-- the entries make a dict -/
def PcD (l : List AV) : Prop := ∃ kvs, dispL l = .ok kvs
theorem PcD.pre (l m : List AV) (h : PcD (l ++ m)) : PcD l := by
  obtain ⟨kvs, h⟩ := h
  obtain ⟨ps, h1, h2, h3⟩ := disp_ok h
  rw [pairs_append] at h1
  cases hl : pairs? l with
  | none => rw [hl] at h1; cases h1
  | some a =>
    cases hm : pairs? m with
    | none => rw [hl, hm] at h1; cases h1
    | some b =>
      rw [hl, hm] at h1
      have h1 : some (a ++ b) = some ps := h1
      cases h1
      rw [dputs_append] at h3
      obtain ⟨k, e, _⟩ := R.bind_eq_ok h3
      exact ⟨k, disp_mk hl (fun p hp => h2 p (List.mem_append_left _ hp)) e⟩
theorem disp_snoc {l : List AV} {k v : AV} {kvs kvs' : List (AV × AV)} (h : dispL l = .ok kvs) (g : dispL (l ++ [.tuple [k, v]]) = .ok kvs') : leafK k = true ∧ kvs.length < line ∧ kvs' = dput kvs k v := by
  obtain ⟨ps, h1, h2, h3⟩ := disp_ok h
  obtain ⟨qs, g1, g2, g3⟩ := disp_ok g
  rw [pairs_append, h1] at g1
  have g1 : some (ps ++ [(k, v)]) = some qs := g1
  cases g1
  rw [dputs_append, h3] at g3
  have g3 : (dput' kvs k v >>= fun k' => dputs k' []) = .ok kvs' := g3
  obtain ⟨k2, e1, e2⟩ := R.bind_eq_ok g3
  cases e2
  unfold dput' at e1
  split at e1
  · rename_i hc
    rw [Bool.and_eq_true, decide_eq_true_iff] at hc
    cases e1
    exact ⟨g2 (k, v) (List.mem_append_right _ List.mem_cons_self), hc.2, rfl⟩
  · cases e1
/-- the dict that stands there -/
def RlD (K : PySem.W.Frag) (w : World) (F : Hp) (L : List (Key × V)) (l : List AV) : Prop := ∃ kvs, dispL l = .ok kvs ∧ RepD K w F false (emK L) kvs
theorem emK_len (L : List (Key × V)) : (emK L).length = L.length := by unfold emK; rw [List.length_map]
section
variable {K : PySem.W.Frag} {w : World} {cal : Cal}
theorem new_dict {m : Md} {x : X} {IO : List (Nat × Addr)} {F0 F F1 B H H' : Hp} {O' : Sl} {σ : L2.St} {env' : Env} {D : Addr} {L : List (Key × V)} {kvs : List (AV × AV)} {pr : Bool} {Q : VK} (o : Obj) (hf : freshE x = true) (S : SR K w IO F0 F1 B O' σ H' env') (hF : F1 D = none) (hB : B D = none) (hn : NoSlot O' σ env' D) (r : RepD K w F1 false (emK L) kvs)
    (hD : pr = true → H D = none) (ff : Same F F1) (hh : pr = true → Same H H') (q : ∀ v F' H', Pst K w IO F0 F B O' σ H env' pr F' H' → RV K w m x F' B H' O' σ env' v (.dict kvs) → Q v H') : Q (.ref D) (upd H' D (dictH w D o (emK L))) := by
  have S1 : SR K w IO F0 F1 B O' σ (upd H' D (dictH w D o (emK L))) env' := (S.put (o := dictH w D o (emK L)) hF hn).less (same_upd' hB)
  have h1 : pr = true → Same H (upd H' D (dictH w D o (emK L))) := fun z b u e => by
    rw [upd_ne fun y => by rw [y, hD z] at e; cases e]
    exact hh z b u e
  cases m with
  | val => exact q _ _ _ ⟨S1.froz hF hB upd_same hn, ff.trans (same_upd' hF), h1⟩ (.dct upd_same (r.mono (same_upd' hF)))
  | opd => exact q _ F1 _ ⟨S1, ff, h1⟩ ⟨⟨D, o, emK L, false, rfl, upd_same, r⟩, fun _ => .inl ⟨D, _, rfl, hB, upd_same⟩⟩
  | new =>
    refine q _ F1 _ ⟨S1, ff, h1⟩ ?_
    unfold RV
    rw [if_pos hf]
    exact ⟨⟨D, o, emK L, false, rfl, hF, hB, upd_same, r⟩, fun a e _ => by cases e; exact hn⟩
def BodyD (K : PySem.W.Frag) (w : World) (cal : Cal) (kx vx : X) (D : Addr) : L2.St → Hp → (Hp → Prop) → Prop := fun σ2 H3 Nx => rd K w cal .val kx σ2 H3 fun y H4 => rd K w cal .val vx σ2 H4 fun z H5 => ∃ L k, y = kV k ∧ H5 D = some (.dK L) ∧ L.length < sizeLine ∧ Nx (upd H5 D (.dK (putK L k z)))
def lastD (cal : Cal) (kx vx : X) (env : Env) : R (List AV × Env) := do
  let (a, env1) ← evE cal kx env
  let (b, env2) ← evE cal vx env1
  .ok ([.tuple [a, b]], env2)
def owD2 (kx vx : X) (O : Sl) : Option Sl := andThen (owE O kx) fun O1 => owE O1 vx
theorem owD2_sub {kx vx : X} {O O' : Sl} (hk : ∀ (O3 O4 : Sl), owE O3 kx = some O4 → ∀ i ∈ O4, i ∈ O3) (hv : ∀ (O3 O4 : Sl), owE O3 vx = some O4 → ∀ i ∈ O4, i ∈ O3) (h : owD2 kx vx O = some O') : ∀ i ∈ O', i ∈ O := fun i hi => by
  obtain ⟨O1, h1, h2⟩ := andThen_some h
  exact hk _ _ h1 i (hv _ _ h2 i hi)
theorem bodyD_imp {IO : List (Nat × Addr)} {F0 F3 B H3 : Hp} {O3 O4 : Sl} {σ2 : L2.St} {env3 en : Env} {D : Addr} {acc : List (Key × V)} {accd a : List AV} {kx vx : X} {Nx : Hp → Prop} {vs : List Nat} {pb : Bool} (hpb : pb = true → (prE kx && prE vx) = true) (hF0 : F0 D = none)
    (S3 : SR K w IO F0 F3 (upd B D (.dK acc)) O3 σ2 H3 env3) (r : RlD K w F3 acc accd) (e : lastD cal kx vx env3 = .ok (a, en)) (hz : PcD (accd ++ a)) (ho : owD2 kx vx O3 = some O4) (hv : ∀ i ∈ O4, i ∉ vs)
    (h : ∀ (acc' : List (Key × V)) (F4 H4 : Hp) (σ4 : L2.St), SR K w IO F0 F4 (upd B D (.dK acc')) O4 σ4 H4 (wipeE en vs) → wipe σ4 vs = wipe σ2 vs → Same F3 F4 → RlD K w F4 acc' (accd ++ a) → (pb = true → ∀ b o, b ≠ D → H3 b = some o → H4 b = some o) → Nx H4) : BodyD K w cal kx vx D σ2 H3 Nx := by
  obtain ⟨⟨dk, e1⟩, ek, e⟩ := R.bind_eq_ok (show (evE cal kx env3 >>= fun p => evE cal vx p.2 >>= fun q => R.ok ([.tuple [p.1, q.1]], q.2)) = .ok (a, en) from e)
  obtain ⟨⟨dv, e2⟩, ev, e⟩ := R.bind_eq_ok e
  cases e
  obtain ⟨O1, o1, o2⟩ := andThen_some ho
  refine ⟨IO, F0, F3, _, O3, env3, dk, _, O1, S3, ek, o1, fun y F4 H4 p4 r4 => ?_⟩
  have r4 : Rep K w F4 y dk := r4
  refine ⟨IO, F0, F4, _, O1, e1, dv, _, O4, p4.sr, ev, o2, fun z F5 H5 p5 r5 => ?_⟩
  have r5 : Rep K w F5 z dv := r5
  obtain ⟨kvs, d1, d2⟩ := r
  obtain ⟨kvs', g⟩ := hz
  obtain ⟨c1, c2, rfl⟩ := disp_snoc d1 g
  obtain ⟨nk, hk⟩ := keyA_leaf c1
  have hy := keyA_rep hk r4
  have hl := d2.length
  rw [emK_len] at hl
  have bD : (upd B D (HO.dK acc)) D = some (.dK acc) := upd_same
  have nF : F5 D = none := by
    cases z : F5 D with
    | none => rfl
    | some o =>
      rcases p5.sr.fb D o z with q | q
      · rw [hF0] at q; cases q
      · rw [bD] at q; cases q
  refine ⟨acc, nk, hy, p5.sr.bh _ _ bD, by rw [hl, ← line_eq]; exact c2, ?_⟩
  have S5 := p5.sr.put (o := .dK (putK acc nk z)) nF (p5.sr.noSlot (.inr (.inl (by rw [bD]; simp))))
  rw [upd_upd] at S5
  refine h (putK acc nk z) F5 _ _ (S5.wipe hv) (wipe_wipe fun _ h => h) (p4.ff.trans p5.ff) ⟨_, g, (d2.mono (p4.ff.trans p5.ff)).put hk r5⟩ fun zz b o hb ho => ?_
  have zz := hpb zz
  rw [Bool.and_eq_true] at zz
  rw [upd_ne hb]
  exact p5.hh zz.2 b o (p4.hh zz.1 b o ho)
theorem RlD.mono {F F' : Hp} {L : List (Key × V)} {l : List AV} (s : Same F F') (h : RlD K w F L l) : RlD K w F' L l := let ⟨kvs, h1, h2⟩ := h; ⟨kvs, h1, h2.mono s⟩
theorem RlD.nil {F : Hp} : RlD K w F [] [] := ⟨[], rfl, .nil⟩
/-- one clause -/
theorem dcomp1_imp {m : Md} {own : List Nat} {tg : Tg} {it : It} {c : Ox} {kx vx : X} {σ : L2.St} {H : Hp} {Q : VK} (hsub : ∀ i ∈ tgsOf tg, i ∈ own) (hvk : ∀ (O3 O4 : Sl), owE O3 kx = some O4 → ∀ i ∈ O4, i ∈ O3) (hvv : ∀ (O3 O4 : Sl), owE O3 vx = some O4 → ∀ i ∈ O4, i ∈ O3) (hvc : ∀ (O3 O4 : Sl), owOx O3 c = some O4 → ∀ i ∈ O4, i ∈ O3)
    (h : rd K w cal m (.dcomp own (.cons own tg it c .nil) kx vx) σ H Q) : toD w (tDc (rdIt K w cal (prOx c && (prE kx && prE vx)) it) (gT K tg) (tT K w cal c) (rd K w cal .val kx) (rd K w cal .val vx) own) σ H Q := by
  obtain ⟨IO, F0, F, B, O, env, d, env', O', S, e, o, q⟩ := h
  obtain ⟨⟨out, env1⟩, ec, e⟩ := R.bind_eq_ok (show (evCs cal (.cons own tg it c .nil) (lastD cal kx vx) env >>= fun p => dispL p.1 >>= fun l => R.ok (.dict l, back env p.2 own)) = .ok (d, env') from e)
  obtain ⟨l, el, e⟩ := R.bind_eq_ok e
  cases e
  rw [evC_one] at ec
  obtain ⟨⟨ds, e1⟩, ei, eloop⟩ := R.bind_eq_ok ec
  rw [owM_nv rfl] at o
  have o : (if apartS own O = true then owCs O (.cons own tg it c .nil) (prE kx && prE vx) (owD2 kx vx) else none) = some O' := o
  split at o
  · rename_i hap
    obtain ⟨O1, O3, O4, oi, g1, g2, g3, g4, g5⟩ := owC_one o
    refine ⟨IO, F0, F, B, O, env, ds, e1, O1, S, ei, oi, fun J F1 H1 Bs p1 hBs hb _ W D hD => ?_⟩
    have nF : F1 D = none := p1.sr.fh.free hD
    have nB : B D = none := p1.sr.bh.free hD
    have nF0 : F0 D = none := p1.sr.f0.free nF
    have S1 := p1.sr.put (o := .dK []) nF (p1.sr.noSlot (.inr (.inr hD)))
    have hO'v : ∀ i ∈ O', i ∉ own := fun i hi z => g5 i hi (List.mem_append_left _ z)
    have hO4 : ∀ i ∈ O4, i ∉ own := fun i hi z => by
      have h1 := hvc _ _ g2 i (owD2_sub hvk hvv g3 i hi)
      exact (minus_mem.mp h1).2 (List.mem_append_left _ z)
    have bs0 : ∀ o, Bs D ≠ some o := fun o z => by
      have := hBs _ _ z
      rw [hD] at this
      cases this
    refine loop_impG (Ac := List (Key × V)) (mk := .dK) (Rl := RlD K w) (Pc := PcD) RlD.mono PcD.pre (acc0 := []) (BODY := BodyD K w cal kx vx D) (Qd := fun H => ∃ D' L, V.ref D = .ref D' ∧ H D' = some (.dK L) ∧ ∀ o, Q (.ref D') (upd H D' (dictH w D' o (emK L)))) (bp := prOx c && (prE kx && prE vx)) (pb := prE kx && prE vx) (pre := []) W (hBs.trans (same_upd' hD)) hb (fun z => by rw [Bool.and_eq_true] at z; exact z) nF0 nB (fun i hi => (List.mem_append.mp hi).elim id (hsub i)) (fun i hi => hi) S1 (Same.refl _) .nil eloop ⟨l, el⟩ g1 g2 g4 g5
      (fun acc accd env3 σ2 F3 H3 a en Nx S3 f3 r3 e3 z3 k => bodyD_imp (fun z => z) nF0 S3 r3 e3 z3 g3 hO4 k) (fun acc F4 H4 S4 f4 r4 h4 => ?_) bs0
    have S5 : SR K w IO F0 F4 B O' (wipe σ own) H4 (wipeE env1 own) := S4.less (same_upd' nB)
    have S6 := S.back S5 (p1.ff.trans f4) (fun i hi z => apart_mem hap z hi) hO'v
    have bD : (upd B D (HO.dK acc)) D = some (.dK acc) := upd_same
    have hD4 : H4 D = some (.dK acc) := S4.bh _ _ bD
    have nF4 : F4 D = none := by
      cases z : F4 D with
      | none => rfl
      | some o =>
        rcases S4.fb D o z with q | q
        · rw [nF0] at q; cases q
        · rw [bD] at q; cases q
    have ns : NoSlot O' σ (back env env1 own) D := fun j hj dd hd hm hs => by
      rw [back_out (hO'v j hj)] at hd
      exact S4.noSlot (.inr (.inl (by rw [bD]; simp))) j hj dd (by rw [wipeE_out (hO'v j hj)]; exact hd) hm (by rw [wipeS_out (hO'v j hj)]; exact hs)
    obtain ⟨kvs, k1, k2⟩ := r4
    have k1 : dispL out = .ok kvs := k1
    rw [el] at k1
    cases k1
    refine ⟨D, acc, rfl, hD4, fun o => new_dict o rfl S6 nF4 nB ns k2 (fun z => ?_) (p1.ff.trans f4) (fun z => ?_) q⟩
    · have z : ((prIt it && prOx c && true) && prE kx && prE vx) = true := z
      simp only [Bool.and_eq_true, and_true] at z
      exact (p1.hh z.1.1.1).free hD
    have z : ((prIt it && prOx c && true) && prE kx && prE vx) = true := z
    simp only [Bool.and_eq_true, and_true] at z
    intro b o hbo
    have hb1 := p1.hh z.1.1.1 b o hbo
    have nb : b ≠ D := fun y => by subst y; rw [hD] at hb1; cases hb1
    exact h4 (by rw [z.1.1.2, z.1.2, z.2]; rfl) b o nb (by rw [upd_ne nb]; exact hb1)
  · cases o
/-- two clauses -/
theorem dcomp2_imp {m : Md} {own ws1 : List Nat} {tg tg1 : Tg} {it it1 : It} {c c1 : Ox} {kx vx : X} {σ : L2.St} {H : Hp} {Q : VK} (hsub : ∀ i ∈ tgsOf tg, i ∈ own) (hsub1 : ∀ i ∈ ws1 ++ tgsOf tg1, i ∈ ws1) (hs2 : ∀ i ∈ ws1, i ∈ own)
    (hvk : ∀ (O3 O4 : Sl), owE O3 kx = some O4 → ∀ i ∈ O4, i ∈ O3) (hvv : ∀ (O3 O4 : Sl), owE O3 vx = some O4 → ∀ i ∈ O4, i ∈ O3) (hvc : ∀ (O3 O4 : Sl), owOx O3 c = some O4 → ∀ i ∈ O4, i ∈ O3) (hvc1 : ∀ (O3 O4 : Sl), owOx O3 c1 = some O4 → ∀ i ∈ O4, i ∈ O3)
    (hvi : ∀ b (O3 O4 : Sl), owIt b O3 it1 = some O4 → ∀ i ∈ O4, i ∈ O3)
    (h : rd K w cal m (.dcomp own (.cons own tg it c (.cons ws1 tg1 it1 c1 .nil)) kx vx) σ H Q) :
    toD w (Dc2.tDc2 (rdIt K w cal (prOx c && (prIt it1 && prOx c1 && true) && (prE kx && prE vx)) it) (gT K tg) (tT K w cal c) (rdIt K w cal (prOx c1 && (prE kx && prE vx)) it1) (gT K tg1) (tT K w cal c1) (rd K w cal .val kx) (rd K w cal .val vx) own ws1) σ H Q := by
  obtain ⟨IO, F0, F, B, O, env, d, env', O', S, e, o, q⟩ := h
  obtain ⟨⟨out, env1⟩, ec, e⟩ := R.bind_eq_ok (show (evCs cal (.cons own tg it c (.cons ws1 tg1 it1 c1 .nil)) (lastD cal kx vx) env >>= fun p => dispL p.1 >>= fun l => R.ok (.dict l, back env p.2 own)) = .ok (d, env') from e)
  obtain ⟨l, el, e⟩ := R.bind_eq_ok e
  cases e
  rw [evC_two] at ec
  obtain ⟨⟨ds, e1⟩, ei, eloop⟩ := R.bind_eq_ok ec
  rw [owM_nv rfl] at o
  have o : (if apartS own O = true then owCs O (.cons own tg it c (.cons ws1 tg1 it1 c1 .nil)) ((prE kx && prE vx)) (owD2 kx vx) else none) = some O' := o
  split at o
  · rename_i hap
    obtain ⟨O1, oi, o⟩ := andThen_some (show andThen (owIt (prOx c && (prIt it1 && prOx c1 && true) && (prE kx && prE vx)) O it) (fun O1 => steady (own ++ tgsOf tg) (fun O => andThen (owOx (minus O (own ++ tgsOf tg)) c) fun O2 => both (some O2) (owCs O2 (.cons ws1 tg1 it1 c1 .nil) ((prE kx && prE vx)) (owD2 kx vx))) O1) = some O' from o)
    obtain ⟨O2, h2, g1, g4, g5⟩ := steady_some o
    obtain ⟨O3, g2, h4⟩ := andThen_some h2
    obtain ⟨A, O4, e9, oin, rfl⟩ := both_some h4
    cases e9
    obtain ⟨P1, P3, P4, pi, k1, k2, k3, k4, k5⟩ := owC_one oin
    refine ⟨IO, F0, F, B, O, env, ds, e1, O1, S, ei, oi, fun J F1 H1 Bs p1 hBs hb _ W D hD => ?_⟩
    have nF : F1 D = none := p1.sr.fh.free hD
    have nB : B D = none := p1.sr.bh.free hD
    have nF0 : F0 D = none := p1.sr.f0.free nF
    have S1 := p1.sr.put (o := .dK []) nF (p1.sr.noSlot (.inr (.inr hD)))
    have hO'v : ∀ i ∈ O', i ∉ own := fun i hi z => g5 i hi (List.mem_append_left _ z)
    have hO3 : ∀ i ∈ O3, i ∉ own := fun i hi z => (minus_mem.mp (hvc _ _ g2 i hi)).2 (List.mem_append_left _ z)
    have hP4 : ∀ i ∈ P4, i ∉ ws1 := fun i hi z => (minus_mem.mp (hvc1 _ _ k2 i (owD2_sub hvk hvv k3 i hi))).2 (List.mem_append_left _ z)
    have hO4v : ∀ i ∈ O4, i ∉ own := fun i hi z => hO3 i (hvi _ _ _ pi i (k1 i hi)) z
    have bs0 : ∀ o, Bs D ≠ some o := fun o z => by
      have := hBs _ _ z
      rw [hD] at this
      cases this
    refine loop_impG (Ac := List (Key × V)) (mk := .dK) (Rl := RlD K w) (Pc := PcD) RlD.mono PcD.pre (acc0 := []) (BODY := fun σ2 H3 Nx => rdIt K w cal (prOx c1 && (prE kx && prE vx)) it1 σ2 H3 fun J1 H4 => LoopR J1 σ2 ws1 (gT K tg1) (tT K w cal c1) (BodyD K w cal kx vx D) Nx H4) (Qd := fun H => ∃ D' L, V.ref D = .ref D' ∧ H D' = some (.dK L) ∧ ∀ o, Q (.ref D') (upd H D' (dictH w D' o (emK L)))) (bp := prOx c && (prIt it1 && prOx c1 && true) && (prE kx && prE vx)) (pb := prIt it1 && prOx c1 && (prE kx && prE vx)) (pre := []) W (hBs.trans (same_upd' hD)) hb
      (fun z => by simp only [Bool.and_eq_true, and_true] at z ⊢; exact ⟨z.1.1, z.1.2, z.2⟩) nF0 nB (fun i hi => (List.mem_append.mp hi).elim id (hsub i)) (fun i hi => hi) S1 (Same.refl _) .nil eloop ⟨l, el⟩ g1 g2 (fun i hi => mem_meet.mp (g4 i hi)) g5
      (fun acc accd env3 σ2 F3 H3 a en Nx S3 f3 r3 e3 z3 k => ?_) (fun acc F4 H4 S4 f4 r4 h4 => ?_) bs0
    · obtain ⟨⟨ds1, e5⟩, ei1, eloop1⟩ := R.bind_eq_ok e3
      refine ⟨IO, F0, F3, _, O3, env3, ds1, e5, P1, S3, ei1, pi, fun J1 F5 H5 Bs1 p5 hBs1 hb1 hB1 W1 => ?_⟩
      have bD3 : H5 D = some (.dK acc) := p5.sr.bh _ _ upd_same
      have nF5 : F5 D = none := by
        cases z : F5 D with
        | none => rfl
        | some o =>
          rcases p5.sr.fb D o z with q | q
          · rw [nF0] at q; cases q
          · rw [upd_same] at q; cases q
      have hO4w : ∀ i ∈ O4, i ∉ ws1 := fun i hi z => hO4v i hi (hs2 i z)
      refine loop_impG (Ac := List (Key × V)) (mk := .dK) (Rl := RlD K w) (Pc := PcD) RlD.mono PcD.pre (BODY := BodyD K w cal kx vx D) (Qd := Nx) (bp := prOx c1 && (prE kx && prE vx)) (pb := (prE kx && prE vx)) (pre := accd) (acc0 := acc) W1 hBs1 hb1 (fun z => by rw [Bool.and_eq_true] at z; exact z) nF0 nB hsub1 (fun i hi => hi) p5.sr (Same.refl _) (r3.mono p5.ff) eloop1 z3 k1 k2 k4 k5
        (fun acc accd env3 σ3 F6 H6 a en Nx S6 f6 r6 e6 z6 kk => bodyD_imp (fun z => z) nF0 S6 r6 e6 z6 k3 hP4 kk) (fun acc F6 H6 S6 f6 r6 h6 => ?_) fun o z => ?_
      · have S7 := S6.wipe hO4v
        rw [wipe_wipe hs2, wipeE_wipeE hs2] at S7
        refine k acc F6 H6 _ S7 (wipe_wipe fun _ h => h) (p5.ff.trans f6) r6 fun z b o hb ho => ?_
        simp only [Bool.and_eq_true] at z
        exact h6 (by simp [z.1.2, z.2.1, z.2.2]) b o hb (p5.hh z.1.1 b o ho)
      · rcases hB1 _ _ z with q | q
        · rw [nF5] at q; cases q
        · rw [upd_same] at q; cases q
    · have S5 : SR K w IO F0 F4 B O' (wipe σ own) H4 (wipeE env1 own) := S4.less (same_upd' nB)
      have S6 := S.back S5 (p1.ff.trans f4) (fun i hi z => apart_mem hap z hi) hO'v
      have bD : (upd B D (HO.dK acc)) D = some (.dK acc) := upd_same
      have hD4 : H4 D = some (.dK acc) := S4.bh _ _ bD
      have nF4 : F4 D = none := by
        cases z : F4 D with
        | none => rfl
        | some o =>
          rcases S4.fb D o z with q | q
          · rw [nF0] at q; cases q
          · rw [bD] at q; cases q
      have ns : NoSlot O' σ (back env env1 own) D := fun j hj dd hd hm hs => by
        rw [back_out (hO'v j hj)] at hd
        exact S4.noSlot (.inr (.inl (by rw [bD]; simp))) j hj dd (by rw [wipeE_out (hO'v j hj)]; exact hd) hm (by rw [wipeS_out (hO'v j hj)]; exact hs)
      obtain ⟨kvs, y1, y2⟩ := r4
      have y1 : dispL out = .ok kvs := y1
      rw [el] at y1
      cases y1
      refine ⟨D, acc, rfl, hD4, fun o => new_dict o rfl S6 nF4 nB ns y2 (fun z => ?_) (p1.ff.trans f4) (fun z => ?_) q⟩
      · have z : ((prIt it && prOx c && (prIt it1 && prOx c1 && true)) && prE kx && prE vx) = true := z
        simp only [Bool.and_eq_true, and_true] at z
        exact (p1.hh z.1.1.1.1).free hD
      have z : ((prIt it && prOx c && (prIt it1 && prOx c1 && true)) && prE kx && prE vx) = true := z
      simp only [Bool.and_eq_true, and_true] at z
      intro b o hbo
      have hb1 := p1.hh z.1.1.1.1 b o hbo
      have nb : b ≠ D := fun y => by subst y; rw [hD] at hb1; cases hb1
      exact h4 (by simp [z.1.1.1.2, z.1.1.2.1, z.1.1.2.2, z.1.2, z.2]) b o nb (by rw [upd_ne nb]; exact hb1)
  · cases o
end
end Ev
end
section
set_option linter.all false
set_option autoImplicit false
set_option maxRecDepth 100000
set_option maxHeartbeats 2000000
/-! EvL: which text an own expression stands for; each such reads as the evaluator says. -/
namespace Ev
open PySem PySem.Spec PyProof.Rows L2
/-! ### what is owned grows nowhere -/
theorem at_sub {O O' : Sl} {r : Option Sl} {f : Sl → Option Sl} (h1 : ∀ O1, r = some O1 → ∀ i ∈ O1, i ∈ O) (h2 : ∀ O1 O', f O1 = some O' → ∀ i ∈ O', i ∈ O1) (h : andThen r f = some O') : ∀ i ∈ O', i ∈ O := fun i hi => by
  obtain ⟨O1, e1, e2⟩ := andThen_some h
  exact h1 O1 e1 i (h2 O1 O' e2 i hi)
theorem bor_sub {O O' : Sl} {e : X} {r : Option Sl} (h1 : ∀ O1, r = some O1 → ∀ i ∈ O1, i ∈ O) (h : bor e O r = some O') : ∀ i ∈ O', i ∈ O := by
  unfold bor at h
  cases hv : isVar e with
  | some j => rw [hv] at h; cases h; exact fun i hi => hi
  | none => rw [hv] at h; exact h1 O' h
theorem if_sub {O O' : Sl} {b : Bool} {r r' : Option Sl} (h1 : ∀ O1, r = some O1 → ∀ i ∈ O1, i ∈ O) (h2 : ∀ O1, r' = some O1 → ∀ i ∈ O1, i ∈ O) (h : (if b = true then r else r') = some O') : ∀ i ∈ O', i ∈ O := by
  cases b with
  | true => exact h1 O' h
  | false => exact h2 O' h
theorem both_sub {O O' : Sl} {a b : Option Sl} (h1 : ∀ O1, a = some O1 → ∀ i ∈ O1, i ∈ O) (h : both a b = some O') : ∀ i ∈ O', i ∈ O := fun i hi => by
  obtain ⟨A, B, e1, _, rfl⟩ := both_some h
  exact h1 A e1 i (mem_meet.mp hi).1
theorem chk_sub {O O' : Sl} {b : Bool} (h : (if b = true then some O else none) = some O') : ∀ i ∈ O', i ∈ O := by
  cases b with
  | true => cases h; exact fun i hi => hi
  | false => cases h
theorem some_sub {O : Sl} : ∀ O1, some O = some O1 → ∀ i ∈ O1, i ∈ O := fun O1 e i hi => by cases e; exact hi
mutual
theorem owE_sub : ∀ (x : X) {O O' : Sl}, owE O x = some O' → ∀ i ∈ O', i ∈ O
  | .var j, O, O', h => by cases h; intro i hi; exact (List.mem_filter.mp hi).1
  | .con _, O, O', h => by cases h; exact fun i hi => hi
  | .bin _ a b, O, O', h => at_sub (fun O1 h => if_sub (fun O1 h => bor_sub (fun O1 h => owE_sub a h) h) (fun O1 h => owE_sub a h) h) (fun O1 O' h => bor_sub (fun O1 h => owE_sub b h) h) h
  | .neg a, O, O', h => owE_sub a h
  | .not a, O, O', h => owE_sub a h
  | .and a b, O, O', h => at_sub (fun O1 h => owE_sub a h) (fun O1 O' h => both_sub some_sub h) h
  | .or a b, O, O', h => at_sub (fun O1 h => owE_sub a h) (fun O1 O' h => both_sub some_sub h) h
  | .cmp _ a b, O, O', h => at_sub (fun O1 h => if_sub (fun O1 h => bor_sub (fun O1 h => owE_sub a h) h) (fun O1 h => owE_sub a h) h) (fun O1 O' h => bor_sub (fun O1 h => owE_sub b h) h) h
  | .chain _ _ a b c, O, O', h => at_sub (fun O1 h => owE_sub a h) (fun O1 O' h => at_sub (fun O1 h => owE_sub b h) (fun O1 O' h => both_sub some_sub h) h) h
  | .ite c a b, O, O', h => at_sub (fun O1 h => owE_sub c h) (fun O1 O' h => both_sub (fun O1 h => owE_sub a h) h) h
  | .tup es, O, O', h => owXs_sub es h
  | .lst es, O, O', h => owXs_sub es h
  | .dict es, O, O', h => owDs_sub es h
  | .idx a b, O, O', h => at_sub (fun O1 h => if_sub (fun O1 h => bor_sub (fun O1 h => owE_sub a h) h) (fun O1 h => owE_sub a h) h) (fun O1 O' h => bor_sub (fun O1 h => owE_sub b h) h) h
  | .slc a lo hi, O, O', h => at_sub (fun O1 h => if_sub (fun O1 h => bor_sub (fun O1 h => owE_sub a h) h) (fun O1 h => owE_sub a h) h) (fun O1 O' h => at_sub (fun O1 h => owOx_sub lo h) (fun O1 O' h => owOx_sub hi h) h) h
  | .comp own cs e, O, O', h => by
    have h : (if apartS own O = true then owCs O cs (prE e) fun O => owE O e else none) = some O' := h
    exact if_sub (fun O1 h => owCs_sub cs (fun O1 O' h => owE_sub e h) h) (fun O1 h => by cases h) h
  | .dcomp own cs k v, O, O', h => by
    have h : (if apartS own O = true then owCs O cs (prE k && prE v) fun O => andThen (owE O k) fun O1 => owE O1 v else none) = some O' := h
    exact if_sub (fun O1 h => owCs_sub cs (fun O1 O' h => at_sub (fun O1 h => owE_sub k h) (fun O1 O' h => owE_sub v h) h) h) (fun O1 h => by cases h) h
  | .call _ es, O, O', h => owXs_sub es h
  | .blt _ .nil, O, O', h => by cases h; exact fun i hi => hi
  | .blt _ (.cons e .nil), O, O', h => bor_sub (fun O1 h => owE_sub e h) h
  | .blt _ (.cons e (.cons a r)), O, O', h => owXs_sub (.cons e (.cons a r)) h
  | .blt _ (.cons e (.star a r)), O, O', h => owXs_sub (.cons e (.star a r)) h
  | .blt _ (.cons e (.io a r)), O, O', h => owXs_sub (.cons e (.io a r)) h
  | .blt _ (.cons e (.tmp a r)), O, O', h => owXs_sub (.cons e (.tmp a r)) h
  | .blt _ (.star e r), O, O', h => owXs_sub (.star e r) h
  | .blt _ (.io e r), O, O', h => owXs_sub (.io e r) h
  | .blt _ (.tmp e r), O, O', h => owXs_sub (.tmp e r) h
  | .meth _ o es, O, O', h => at_sub (fun O1 h => if_sub (fun O1 h => bor_sub (fun O1 h => owE_sub o h) h) (fun O1 h => owE_sub o h) h) (fun O1 O' h => owXs_sub es h) h
  | .pop _ e, O, O', h => at_sub (fun O1 h => owOx_sub e h) (fun O1 O' h => chk_sub h) h
theorem owXs_sub : ∀ (es : Xs) {O O' : Sl}, owXs O es = some O' → ∀ i ∈ O', i ∈ O
  | .nil, O, O', h => by cases h; exact fun i hi => hi
  | .cons e r, O, O', h => at_sub (fun O1 h => owE_sub e h) (fun O1 O' h => owXs_sub r h) h
  | .star e r, O, O', h => at_sub (fun O1 h => bor_sub (fun O1 h => owE_sub e h) h) (fun O1 O' h => owXs_sub r h) h
  | .tmp e r, O, O', h => at_sub (fun O1 h => owE_sub e h) (fun O1 O' h => if_sub (fun O1 h => owXs_sub r h) (fun O1 h => by cases h) h) h
  | .io i r, O, O', h => at_sub (fun O1 h => owXs_sub r h) (fun O1 O' h => chk_sub h) h
theorem owOx_sub : ∀ (x : Ox) {O O' : Sl}, owOx O x = some O' → ∀ i ∈ O', i ∈ O
  | .none, O, O', h => by cases h; exact fun i hi => hi
  | .some e, O, O', h => owE_sub e h
theorem owDs_sub : ∀ (x : Ds) {O O' : Sl}, owDs O x = some O' → ∀ i ∈ O', i ∈ O
  | .nil, O, O', h => by cases h; exact fun i hi => hi
  | .kv k v r, O, O', h => at_sub (fun O1 h => owE_sub k h) (fun O1 O' h => at_sub (fun O1 h => owE_sub v h) (fun O1 O' h => owDs_sub r h) h) h
  | .star d r, O, O', h => at_sub (fun O1 h => bor_sub (fun O1 h => owE_sub d h) h) (fun O1 O' h => owDs_sub r h) h
theorem owCs_sub : ∀ (x : Cs) {pb : Bool} {last : Sl → Option Sl} {O O' : Sl}, (∀ O1 O', last O1 = some O' → ∀ i ∈ O', i ∈ O1) → owCs O x pb last = some O' → ∀ i ∈ O', i ∈ O
  | .nil, pb, last, O, O', hl, h => hl O O' h
  | .cons ws tg it c r, pb, last, O, O', hl, h => at_sub (fun O1 h => owIt_sub it h) (fun O1 O' h => (steady_some h).choose_spec.2.1) h
theorem owIt_sub : ∀ (x : It) {b : Bool} {O O' : Sl}, owIt b O x = some O' → ∀ i ∈ O', i ∈ O
  | .expr e, b, O, O', h => if_sub (fun O1 h => bor_sub (fun O1 h => owE_sub e h) h) (fun O1 h => owE_sub e h) h
  | .rng1 e, b, O, O', h => owE_sub e h
  | .rng2 a e, b, O, O', h => at_sub (fun O1 h => owE_sub a h) (fun O1 O' h => owE_sub e h) h
  | .enum e, b, O, O', h => if_sub (fun O1 h => bor_sub (fun O1 h => owE_sub e h) h) (fun O1 h => owE_sub e h) h
  | .items e, b, O, O', h => if_sub (fun O1 h => bor_sub (fun O1 h => owE_sub e h) h) (fun O1 h => owE_sub e h) h
  | .vals e, b, O, O', h => if_sub (fun O1 h => bor_sub (fun O1 h => owE_sub e h) h) (fun O1 h => owE_sub e h) h
end
/-! ### shapes of built-in calls -/
def glB (sc : Scope) (x : Str) : Bool := decide (sc.names.lookup x = some .globalImplicit)
def visB (sc : Scope) (x : Str) : Bool := decide (sc.names.lookup x = some .local) || decide (sc.names.lookup x = some .cell) || decide (sc.names.lookup x = some .free)
def odd (x : Str) : Bool := (x == ("__debug__" : Str)) || (x == ("__classdict__" : Str))
def call1 (sc : Scope) (nm : Str) : Expr → Option Expr
  | .Call (.Name x _) [l] [] _ => if decide (x = nm) && glB sc nm && !stE l then some l else none
  | _ => none
def call2 (sc : Scope) (nm : Str) : Expr → Option (Expr × Expr)
  | .Call (.Name x _) [l, r] [] _ => if decide (x = nm) && glB sc nm && !stE l && !stE r then some (l, r) else none
  | _ => none
def isi (sc : Scope) (T : Str) : Expr → Option Expr
  | .Call (.Name x _) [l, .Name y _] [] _ => if decide (x = "isinstance") && glB sc "isinstance" && decide (y = T) && glB sc T && !stE l then some l else none
  | _ => none
def isi2 (sc : Scope) : Expr → Option Expr
  | .Call (.Name x _) [l, .Tuple [.Name y _, .Name z _] _ _] [] _ => if decide (x = "isinstance") && glB sc "isinstance" && decide (y = "tuple") && glB sc "tuple" && decide (z = "list") && glB sc "list" && !stE l then some l else none
  | _ => none
def revE : Expr → Option Expr
  | .Subscript l (.Slice none none (some (.UnaryOp .USub (.Constant (.int 1) _ _) _)) _) _ => some l
  | _ => none
/-- o.name(..): the base is no call without arguments by a name -/
def abE : Expr → Bool
  | .Call (.Name _ _) [] [] _ => false
  | _ => true
theorem ab_base {l : Expr} (h : abE l = true) (nm : Str) (env : PySem.Env) : attributeBase l nm env (eval l env) = eval l env := by
  unfold attributeBase
  split
  · cases h
  · rfl
/-- o.name() -/
def mth0 (nm : Str) : Expr → Option Expr
  | .Call (.Attribute o name apos) [] [] pos => if decide (name = nm) && (apos.endLine == pos.line) && abE o then some o else none
  | _ => none
theorem mth0_ok {nm : Str} {e l : Expr} (h : mth0 nm e = some l) : ∃ apos pos, e = .Call (.Attribute l nm apos) [] [] pos ∧ (apos.endLine == pos.line) = true ∧ abE l = true := by
  unfold mth0 at h
  split at h
  · split at h
    · rename_i hc
      simp only [Bool.and_eq_true, decide_eq_true_eq] at hc
      cases h
      exact ⟨_, _, by rw [hc.1.1], hc.1.2, hc.2⟩
    · cases h
  · cases h
def sh1 (sc : Scope) (f : Blt) (e : Expr) : Option Expr := match f with
  | .len => call1 sc "len" e
  | .sum => call1 sc "sum" e
  | .all => call1 sc "all" e
  | .any => call1 sc "any" e
  | .min => call1 sc "min" e
  | .max => call1 sc "max" e
  | .sorted => call1 sc "sorted" e
  | .abs => call1 sc "abs" e
  | .list => call1 sc "list" e
  | .tuple => call1 sc "tuple" e
  | .int => call1 sc "int" e
  | .str => call1 sc "str" e
  | .sset => (call1 sc "sorted" e).bind (call1 sc "set")
  | .lset => (call1 sc "len" e).bind (call1 sc "set")
  | .isInt => isi sc "int" e
  | .isBool => isi sc "bool" e
  | .isTup => isi sc "tuple" e
  | .isStr => isi sc "str" e
  | .isList => isi sc "list" e
  | .isTL => isi2 sc e
  | .lrng1 => (call1 sc "list" e).bind (call1 sc "range")
  | .trng1 => (call1 sc "tuple" e).bind (call1 sc "range")
  | .lvals => (call1 sc "list" e).bind (mth0 "values")
  | .sitems => (call1 sc "sorted" e).bind (mth0 "items")
  | .rev => revE e
  | _ => none
def sh2 (sc : Scope) (f : Blt) (e : Expr) : Option (Expr × Expr) := match f with
  | .min2 => call2 sc "min" e
  | .max2 => call2 sc "max" e
  | .lrng2 => (call1 sc "list" e).bind (call2 sc "range")
  | .trng2 => (call1 sc "tuple" e).bind (call2 sc "range")
  | _ => none
def mname : Mth → Option Str
  | .index => some "index"
  | .count => some "count"
  | .get1 => some "get"
  | _ => none
def shm1 (m : Mth) (e : Expr) : Option (Expr × Expr) := match e with
  | .Call (.Attribute o name apos) [l] [] pos => if decide (mname m = some name) && (apos.endLine == pos.line) && abE o && !stE l then some (o, l) else none
  | _ => none
def shm2 (m : Mth) (e : Expr) : Option (Expr × Expr × Expr) := match m, e with
  | .get2, .Call (.Attribute o name apos) [l, r] [] pos => if decide (name = "get") && (apos.endLine == pos.line) && abE o && !stE l && !stE r then some (o, l, r) else none
  | _, _ => none
/-- the rules of built-ins -/
structure Rls (c : Cx) : Prop where
  ops : Rules c
  u1 : ∀ f e l, sh1 c.env.scope f e = some l → tvE e = true ∧ ∀ nb t, (nb = true → freshB f = true) → PE c l t → PE c e (tUn (rUn c.K c.w (fun x => bltop f [x]) nb) t)
  u2 : ∀ f e l r, sh2 c.env.scope f e = some (l, r) → tvE e = true ∧ ∀ nb t u, (nb = true → freshB f = true) → PE c l t → PE c r u → PE c e (tOp (rOp c.K c.w (fun x y => bltop f [x, y]) nb) t u)
  m1 : ∀ (cal : Cal) (a b : X) m e l r, shm1 m e = some (l, r) → OkE cal c l a → OkE cal c r b → OkE cal c e (.meth m a (.cons b .nil))
  m2 : ∀ (cal : Cal) (a b d : X) m e l r t, shm2 m e = some (l, r, t) → OkE cal c l a → OkE cal c r b → OkE cal c t d → OkE cal c e (.meth m a (.cons b (.cons d .nil)))
  enum : ∀ (es : List Expr) (n : Nat) (tp : Pos) (l : Expr) (p pos : Pos) (cal : Cal) (b : Bool) (a : X), glB c.env.scope "enumerate" = true → stE l = false → OkE cal c l a → PI c (.Tuple es n tp) (.Call (.Name "enumerate" p) [l] [] pos) (rdIt c.K c.w cal b (.enum a))
  rng : c.mg "range" = none
  hu : c.A.units + 64 < cLine
/-! ### the check -/
def tupTg : Expr → Bool
  | .Tuple .. => true
  | _ => false
def pixE : Expr → Bool
  | .Slice .. => false
  | _ => true
def fullE : Expr → Bool
  | .Set .. => false
  | _ => true
/-- a place of a list item N: i its name x -/
def ownL (N : List Str) (own : List Nat) : List (Str × Nat) := own.map fun i => (N.getD i "", i)
mutual
def chkE (P : Tab) (N : List Str) : X → (Str → Bool) → Scope → Expr → Bool
  | .var i, fn, sc, e => match e with
    | .Name y _ => decide (N[i]? = some y) && visB sc y && !odd y
    | _ => false
  | .con a, fn, sc, e => match e with
    | .Constant k _ _ => match a, k with
      | .none, .none => true
      | .bool x, .bool y => decide (x = y)
      | .int x, .int y => decide (x = y)
      | .str x, .str y => decide (x = y)
      | _, _ => false
    | .Name y _ => glB sc y && !odd y && (match P.g y with
      | some b => beqA a b
      | none => false)
    | _ => false
  | .bin op a b, fn, sc, e => match e with
    | .BinOp l o r _ => decide (o = bopP op) && chkE P N a fn sc l && chkE P N b fn sc r
    | _ => false
  | .neg a, fn, sc, e => match e with
    | .UnaryOp .USub l _ => chkE P N a fn sc l
    | _ => false
  | .not a, fn, sc, e => match e with
    | .UnaryOp .Not l _ => chkE P N a fn sc l
    | _ => false
  | .and a b, fn, sc, e => match e with
    | .BoolOp .And [l, r] _ => chkE P N a fn sc l && chkE P N b fn sc r
    | .BoolOp .And (l :: r :: t :: rest) p => chkE P N a fn sc l && chkE P N b fn sc (.BoolOp .And (r :: t :: rest) p)
    | _ => false
  | .or a b, fn, sc, e => match e with
    | .BoolOp .Or [l, r] _ => chkE P N a fn sc l && chkE P N b fn sc r
    | .BoolOp .Or (l :: r :: t :: rest) p => chkE P N a fn sc l && chkE P N b fn sc (.BoolOp .Or (r :: t :: rest) p)
    | _ => false
  | .cmp op a b, fn, sc, e => match e with
    | .Compare l [o] [r] _ => decide (o = copP op) && !behindInMarks (copP op) r && chkE P N a fn sc l && chkE P N b fn sc r
    | _ => false
  | .chain op op' a b d, fn, sc, e => match e with
    | .Compare l [o, o'] [r, t] _ => decide (o = copP op) && decide (o' = copP op') && !lastMarks [copP op, copP op'] [r, t] && chkE P N a fn sc l && chkE P N b fn sc r && chkE P N d fn sc t
    | _ => false
  | .ite d a b, fn, sc, e => match e with
    | .IfExp t l r _ => chkE P N d fn sc t && chkE P N a fn sc l && chkE P N b fn sc r
    | _ => false
  | .tup es, fn, sc, e => match e with
    | .Tuple ls _ _ => plainXs es && chkXs P N es fn sc ls
    | _ => false
  | .lst es, fn, sc, e => match e with
    | .List ls _ => plainXs es && chkXs P N es fn sc ls
    | _ => false
  | .dict .nil, fn, sc, e => match e with
    | .Dict [] [] _ => true
    | _ => false
  | .dict (.kv a b .nil), fn, sc, e => match e with
    | .Dict [some l] [r] _ => chkE P N a fn sc l && chkE P N b fn sc r
    | _ => false
  | .dict (.star a (.kv b d .nil)), fn, sc, e => match e with
    | .Dict [none, some l] [t, r] _ => chkE P N a fn sc t && chkE P N b fn sc l && chkE P N d fn sc r
    | _ => false
  | .dict _, _, _, _ => false
  | .idx a b, fn, sc, e => match e with
    | .Subscript l r _ => pixE r && chkE P N a fn sc l && chkE P N b fn sc r
    | _ => false
  | .slc a lo hi, fn, sc, e => match e with
    | .Subscript l (.Slice lo' hi' none _) _ => chkE P N a fn sc l && chkOx P N lo fn sc lo' && chkOx P N hi fn sc hi'
    | _ => false
  | .comp own cs ex, fn, sc, e => match e with
    | .ListComp elt gens scope _ => blkC N sc scope (ownL N own) && chkCs P N own cs fn sc scope gens && chkE P N ex (fun x => scope.names.lookup x == some .cell) (relS scope sc) elt
    | _ => false
  | .dcomp own cs kx vx, fn, sc, e => match e with
    | .DictComp ke ve gens scope _ => blkC N sc scope (ownL N own) && chkCs P N own cs fn sc scope gens && chkE P N kx (fun x => scope.names.lookup x == some .cell) (relS scope sc) ke && chkE P N vx (fun x => scope.names.lookup x == some .cell) (relS scope sc) ve
    | _ => false
  | .call f es, fn, sc, e => match e with
    | .Call (.Name x _) ls [] _ => decide (x = P.nm f) && glB sc x && !odd x && noStar es && (match P f with
      | some D => decide (posIo 0 es = D.io)
      | none => false) && (ls.all fun l => !stE l) && chkXs P N es fn sc ls
    | _ => false
  | .blt f (.cons a .nil), fn, sc, e => match sh1 sc f e with
    | some l => chkE P N a fn sc l
    | none => false
  | .blt f (.cons a (.cons b .nil)), fn, sc, e => match sh2 sc f e with
    | some (l, r) => chkE P N a fn sc l && chkE P N b fn sc r
    | none => false
  | .blt _ _, _, _, _ => false
  | .meth m a (.cons b (.cons d .nil)), fn, sc, e => match shm2 m e with
    | some (l, r, t) => chkE P N a fn sc l && chkE P N b fn sc r && chkE P N d fn sc t
    | none => false
  | .meth m a (.cons b .nil), fn, sc, e => match shm1 m e with
    | some (l, r) => chkE P N a fn sc l && chkE P N b fn sc r
    | none => false
  | .meth _ _ _, _, _, _ => false
  | .pop i .none, fn, sc, e => match e with
    | .Call (.Attribute (.Name y _) name apos) [] [] pos => decide (name = "pop") && decide (N[i]? = some y) && visB sc y && !odd y && (apos.endLine == pos.line)
    | _ => false
  | .pop i (.some a), fn, sc, e => match e with
    | .Call (.Attribute (.Name y _) name apos) [l] [] pos => decide (name = "pop") && decide (N[i]? = some y) && visB sc y && !odd y && (apos.endLine == pos.line) && !stE l && chkE P N a fn sc l
    | _ => false
def chkXs (P : Tab) (N : List Str) : Xs → (Str → Bool) → Scope → List Expr → Bool
  | .nil, fn, sc, ls => match ls with
    | [] => true
    | _ => false
  | .cons a r, fn, sc, ls => match ls with
    | l :: ls => !stE l && chkE P N a fn sc l && chkXs P N r fn sc ls
    | [] => false
  | .star a r, fn, sc, ls => match ls with
    | .Starred l _ :: ls => chkE P N a fn sc l && chkXs P N r fn sc ls
    | _ => false
  | .tmp a r, fn, sc, ls => match ls with
    | l :: ls => !stE l && chkE P N a fn sc l && chkXs P N r fn sc ls
    | [] => false
  | .io i r, fn, sc, ls => match ls with
    | .Name y _ :: ls => decide (N[i]? = some y) && visB sc y && !odd y && chkXs P N r fn sc ls
    | _ => false
def chkOx (P : Tab) (N : List Str) : Ox → (Str → Bool) → Scope → Option Expr → Bool
  | .none, fn, sc, e => match e with
    | none => true
    | some _ => false
  | .some a, fn, sc, e => match e with
    | some l => chkE P N a fn sc l
    | none => false
def chkIfs (P : Tab) (N : List Str) : Ox → (Str → Bool) → Scope → List Expr → Bool
  | .none, fn, sc, e => match e with
    | [] => true
    | _ => false
  | .some a, fn, sc, e => match e with
    | [l] => chkE P N a fn sc l
    | _ => false
/-- one clause, two clauses -/
def chkCs (P : Tab) (N : List Str) (own : List Nat) : Cs → (Str → Bool) → Scope → Scope → List Comprehension → Bool
  | .cons ws tg it c .nil, fn, sc, scope, gens => match gens with
    | [⟨t, iter, ifs, 0⟩] => decide (ws = own) && sub (tgsOf tg) own && fullE iter && chkTg N (fun x => scope.names.lookup x == some .cell) (relS scope sc) t tg && chkIt P N it fn sc t iter && chkIfs P N c (fun x => scope.names.lookup x == some .cell) (relS scope sc) ifs
    | _ => false
  | .cons ws tg it c (.cons ws1 tg1 it1 c1 .nil), fn, sc, scope, gens => match gens with
    | [⟨t, iter, ifs, 0⟩, ⟨t1, iter1, ifs1, 0⟩] => decide (ws = own) && sub (tgsOf tg) own && sub (tgsOf tg1) ws1 && sub ws1 own && fullE iter && fullE iter1 && chkTg N (fun x => scope.names.lookup x == some .cell) (relS scope sc) t tg && chkIt P N it fn sc t iter && chkIfs P N c (fun x => scope.names.lookup x == some .cell) (relS scope sc) ifs &&
        chkTg N (fun x => scope.names.lookup x == some .cell) (relS scope sc) t1 tg1 && chkIt P N it1 (fun x => scope.names.lookup x == some .cell) (relS scope sc) t1 iter1 && chkIfs P N c1 (fun x => scope.names.lookup x == some .cell) (relS scope sc) ifs1
    | _ => false
  | _, _, _, _, _ => false
def chkIt (P : Tab) (N : List Str) : It → (Str → Bool) → Scope → Expr → Expr → Bool
  | .expr a, fn, sc, t, e => chkE P N a fn sc e
  | .rng1 a, fn, sc, t, e => match call1 sc "range" e with
    | some l => chkE P N a fn sc l
    | none => false
  | .rng2 a b, fn, sc, t, e => match call2 sc "range" e with
    | some (l, r) => chkE P N a fn sc l && chkE P N b fn sc r
    | none => false
  | .enum a, fn, sc, t, e => tupTg t && (match call1 sc "enumerate" e with
    | some l => chkE P N a fn sc l
    | none => false)
  | .items a, fn, sc, t, e => tupTg t && (match mth0 "items" e with
    | some l => chkE P N a fn sc l
    | none => false)
  | .vals a, fn, sc, t, e => match mth0 "values" e with
    | some l => chkE P N a fn sc l
    | none => false
end
end Ev
end
section
set_option linter.all false
set_option autoImplicit false
set_option maxRecDepth 100000
set_option maxHeartbeats 4000000
/-! EvM: the check is right: expressions. -/
namespace Ev
open PySem PySem.Spec PyProof.Rows L2
section
variable {cal : Cal} {c : Cx} {e l : Expr} {i : Nat} {y : Str} {a : X} {p pos apos : Pos}
theorem seq_of_ix {n m : Nat} {i : Int} (h : ixOf n i = some m) : seqIndex? i n = some m ∧ -(n : Int) ≤ i ∧ i < n := by
  unfold ixOf at h
  unfold seqIndex?
  by_cases h0 : 0 ≤ i
  · rw [if_pos h0] at h
    by_cases h1 : i < n
    · rw [if_pos h1] at h
      have h2 : ¬ i < 0 := by omega
      simp only [if_neg h2]
      rw [if_pos (by simp [h0, h1])]
      exact ⟨h, by omega, h1⟩
    · rw [if_neg h1] at h; cases h
  · rw [if_neg h0] at h
    by_cases h1 : -(n : Int) ≤ i
    · rw [if_pos h1] at h
      have h2 : i < 0 := by omega
      simp only [if_pos h2]
      rw [if_pos (by simp; omega)]
      exact ⟨h, h1, by omega⟩
    · rw [if_neg h1] at h; cases h
def rPopI : V → List V → Hp → VK → Prop := fun x vs H Q => ∃ l xs i m y, x = .ref l ∧ vs = [.int i] ∧ H l = some (.lst xs) ∧ ixOf xs.length i = some m ∧ xs[m]? = some y ∧ Q y (upd H l (.lst (xs.eraseIdx m)))
theorem mt_popI {X : Cx} : MtM X "list.pop" rPopI := by
  intro pins s σ H x vs v us Q I rx rv ⟨l, xs, i, m, y, e1, e2, hH, hm, hy, q⟩
  have z : xs.length ≤ sizeLine := (I.lstM hH).1
  obtain ⟨h1, h2, h3⟩ := seq_of_ix hm
  have hz : sizeLine < 2 ^ 62 := by decide
  exact mt_popAt pins s σ H x vs v us Q I rx rv ⟨l, xs, i, m, y, e1, e2, hH, by omega, by omega, h1, hy, q⟩
theorem few_one {l : Expr} {env : PySem.Env} {pos : Pos} (h : stE l = false) : ((backTo pos (starEach [l] env)).all (fun x => !x.1) && (backToKw pos (keywordEach [] env)).all (fun x => x.1.isSome)
      && decide ([l].length + ([] : List Keyword).length + (if ([] : List Keyword).isEmpty then 0 else 1) < 30)) = true := by
  rw [star_plain h]
  rfl
theorem ok_pop1 (hN : c.N[i]? = some y) (hv : Vis c.env.scope y) (hd : (y == ("__debug__" : Str)) = false) (hcd : (y == ("__classdict__" : Str)) = false) (hline : (apos.endLine == pos.line) = true) (hs : stE l = false) (ha : OkE cal c l a) :
    OkE cal c (.Call (.Attribute (.Name y p) "pop" apos) [l] [] pos) (.pop i (.some a)) :=
  OkE.of rfl fun m => (pe_bm PySem.F.plainAttrs_list PySem.F.slot_list_pop PySem.F.type_list_pop mt_popI (pe_var hN hv hd hcd) (pa_cons (ha.pe .val) pa_nil (star_plain hs)) rfl (few_one hs) hline (star_plain hs) rfl).imp fun σ H Q h => by
    obtain ⟨IO, F0, F, B, O, env, d, env', O', S, e, o, q⟩ := h
    rw [owM_nv rfl] at o
    obtain ⟨O1, oa, o⟩ := andThen_some (show andThen (owE O a) (fun O1 => if O1.contains i then some O1 else none) = some O' from o)
    split at o
    · rename_i hi
      cases o
      obtain ⟨x0, el0, e⟩ := R.bind_eq_ok (show (look env i >>= fun x0 => isL x0 >>= fun _ => (evE cal a env >>= fun p => (R.ok (some p.1, p.2) : R (Option AV × Env))) >>= fun p => look p.2 i >>= fun x => match x, p.1 with
        | .list xs, none => (match xs.getLast? with
          | some v => R.ok (v, p.2.set i (some (.list xs.dropLast)))
          | none => .bad)
        | .list xs, some (.int j) => (match ixOf xs.length j with
          | some n => (match xs[n]? with
            | some v => .ok (v, p.2.set i (some (.list (xs.eraseIdx n))))
            | none => .bad)
          | none => .bad)
        | _, _ => .bad) = .ok (d, env') from e)
      obtain ⟨_, ei, e⟩ := R.bind_eq_ok e
      obtain ⟨⟨k0, e1⟩, ek, e⟩ := R.bind_eq_ok e
      obtain ⟨⟨dk, e1'⟩, ea, ek⟩ := R.bind_eq_ok ek
      cases ek
      obtain ⟨dl, el, e⟩ := R.bind_eq_ok e
      have hi1 : i ∈ O' := by simpa using hi
      have hi0 : i ∈ O := owE_sub a oa i hi1
      cases x0 with
      | list ds0 =>
        obtain ⟨x, xs0, hs0, hx0, _, _⟩ := change_list (ds' := ds0) S hi0 (look_ok el0)
        refine ⟨.ref x, hs0, .inl ⟨rfl, xs0, .inl (.inl hx0)⟩, IO, F0, F, B, O, env, dk, e1', O', S, ea, oa, fun va F1 H1 p1 r1 => ?_⟩
        cases dl with
        | list ds => cases dk with
          | int j =>
            have e : (match ixOf ds.length j with
              | some n => (match ds[n]? with
                | some v => R.ok (v, e1'.set i (some (.list (ds.eraseIdx n))))
                | none => .bad)
              | none => .bad) = .ok (d, env') := e
            cases hn : ixOf ds.length j with
            | none => rw [hn] at e; cases e
            | some n =>
              rw [hn] at e
              have e : (match ds[n]? with
                | some v => R.ok (v, e1'.set i (some (.list (ds.eraseIdx n))))
                | none => .bad) = .ok (d, env') := e
              cases hg : ds[n]? with
              | none => rw [hg] at e; cases e
              | some dv =>
                rw [hg] at e
                cases e
                have ev := (Rep.opd p1.sr.fh r1).intE
                subst ev
                obtain ⟨x', xs, hs1, hx1, r, ch⟩ := change_list (ds' := ds.eraseIdx n) p1.sr hi1 (look_ok el)
                have ex : x' = x := by rw [hs0] at hs1; cases hs1; rfl
                subst ex
                obtain ⟨v, gv, rv⟩ := r.get hg
                refine ⟨x', xs, j, n, v, rfl, rfl, hx1, by rw [r.length]; exact hn, gv, ?_⟩
                have S2 := ch (xs.eraseIdx n) (r.erase n)
                exact q v F1 _ ⟨S2, p1.ff, fun z => by cases z⟩ (imm_rv rfl S2.fh rv)
          | _ => cases e
        | _ => cases e
      | _ => cases ei
    · cases o
end
theorem glB_ok {c : Cx} {x : Str} (h : glB c.env.scope x = true) : Gl c x := by
  have h2 : c.env.scope.names.lookup x = some .globalImplicit := by
    unfold glB at h
    exact of_decide_eq_true h
  exact h2
theorem visB_ok {sc : Scope} {x : Str} (h : visB sc x = true) : Vis sc x := by
  unfold visB at h
  simp only [Bool.or_eq_true, decide_eq_true_eq] at h
  rcases h with (h | h) | h
  · exact .inl h
  · exact .inr (.inl h)
  · exact .inr (.inr h)
theorem odd_ok {x : Str} (h : (!odd x) = true) : (x == ("__debug__" : Str)) = false ∧ (x == ("__classdict__" : Str)) = false := by
  unfold odd at h
  simpa using h
theorem full_ok {e : Expr} (h : fullE e = true) (env : PySem.Env) (x : Value) : foldedSetIterable e env x = pure x := by
  cases e <;> first | rfl | cases h
theorem pix_ok {e : Expr} (h : pixE e = true) : PlainIx e := fun o i => by
  cases e <;> first | rfl | cases h
theorem ownL_map (N : List Str) (own : List Nat) : (ownL N own).map (·.2) = own := by
  unfold ownL
  rw [List.map_map]
  induction own with
  | nil => rfl
  | cons a l ih => rw [List.map_cons, ih]; rfl
section
variable {P : Tab} {k : Nat} {c : Cx}
theorem Good.blk (G : Good P k c) (s : Shared) (H : Hp) (scope : Scope) (env : PySem.Env) (fp : List Addr) : Good P k (c.blk s H scope env fp) := ⟨G.nd, G.calm, G.room, G.fre, G.fn, G.glo⟩
/-- what the inner parts of a comprehension keep -/
def InC (P : Tab) (k : Nat) (c : Cx) (scope : Scope) (p : Cx → Prop) : Prop := ∀ (s : Shared) (H : Hp) (C : Addr) (cl : List (Str × Addr)) (fp : List Addr), p (c.blk s H scope (compEnvC scope cl C c.env) fp)
/-- .. as a store on one line -/
def SwOk (cal : Cal) (c : Cx) (e : Expr) (x : X) : Prop := ∀ (i : Nat) (y : Str) (py spos : Pos) (m : Md), c.N[i]? = some y → c.env.scope.names.lookup y = some .local → swapsWith e (some (.Name y py)) spos.line c.env = pure true → PS c (.Assign [.Name y py] e spos) (tAsg (rd c.K c.w cal m x) (gName i))
variable {cal : Cal} {elt t iter t1 iter1 : Expr} {ifs ifs1 : List Expr} {scope : Scope} {own ws1 : List Nat} {tg tg1 : Tg} {it it1 : It} {cx cx1 : Ox} {ex : X} {pos : Pos}
theorem ok_comp1 (G : Good P k c) (hb : blkC c.N c.env.scope scope (ownL c.N own) = true) (hsub : ∀ i ∈ tgsOf tg, i ∈ own) (hf : fullE iter = true) (hi : PI c t iter (rdIt c.K c.w cal (prOx cx && prE ex) it))
    (hg : InC P k c scope fun c => PG c t (gT c.K tg)) (ht : InC P k c scope fun c' => PTs c' ifs (tT c'.K c'.w cal cx)) (he : InC P k c scope fun c' => OkE cal c' elt ex) :
    OkE cal c (.ListComp elt [⟨t, iter, ifs, 0⟩] scope pos) (.comp own (.cons own tg it cx .nil) ex) ∧ SwOk cal c (.ListComp elt [⟨t, iter, ifs, 0⟩] scope pos) (.comp own (.cons own tg it cx .nil) ex) := by
  refine ⟨OkE.of rfl fun m => ?_, fun i y py spos m hy hl hsw => ?_⟩
  rotate_left
  · have h := ps_setLc (pos := pos) (g := gT c.K tg) (tt := tT c.K c.w cal cx) (te := rd c.K c.w cal .val ex) G.calm G.nd hy hl hsw hi (blkOk_by hb) hg ht (fun s H C cl fp => (he s H C cl fp).pe .val) (full_ok hf _)
    rw [ownL_map] at h
    exact h.imp fun D σ H q => comp1_imp hsub (fun O3 O4 h => owE_sub ex h) (fun O3 O4 h => owOx_sub cx h) q
  have h := pe_lc (pos := pos) (g := gT c.K tg) (tt := tT c.K c.w cal cx) (te := rd c.K c.w cal .val ex) G.calm G.nd hi (blkOk_by hb) hg ht (fun s H C cl fp => (he s H C cl fp).pe .val) (full_ok hf _)
  rw [ownL_map] at h
  exact h.imp fun σ H Q q => comp1_imp hsub (fun O3 O4 h => owE_sub ex h) (fun O3 O4 h => owOx_sub cx h) q
theorem ok_comp2 (G : Good P k c) (hb : blkC c.N c.env.scope scope (ownL c.N own) = true) (hsub : ∀ i ∈ tgsOf tg, i ∈ own) (hsub1 : ∀ i ∈ tgsOf tg1, i ∈ ws1) (hs2 : ∀ i ∈ ws1, i ∈ own) (hf : fullE iter = true) (hf1 : fullE iter1 = true)
    (hi : PI c t iter (rdIt c.K c.w cal (prOx cx && (prIt it1 && prOx cx1 && true) && prE ex) it))
    (hg : InC P k c scope fun c => PG c t (gT c.K tg)) (ht : InC P k c scope fun c' => PTs c' ifs (tT c'.K c'.w cal cx))
    (hi1 : InC P k c scope fun c' => PI c' t1 iter1 (rdIt c'.K c'.w cal (prOx cx1 && prE ex) it1)) (hg1 : InC P k c scope fun c => PG c t1 (gT c.K tg1)) (ht1 : InC P k c scope fun c' => PTs c' ifs1 (tT c'.K c'.w cal cx1)) (he : InC P k c scope fun c' => OkE cal c' elt ex) :
    OkE cal c (.ListComp elt [⟨t, iter, ifs, 0⟩, ⟨t1, iter1, ifs1, 0⟩] scope pos) (.comp own (.cons own tg it cx (.cons ws1 tg1 it1 cx1 .nil)) ex) ∧ SwOk cal c (.ListComp elt [⟨t, iter, ifs, 0⟩, ⟨t1, iter1, ifs1, 0⟩] scope pos) (.comp own (.cons own tg it cx (.cons ws1 tg1 it1 cx1 .nil)) ex) := by
  refine ⟨OkE.of rfl fun m => ?_, fun i y py spos m hy hl hsw => ?_⟩
  rotate_left
  · have h := ps_setLc2 (pos := pos) (vs1 := ws1) (g := gT c.K tg) (tt := tT c.K c.w cal cx) (wi1 := rdIt c.K c.w cal (prOx cx1 && prE ex) it1) (g1 := gT c.K tg1) (tt1 := tT c.K c.w cal cx1) (te := rd c.K c.w cal .val ex) G.calm G.nd hy hl hsw hi (blkOk_by hb) (by rw [ownL_map]; exact hs2) hg ht hi1 hg1 ht1 (fun s H C cl fp => (he s H C cl fp).pe .val) (full_ok hf _) (fun env x => full_ok hf1 env x)
    rw [ownL_map] at h
    exact h.imp fun D σ H q => comp2_imp hsub (fun i hi => (List.mem_append.mp hi).elim id (hsub1 i)) hs2 (fun O3 O4 h => owE_sub ex h) (fun O3 O4 h => owOx_sub cx h) (fun O3 O4 h => owOx_sub cx1 h) (fun b O3 O4 h => owIt_sub it1 h) q
  have h := pe_lc2 (pos := pos) (vs1 := ws1) (g := gT c.K tg) (tt := tT c.K c.w cal cx) (wi1 := rdIt c.K c.w cal (prOx cx1 && prE ex) it1) (g1 := gT c.K tg1) (tt1 := tT c.K c.w cal cx1) (te := rd c.K c.w cal .val ex) G.calm G.nd hi (blkOk_by hb) (by rw [ownL_map]; exact hs2) hg ht hi1 hg1 ht1 (fun s H C cl fp => (he s H C cl fp).pe .val) (full_ok hf _) (fun env x => full_ok hf1 env x)
  rw [ownL_map] at h
  exact h.imp fun σ H Q q => comp2_imp hsub (fun i hi => (List.mem_append.mp hi).elim id (hsub1 i)) hs2 (fun O3 O4 h => owE_sub ex h) (fun O3 O4 h => owOx_sub cx h) (fun O3 O4 h => owOx_sub cx1 h) (fun b O3 O4 h => owIt_sub it1 h) q
section
variable {ke ve : Expr} {kx vx : X}
theorem ok_dcomp1 (G : Good P k c) (hb : blkC c.N c.env.scope scope (ownL c.N own) = true) (hsub : ∀ i ∈ tgsOf tg, i ∈ own) (hf : fullE iter = true) (hi : PI c t iter (rdIt c.K c.w cal (prOx cx && (prE kx && prE vx)) it))
    (hg : InC P k c scope fun c => PG c t (gT c.K tg)) (ht : InC P k c scope fun c' => PTs c' ifs (tT c'.K c'.w cal cx)) (hk : InC P k c scope fun c' => OkE cal c' ke kx) (he : InC P k c scope fun c' => OkE cal c' ve vx) :
    OkE cal c (.DictComp ke ve [⟨t, iter, ifs, 0⟩] scope pos) (.dcomp own (.cons own tg it cx .nil) kx vx) ∧ SwOk cal c (.DictComp ke ve [⟨t, iter, ifs, 0⟩] scope pos) (.dcomp own (.cons own tg it cx .nil) kx vx) := by
  refine ⟨OkE.of rfl fun m => ?_, fun i y py spos m hy hl hsw => ?_⟩
  rotate_left
  · have h := ps_setDc1 (pos := pos) (g := gT c.K tg) (tt := tT c.K c.w cal cx) (tk := rd c.K c.w cal .val kx) (tv := rd c.K c.w cal .val vx) G.calm G.nd hy hl hsw hi (blkOk_by hb) hg ht (fun s H C cl fp => (hk s H C cl fp).pe .val) (fun s H C cl fp => (he s H C cl fp).pe .val) (full_ok hf _)
    rw [ownL_map] at h
    exact h.imp fun D σ H q => dcomp1_imp hsub (fun O3 O4 h => owE_sub kx h) (fun O3 O4 h => owE_sub vx h) (fun O3 O4 h => owOx_sub cx h) q
  have h := pe_dc1 (pos := pos) (g := gT c.K tg) (tt := tT c.K c.w cal cx) (tk := rd c.K c.w cal .val kx) (tv := rd c.K c.w cal .val vx) G.calm G.nd hi (blkOk_by hb) hg ht (fun s H C cl fp => (hk s H C cl fp).pe .val) (fun s H C cl fp => (he s H C cl fp).pe .val) (full_ok hf _)
  rw [ownL_map] at h
  exact h.imp fun σ H Q q => dcomp1_imp hsub (fun O3 O4 h => owE_sub kx h) (fun O3 O4 h => owE_sub vx h) (fun O3 O4 h => owOx_sub cx h) q
theorem ok_dcomp2 (G : Good P k c) (hb : blkC c.N c.env.scope scope (ownL c.N own) = true) (hsub : ∀ i ∈ tgsOf tg, i ∈ own) (hsub1 : ∀ i ∈ tgsOf tg1, i ∈ ws1) (hs2 : ∀ i ∈ ws1, i ∈ own) (hf : fullE iter = true) (hf1 : fullE iter1 = true)
    (hi : PI c t iter (rdIt c.K c.w cal (prOx cx && (prIt it1 && prOx cx1 && true) && (prE kx && prE vx)) it))
    (hg : InC P k c scope fun c => PG c t (gT c.K tg)) (ht : InC P k c scope fun c' => PTs c' ifs (tT c'.K c'.w cal cx))
    (hi1 : InC P k c scope fun c' => PI c' t1 iter1 (rdIt c'.K c'.w cal (prOx cx1 && (prE kx && prE vx)) it1)) (hg1 : InC P k c scope fun c => PG c t1 (gT c.K tg1)) (ht1 : InC P k c scope fun c' => PTs c' ifs1 (tT c'.K c'.w cal cx1)) (hk : InC P k c scope fun c' => OkE cal c' ke kx) (he : InC P k c scope fun c' => OkE cal c' ve vx) :
    OkE cal c (.DictComp ke ve [⟨t, iter, ifs, 0⟩, ⟨t1, iter1, ifs1, 0⟩] scope pos) (.dcomp own (.cons own tg it cx (.cons ws1 tg1 it1 cx1 .nil)) kx vx) ∧ SwOk cal c (.DictComp ke ve [⟨t, iter, ifs, 0⟩, ⟨t1, iter1, ifs1, 0⟩] scope pos) (.dcomp own (.cons own tg it cx (.cons ws1 tg1 it1 cx1 .nil)) kx vx) := by
  refine ⟨OkE.of rfl fun m => ?_, fun i y py spos m hy hl hsw => ?_⟩
  rotate_left
  · have h := ps_setDc2 (pos := pos) (vs1 := ws1) (g := gT c.K tg) (tt := tT c.K c.w cal cx) (wi1 := rdIt c.K c.w cal (prOx cx1 && (prE kx && prE vx)) it1) (g1 := gT c.K tg1) (tt1 := tT c.K c.w cal cx1) (tk := rd c.K c.w cal .val kx) (tv := rd c.K c.w cal .val vx) G.calm G.nd hy hl hsw hi (blkOk_by hb) (by rw [ownL_map]; exact hs2) hg ht hi1 hg1 ht1 (fun s H C cl fp => (hk s H C cl fp).pe .val) (fun s H C cl fp => (he s H C cl fp).pe .val) (full_ok hf _) (fun env x => full_ok hf1 env x)
    rw [ownL_map] at h
    exact h.imp fun D σ H q => dcomp2_imp hsub (fun i hi => (List.mem_append.mp hi).elim id (hsub1 i)) hs2 (fun O3 O4 h => owE_sub kx h) (fun O3 O4 h => owE_sub vx h) (fun O3 O4 h => owOx_sub cx h) (fun O3 O4 h => owOx_sub cx1 h) (fun b O3 O4 h => owIt_sub it1 h) q
  have h := pe_dc2 (pos := pos) (vs1 := ws1) (g := gT c.K tg) (tt := tT c.K c.w cal cx) (wi1 := rdIt c.K c.w cal (prOx cx1 && (prE kx && prE vx)) it1) (g1 := gT c.K tg1) (tt1 := tT c.K c.w cal cx1) (tk := rd c.K c.w cal .val kx) (tv := rd c.K c.w cal .val vx) G.calm G.nd hi (blkOk_by hb) (by rw [ownL_map]; exact hs2) hg ht hi1 hg1 ht1 (fun s H C cl fp => (hk s H C cl fp).pe .val) (fun s H C cl fp => (he s H C cl fp).pe .val) (full_ok hf _) (fun env x => full_ok hf1 env x)
  rw [ownL_map] at h
  exact h.imp fun σ H Q q => dcomp2_imp hsub (fun i hi => (List.mem_append.mp hi).elim id (hsub1 i)) hs2 (fun O3 O4 h => owE_sub kx h) (fun O3 O4 h => owE_sub vx h) (fun O3 O4 h => owOx_sub cx h) (fun O3 O4 h => owOx_sub cx1 h) (fun b O3 O4 h => owIt_sub it1 h) q
end
theorem call1_ok {sc : Scope} {nm : Str} {e l : Expr} (h : call1 sc nm e = some l) : ∃ p pos, e = .Call (.Name nm p) [l] [] pos ∧ glB sc nm = true ∧ stE l = false := by
  unfold call1 at h
  split at h
  · split at h
    · rename_i hc
      cases h
      simp only [Bool.and_eq_true, decide_eq_true_eq, Bool.not_eq_true'] at hc
      exact ⟨_, _, by rw [hc.1.1], hc.1.2, hc.2⟩
    · cases h
  · cases h
theorem call2_ok {sc : Scope} {nm : Str} {e l r : Expr} (h : call2 sc nm e = some (l, r)) : ∃ p pos, e = .Call (.Name nm p) [l, r] [] pos ∧ glB sc nm = true ∧ stE l = false ∧ stE r = false := by
  unfold call2 at h
  split at h
  · split at h
    · rename_i hc
      cases h
      simp only [Bool.and_eq_true, decide_eq_true_eq, Bool.not_eq_true'] at hc
      exact ⟨_, _, by rw [hc.1.1.1], hc.1.1.2, hc.1.2, hc.2⟩
    · cases h
  · cases h
end
section
variable {P : Tab} {k : Nat} (HR : ∀ c, Good P k c → Rls c)
include HR
mutual
theorem ok_E : ∀ (x : X) {c : Cx} {e : Expr}, Good P k c → chkE P c.N x c.fn c.env.scope e = true → OkE (callD P k) c e x
  | .var i, c, e, G, h => by
    unfold chkE at h
    split at h
    · simp only [Bool.and_eq_true, decide_eq_true_eq] at h
      exact ok_var h.1.1 (visB_ok h.1.2) (odd_ok h.2).1 (odd_ok h.2).2
    · cases h
  | .con a, c, e, G, h => by
    unfold chkE at h
    split at h
    · split at h <;> first
        | exact ok_con rfl
        | (rw [of_decide_eq_true h]; exact ok_con rfl)
        | cases h
    · simp only [Bool.and_eq_true] at h
      split at h
      · rename_i hg
        rw [beqA_ok h.2]
        exact ok_glo (glB_ok h.1.1) (odd_ok h.1.2).1 (G.glo _ _ hg)
      · cases h.2
    · cases h
  | .bin op a b, c, e, G, h => by
    unfold chkE at h
    split at h
    · simp only [Bool.and_eq_true, decide_eq_true_eq] at h
      rw [h.1.1]
      exact ok_bin (HR c G).ops op (ok_E a G h.1.2) (ok_E b G h.2)
    · cases h
  | .neg a, c, e, G, h => by
    unfold chkE at h
    split at h
    · exact ok_neg (ok_E a G h)
    · cases h
  | .not a, c, e, G, h => by
    unfold chkE at h
    split at h
    · exact ok_not (ok_E a G h)
    · cases h
  | .and a b, c, e, G, h => by
    unfold chkE at h
    split at h
    · rw [Bool.and_eq_true] at h
      have hb := ok_E b G h.2
      exact ok_and (ok_E a G h.1) (pe_one (hb.pe .val)) (pw_and1 hb.pt)
    · rw [Bool.and_eq_true] at h
      have hb := ok_E b G h.2
      exact ok_and (ok_E a G h.1) (hb.pe .val) (hb.pw _ _ _ rfl)
    · cases h
  | .or a b, c, e, G, h => by
    unfold chkE at h
    split at h
    · rw [Bool.and_eq_true] at h
      have hb := ok_E b G h.2
      exact ok_or (ok_E a G h.1) (pe_one (hb.pe .val)) (pw_or1 hb.pt)
    · rw [Bool.and_eq_true] at h
      have hb := ok_E b G h.2
      exact ok_or (ok_E a G h.1) (hb.pe .val) (hb.pw _ _ _ rfl)
    · cases h
  | .cmp op a b, c, e, G, h => by
    unfold chkE at h
    split at h
    · simp only [Bool.and_eq_true, decide_eq_true_eq, Bool.not_eq_true'] at h
      rw [h.1.1.1]
      exact ok_cmp (HR c G).ops op h.1.1.2 (ok_E a G h.1.2) (ok_E b G h.2)
    · cases h
  | .chain op op' a b d, c, e, G, h => by
    unfold chkE at h
    split at h
    · simp only [Bool.and_eq_true, decide_eq_true_eq, Bool.not_eq_true'] at h
      obtain ⟨⟨⟨⟨⟨h1, h2⟩, h3⟩, h4⟩, h5⟩, h6⟩ := h
      rw [h1, h2]
      exact ok_chain (HR c G).ops op op' h3 (ok_E a G h4) (ok_E b G h5) (ok_E d G h6)
    · cases h
  | .ite d a b, c, e, G, h => by
    unfold chkE at h
    split at h
    · simp only [Bool.and_eq_true] at h
      exact ok_ite (ok_E d G h.1.1) (ok_E a G h.1.2) (ok_E b G h.2)
    · cases h
  | .tup es, c, e, G, h => by
    unfold chkE at h
    split at h
    · rw [Bool.and_eq_true] at h
      exact ok_tup h.1 (ok_Xs es G h.2)
    · cases h
  | .lst es, c, e, G, h => by
    unfold chkE at h
    split at h
    · rw [Bool.and_eq_true] at h
      exact ok_lst h.1 (ok_Xs es G h.2)
    · cases h
  | .dict .nil, c, e, G, h => by
    unfold chkE at h
    split at h
    · exact ok_dict0
    · cases h
  | .dict (.kv a b .nil), c, e, G, h => by
    unfold chkE at h
    split at h
    · simp only [Bool.and_eq_true] at h
      exact ok_dict1 (HR c G).hu (ok_E a G h.1) (ok_E b G h.2)
    · cases h
  | .dict (.kv _ _ (.kv ..)), c, e, G, h => by cases h
  | .dict (.kv _ _ (.star ..)), c, e, G, h => by cases h
  | .dict (.star a (.kv b d .nil)), c, e, G, h => by
    unfold chkE at h
    split at h
    · simp only [Bool.and_eq_true] at h
      exact ok_dictS (ok_E a G h.1.1) (ok_E b G h.1.2) (ok_E d G h.2)
    · cases h
  | .dict (.star _ .nil), c, e, G, h => by cases h
  | .dict (.star _ (.star ..)), c, e, G, h => by cases h
  | .dict (.star _ (.kv _ _ (.kv ..))), c, e, G, h => by cases h
  | .dict (.star _ (.kv _ _ (.star ..))), c, e, G, h => by cases h
  | .idx a b, c, e, G, h => by
    unfold chkE at h
    split at h
    · simp only [Bool.and_eq_true] at h
      exact ok_idx (HR c G).ops (pix_ok h.1.1) (ok_E a G h.1.2) (ok_E b G h.2)
    · cases h
  | .slc a lo hi, c, e, G, h => by
    unfold chkE at h
    split at h
    · simp only [Bool.and_eq_true] at h
      exact ok_slc (HR c G).ops (ok_E a G h.1.1) (ok_Ox lo G h.1.2) (ok_Ox hi G h.2)
    · cases h
  | .comp own cs ex, c, e, G, h => by
    unfold chkE at h
    split at h
    · rename_i elt gens scope pos
      simp only [Bool.and_eq_true] at h
      obtain ⟨⟨hb, hc⟩, he⟩ := h
      have HE : InC P k c scope fun c' => OkE (callD P k) c' elt ex := fun s H C cl fp => ok_E ex (G.blk ..) he
      exact (ok_Cs own cs G hb hc HE).1
    · cases h
  | .dcomp own cs kx vx, c, e, G, h => by
    unfold chkE at h
    split at h
    · rename_i ke ve gens scope pos
      simp only [Bool.and_eq_true] at h
      obtain ⟨⟨⟨hb, hc⟩, hk⟩, he⟩ := h
      exact (ok_DCs own cs G hb hc (fun s H C cl fp => ok_E kx (G.blk ..) hk) (fun s H C cl fp => ok_E vx (G.blk ..) he)).1
    · cases h
  | .call f es, c, e, G, h => by
    unfold chkE at h
    split at h
    · rename_i y p ls pos
      simp only [Bool.and_eq_true, decide_eq_true_eq] at h
      obtain ⟨⟨⟨⟨⟨⟨h1, h2⟩, h3⟩, h4⟩, h5⟩, h6⟩, h7⟩ := h
      subst h1
      cases hP : P f with
      | none => rw [hP] at h5; cases h5
      | some D =>
        rw [hP] at h5
        have h5 := of_decide_eq_true h5
        have A := ok_Xs es G h7
        cases ls with
        | nil =>
          cases es with
          | nil => exact ok_call0 G hP h5 (glB_ok h2) (odd_ok h3).1
          | _ => cases h7
        | cons l ls => exact ok_call G hP h5 h4 (glB_ok h2) (odd_ok h3).1 h6 A
    · cases h
  | .blt f (.cons a .nil), c, e, G, h => by
    unfold chkE at h
    cases hs : sh1 c.env.scope f e with
    | none => rw [hs] at h; cases h
    | some l =>
      rw [hs] at h
      obtain ⟨u1, u2⟩ := (HR c G).u1 f e l hs
      exact ok_blt1 f u1 u2 (ok_E a G h)
  | .blt f (.cons a (.cons b .nil)), c, e, G, h => by
    unfold chkE at h
    cases hs : sh2 c.env.scope f e with
    | none => rw [hs] at h; cases h
    | some lr =>
      obtain ⟨l, r⟩ := lr
      rw [hs] at h
      have h : (chkE P c.N a c.fn c.env.scope l && chkE P c.N b c.fn c.env.scope r) = true := h
      rw [Bool.and_eq_true] at h
      obtain ⟨u1, u2⟩ := (HR c G).u2 f e l r hs
      exact ok_blt2 f u1 u2 (ok_E a G h.1) (ok_E b G h.2)
  | .blt _ .nil, c, e, G, h => by cases h
  | .blt _ (.star _ _), c, e, G, h => by cases h
  | .blt _ (.io _ _), c, e, G, h => by cases h
  | .blt _ (.tmp _ _), c, e, G, h => by cases h
  | .blt _ (.cons _ (.star _ _)), c, e, G, h => by cases h
  | .blt _ (.cons _ (.io _ _)), c, e, G, h => by cases h
  | .blt _ (.cons _ (.tmp _ _)), c, e, G, h => by cases h
  | .blt _ (.cons _ (.cons _ (.cons _ _))), c, e, G, h => by cases h
  | .blt _ (.cons _ (.cons _ (.star _ _))), c, e, G, h => by cases h
  | .blt _ (.cons _ (.cons _ (.io _ _))), c, e, G, h => by cases h
  | .blt _ (.cons _ (.cons _ (.tmp _ _))), c, e, G, h => by cases h
  | .meth m a (.cons b .nil), c, e, G, h => by
    unfold chkE at h
    cases hs : shm1 m e with
    | none => rw [hs] at h; cases h
    | some lr =>
      obtain ⟨l, r⟩ := lr
      rw [hs] at h
      have h : (chkE P c.N a c.fn c.env.scope l && chkE P c.N b c.fn c.env.scope r) = true := h
      rw [Bool.and_eq_true] at h
      exact (HR c G).m1 _ a b m e l r hs (ok_E a G h.1) (ok_E b G h.2)
  | .meth _ _ .nil, c, e, G, h => by cases h
  | .meth _ _ (.star _ _), c, e, G, h => by cases h
  | .meth _ _ (.io _ _), c, e, G, h => by cases h
  | .meth _ _ (.tmp _ _), c, e, G, h => by cases h
  | .meth m a (.cons b (.cons d .nil)), c, e, G, h => by
    unfold chkE at h
    cases hs : shm2 m e with
    | none => rw [hs] at h; cases h
    | some lr =>
      obtain ⟨l, r, t⟩ := lr
      rw [hs] at h
      have h : (chkE P c.N a c.fn c.env.scope l && chkE P c.N b c.fn c.env.scope r && chkE P c.N d c.fn c.env.scope t) = true := h
      rw [Bool.and_eq_true, Bool.and_eq_true] at h
      exact (HR c G).m2 _ a b d m e l r t hs (ok_E a G h.1.1) (ok_E b G h.1.2) (ok_E d G h.2)
  | .meth _ _ (.cons _ (.cons _ (.cons _ _))), c, e, G, h => by cases h
  | .meth _ _ (.cons _ (.cons _ (.star _ _))), c, e, G, h => by cases h
  | .meth _ _ (.cons _ (.cons _ (.io _ _))), c, e, G, h => by cases h
  | .meth _ _ (.cons _ (.cons _ (.tmp _ _))), c, e, G, h => by cases h
  | .meth _ _ (.cons _ (.star _ _)), c, e, G, h => by cases h
  | .meth _ _ (.cons _ (.io _ _)), c, e, G, h => by cases h
  | .meth _ _ (.cons _ (.tmp _ _)), c, e, G, h => by cases h
  | .pop i .none, c, e, G, h => by
    unfold chkE at h
    split at h
    · simp only [Bool.and_eq_true, decide_eq_true_eq] at h
      obtain ⟨⟨⟨⟨h1, h2⟩, h3⟩, h4⟩, h5⟩ := h
      rw [h1]
      exact ok_pop0 h2 (visB_ok h3) (odd_ok h4).1 (odd_ok h4).2 h5
    · cases h
  | .pop i (.some a), c, e, G, h => by
    unfold chkE at h
    split at h
    · simp only [Bool.and_eq_true, decide_eq_true_eq, Bool.not_eq_true'] at h
      obtain ⟨⟨⟨⟨⟨⟨h1, h2⟩, h3⟩, h4⟩, h5⟩, h6⟩, h7⟩ := h
      rw [h1]
      exact ok_pop1 h2 (visB_ok h3) (odd_ok (by rw [h4]; rfl)).1 (odd_ok (by rw [h4]; rfl)).2 h5 h6 (ok_E a G h7)
    · cases h
theorem ok_Xs : ∀ (x : Xs) {c : Cx} {ls : List Expr}, Good P k c → chkXs P c.N x c.fn c.env.scope ls = true → PA c ls (rdXs c.K c.w (callD P k) x)
  | .nil, c, ls, G, h => by
    unfold chkXs at h
    split at h
    · exact xs_nil
    · cases h
  | .cons a r, c, ls, G, h => by
    unfold chkXs at h
    split at h
    · simp only [Bool.and_eq_true, Bool.not_eq_true'] at h
      exact xs_cons h.1.1 (ok_E a G h.1.2) (ok_Xs r G h.2)
    · cases h
  | .star a r, c, ls, G, h => by
    unfold chkXs at h
    split at h
    · rw [Bool.and_eq_true] at h
      exact xs_star (ok_E a G h.1) (ok_Xs r G h.2)
    · cases h
  | .tmp a r, c, ls, G, h => by
    unfold chkXs at h
    split at h
    · simp only [Bool.and_eq_true, Bool.not_eq_true'] at h
      exact xs_tmp h.1.1 (ok_E a G h.1.2) (ok_Xs r G h.2)
    · cases h
  | .io i r, c, ls, G, h => by
    unfold chkXs at h
    split at h
    · simp only [Bool.and_eq_true, decide_eq_true_eq] at h
      exact xs_io h.1.1.1 (visB_ok h.1.1.2) (odd_ok h.1.2).1 (odd_ok h.1.2).2 (ok_Xs r G h.2)
    · cases h
theorem ok_Ox : ∀ (x : Ox) {c : Cx} {e : Option Expr}, Good P k c → chkOx P c.N x c.fn c.env.scope e = true → PO c e (rdOx c.K c.w (callD P k) x)
  | .none, c, e, G, h => by
    unfold chkOx at h
    split at h
    · exact ox_none
    · cases h
  | .some a, c, e, G, h => by
    unfold chkOx at h
    split at h
    · exact ox_some (ok_E a G h)
    · cases h
theorem ok_Ifs : ∀ (x : Ox) {c : Cx} {ls : List Expr}, Good P k c → chkIfs P c.N x c.fn c.env.scope ls = true → PTs c ls (tT c.K c.w (callD P k) x)
  | .none, c, e, G, h => by
    unfold chkIfs at h
    split at h
    · exact pts_nil
    · cases h
  | .some a, c, e, G, h => by
    unfold chkIfs at h
    split at h
    · exact pts_one (ok_E a G h).pt
    · cases h
theorem ok_Cs : ∀ (own : List Nat) (x : Cs) {c : Cx} {scope : Scope} {gens : List Comprehension} {elt : Expr} {ex : X} {pos : Pos}, Good P k c → blkC c.N c.env.scope scope (ownL c.N own) = true → chkCs P c.N own x c.fn c.env.scope scope gens = true →
    (InC P k c scope fun c' => OkE (callD P k) c' elt ex) → OkE (callD P k) c (.ListComp elt gens scope pos) (.comp own x ex) ∧ SwOk (callD P k) c (.ListComp elt gens scope pos) (.comp own x ex)
  | own, .cons ws tg it cx .nil, c, scope, gens, elt, ex, pos, G, hb, h, he => by
    unfold chkCs at h
    split at h
    · rename_i t iter ifs
      simp only [Bool.and_eq_true, decide_eq_true_eq] at h
      obtain ⟨⟨⟨⟨⟨h1, h2⟩, h3⟩, h4⟩, h5⟩, h6⟩ := h
      subst h1
      exact ok_comp1 G hb (fun i hi => sub_mem h2 hi) h3 (ok_It it _ G h5) (fun s H C cl fp => pg_tg (c := c.blk s H scope (compEnvC scope cl C c.env) fp) G.nd G.calm h4) (fun s H C cl fp => ok_Ifs cx (G.blk ..) h6) he
    · cases h
  | own, .cons ws tg it cx (.cons ws1 tg1 it1 cx1 .nil), c, scope, gens, elt, ex, pos, G, hb, h, he => by
    unfold chkCs at h
    split at h
    · rename_i t iter ifs t1 iter1 ifs1
      simp only [Bool.and_eq_true, decide_eq_true_eq] at h
      obtain ⟨⟨⟨⟨⟨⟨⟨⟨⟨⟨⟨h1, h2⟩, h2a⟩, h2b⟩, h3⟩, h3a⟩, h4⟩, h5⟩, h6⟩, h7⟩, h8⟩, h9⟩ := h
      subst h1
      exact ok_comp2 G hb (fun i hi => sub_mem h2 hi) (fun i hi => sub_mem h2a hi) (fun i hi => sub_mem h2b hi) h3 h3a (ok_It it _ G h5) (fun s H C cl fp => pg_tg (c := c.blk s H scope (compEnvC scope cl C c.env) fp) G.nd G.calm h4) (fun s H C cl fp => ok_Ifs cx (G.blk ..) h6)
        (fun s H C cl fp => ok_It it1 _ (G.blk ..) h8) (fun s H C cl fp => pg_tg (c := c.blk s H scope (compEnvC scope cl C c.env) fp) G.nd G.calm h7) (fun s H C cl fp => ok_Ifs cx1 (G.blk ..) h9) he
    · cases h
  | own, .nil, c, scope, gens, elt, ex, pos, G, hb, h, he => by cases h
  | own, .cons _ _ _ _ (.cons _ _ _ _ (.cons _ _ _ _ _)), c, scope, gens, elt, ex, pos, G, hb, h, he => by cases h
theorem ok_DCs : ∀ (own : List Nat) (x : Cs) {c : Cx} {scope : Scope} {gens : List Comprehension} {ke ve : Expr} {kx vx : X} {pos : Pos}, Good P k c → blkC c.N c.env.scope scope (ownL c.N own) = true → chkCs P c.N own x c.fn c.env.scope scope gens = true →
    (InC P k c scope fun c' => OkE (callD P k) c' ke kx) → (InC P k c scope fun c' => OkE (callD P k) c' ve vx) → OkE (callD P k) c (.DictComp ke ve gens scope pos) (.dcomp own x kx vx) ∧ SwOk (callD P k) c (.DictComp ke ve gens scope pos) (.dcomp own x kx vx)
  | own, .cons ws tg it cx .nil, c, scope, gens, ke, ve, kx, vx, pos, G, hb, h, hk, he => by
    unfold chkCs at h
    split at h
    · rename_i t iter ifs
      simp only [Bool.and_eq_true, decide_eq_true_eq] at h
      obtain ⟨⟨⟨⟨⟨h1, h2⟩, h3⟩, h4⟩, h5⟩, h6⟩ := h
      subst h1
      exact ok_dcomp1 G hb (fun i hi => sub_mem h2 hi) h3 (ok_It it _ G h5) (fun s H C cl fp => pg_tg (c := c.blk s H scope (compEnvC scope cl C c.env) fp) G.nd G.calm h4) (fun s H C cl fp => ok_Ifs cx (G.blk ..) h6) hk he
    · cases h
  | own, .cons ws tg it cx (.cons ws1 tg1 it1 cx1 .nil), c, scope, gens, ke, ve, kx, vx, pos, G, hb, h, hk, he => by
    unfold chkCs at h
    split at h
    · rename_i t iter ifs t1 iter1 ifs1
      simp only [Bool.and_eq_true, decide_eq_true_eq] at h
      obtain ⟨⟨⟨⟨⟨⟨⟨⟨⟨⟨⟨h1, h2⟩, h2a⟩, h2b⟩, h3⟩, h3a⟩, h4⟩, h5⟩, h6⟩, h7⟩, h8⟩, h9⟩ := h
      subst h1
      exact ok_dcomp2 G hb (fun i hi => sub_mem h2 hi) (fun i hi => sub_mem h2a hi) (fun i hi => sub_mem h2b hi) h3 h3a (ok_It it _ G h5) (fun s H C cl fp => pg_tg (c := c.blk s H scope (compEnvC scope cl C c.env) fp) G.nd G.calm h4) (fun s H C cl fp => ok_Ifs cx (G.blk ..) h6)
        (fun s H C cl fp => ok_It it1 _ (G.blk ..) h8) (fun s H C cl fp => pg_tg (c := c.blk s H scope (compEnvC scope cl C c.env) fp) G.nd G.calm h7) (fun s H C cl fp => ok_Ifs cx1 (G.blk ..) h9) hk he
    · cases h
  | own, .nil, c, scope, gens, ke, ve, kx, vx, pos, G, hb, h, hk, he => by cases h
  | own, .cons _ _ _ _ (.cons _ _ _ _ (.cons _ _ _ _ _)), c, scope, gens, ke, ve, kx, vx, pos, G, hb, h, hk, he => by cases h
theorem ok_It : ∀ (x : It) (b : Bool) {c : Cx} {t e : Expr}, Good P k c → chkIt P c.N x c.fn c.env.scope t e = true → PI c t e (rdIt c.K c.w (callD P k) b x)
  | .expr a, b, c, t, e, G, h => it_expr b (ok_E a G h)
  | .rng1 a, b, c, t, e, G, h => by
    unfold chkIt at h
    cases hs : call1 c.env.scope "range" e with
    | none => rw [hs] at h; cases h
    | some l =>
      rw [hs] at h
      obtain ⟨p, pos, rfl, g1, g2⟩ := call1_ok hs
      exact it_rng1 b g2 (glB_ok g1) (HR c G).rng (ok_E a G h)
  | .rng2 a d, b, c, t, e, G, h => by
    unfold chkIt at h
    cases hs : call2 c.env.scope "range" e with
    | none => rw [hs] at h; cases h
    | some lr =>
      obtain ⟨l, r⟩ := lr
      rw [hs] at h
      have h : (chkE P c.N a c.fn c.env.scope l && chkE P c.N d c.fn c.env.scope r) = true := h
      rw [Bool.and_eq_true] at h
      obtain ⟨p, pos, rfl, g1, g2, g3⟩ := call2_ok hs
      exact it_rng2 b g2 g3 (glB_ok g1) (HR c G).rng (ok_E a G h.1) (ok_E d G h.2)
  | .enum a, b, c, t, e, G, h => by
    unfold chkIt at h
    rw [Bool.and_eq_true] at h
    obtain ⟨ht, h⟩ := h
    cases hs : call1 c.env.scope "enumerate" e with
    | none => rw [hs] at h; cases h
    | some l =>
      rw [hs] at h
      obtain ⟨p, pos, rfl, g1, g2⟩ := call1_ok hs
      cases t with
      | Tuple es n tp => exact (HR c G).enum es n tp l p pos _ b a g1 g2 (ok_E a G h)
      | _ => cases ht
  | .items a, b, c, t, e, G, h => by
    unfold chkIt at h
    rw [Bool.and_eq_true] at h
    obtain ⟨ht, h⟩ := h
    cases hs : mth0 "items" e with
    | none => rw [hs] at h; cases h
    | some l =>
      rw [hs] at h
      obtain ⟨apos, pos, rfl, g1, g2⟩ := mth0_ok hs
      cases t with
      | Tuple es n tp => exact it_items b (ab_base g2 _ _) g1 (ok_E a G h)
      | _ => cases ht
  | .vals a, b, c, t, e, G, h => by
    unfold chkIt at h
    cases hs : mth0 "values" e with
    | none => rw [hs] at h; cases h
    | some l =>
      rw [hs] at h
      obtain ⟨apos, pos, rfl, g1, g2⟩ := mth0_ok hs
      exact it_vals b (ab_base g2 _ _) g1 (ok_E a G h)
end
end
end Ev
end
section
set_option linter.all false
set_option autoImplicit false
set_option maxRecDepth 100000
set_option maxHeartbeats 2000000
/-! EvN: statements, one by one. -/
namespace Ev
open PySem PySem.Spec PyProof.Rows L2
section
variable {K : PySem.W.Frag} {w : World} {IO : List (Nat × Addr)} {F0 F F' B H : Hp} {O O' : Sl} {σ : L2.St} {env : Env}
/-- a slot's value is forgotten -/
theorem SR.drop (S : SR K w IO F0 F B O σ H env) (i : Nat) : SR K w IO F0 F B (er O i) σ H (env.set i none) where
  fh := S.fh
  bh := S.bh
  f0 := S.f0
  fb := S.fb
  slot := fun j d e => by
    by_cases hj : i = j
    · subst hj
      rw [List.getElem?_set] at e
      by_cases hl : i < env.length <;> simp [hl] at e
    · rw [List.getElem?_set_ne hj] at e
      obtain ⟨v, h1, h2, h3⟩ := S.slot j d e
      exact ⟨v, h1, fun q => h2 (List.mem_filter.mp q).1, fun q => h3 fun z => q (by simp [er, z, Ne.symm hj])⟩
  apart := fun j k a d e hj hk e1 e2 m1 m2 s1 s2 => by
    have n1 : i ≠ j := fun z => by subst z; simp [er] at hj
    have n2 : i ≠ k := fun z => by subst z; simp [er] at hk
    rw [List.getElem?_set_ne n1] at e1
    rw [List.getElem?_set_ne n2] at e2
    exact S.apart j k a d e (List.mem_filter.mp hj).1 (List.mem_filter.mp hk).1 e1 e2 m1 m2 s1 s2
  len := by rw [List.length_set]; exact S.len
  io := fun p hp q => S.io p hp (List.mem_filter.mp q).1
theorem NoSlot.drop {a : Addr} (h : NoSlot O σ env a) (i : Nat) : NoSlot (er O i) σ (env.set i none) a := fun j hj e he hm => by
  have n1 : i ≠ j := fun z => by subst z; simp [er] at hj
  rw [List.getElem?_set_ne n1] at he
  exact h j (List.mem_filter.mp hj).1 e he hm
theorem er_mem {O : Sl} {i j : Nat} : i ∈ er O j ↔ i ∈ O ∧ i ≠ j := by simp [er]
theorem er_not {i : Nat} : i ∉ er O i := by simp [er]
end
/-! ### readings -/
def EndsOk (K : PySem.W.Frag) (w : World) (io : Sl) (IO : List (Nat × Addr)) (F0 F B : Hp) (D : Ends) (f : Flw) : Fl → Prop
  | .nx e => ∀ O', f.nx = some O' → ∀ σ' F' H', SR K w IO F0 F' B O' σ' H' e → Same F F' → D.nx σ' H'
  | .bk e => ∀ O', f.bk = some O' → ∀ σ' F' H', SR K w IO F0 F' B O' σ' H' e → Same F F' → D.bk σ' H'
  | .ct e => ∀ O', f.ct = some O' → ∀ σ' F' H', SR K w IO F0 F' B O' σ' H' e → Same F F' → D.ct σ' H'
  | .rt v e => ∀ O' x σ' F' H', (∀ i ∈ io, i ∈ O') → SR K w IO F0 F' B O' σ' H' e → Same F F' → Rep K w F' x v → D.rt x H'
def rdS (K : PySem.W.Frag) (w : World) (cal : Cal) (io : Sl) (s : S) : TS := fun D σ H => ∃ IO F0 F B O env r f, (∀ p ∈ IO, p.1 ∈ io) ∧ SR K w IO F0 F B O σ H env ∧ evS cal s env = .ok r ∧ owS io O s = some f ∧ EndsOk K w io IO F0 F B D f r
def rdSs (K : PySem.W.Frag) (w : World) (cal : Cal) (io : Sl) (s : Ss) : TS := fun D σ H => ∃ IO F0 F B O env r f, (∀ p ∈ IO, p.1 ∈ io) ∧ SR K w IO F0 F B O σ H env ∧ evSs cal s env = .ok r ∧ owSs io O s = some f ∧ EndsOk K w io IO F0 F B D f r
theorem nxt_some {r : Option Sl} {f : Flw} (h : nxt r = some f) : ∃ O1, r = some O1 ∧ f = { nx := some O1 } := by
  cases r with
  | none => cases h
  | some O1 => cases h; exact ⟨O1, rfl, rfl⟩
theorem map_some {r : Option Sl} {g : Sl → Sl} {O1 : Sl} (h : r.map g = some O1) : ∃ O2, r = some O2 ∧ O1 = g O2 := by
  cases r with
  | none => cases h
  | some O2 => cases h; exact ⟨O2, rfl, rfl⟩
theorem guard_none {α : Type} {b : Bool} {r : Option α} {f : α} (h : (if b = true then none else r) = some f) : b = false ∧ r = some f := by
  cases b with
  | true => cases h
  | false => exact ⟨rfl, h⟩
theorem guard_some {α : Type} {b : Bool} {r : Option α} {f : α} (h : (if b = true then r else none) = some f) : b = true ∧ r = some f := by
  cases b with
  | true => exact ⟨rfl, h⟩
  | false => cases h
section
variable {cal : Cal} {c : Cx} {io : Sl}
theorem not_io {IO : List (Nat × Addr)} {i : Nat} (h : ∀ p ∈ IO, p.1 ∈ io) (hi : io.contains i = false) : ∀ p ∈ IO, p.1 ≠ i := fun p hp z => by
  have := h p hp
  rw [z] at this
  simp at hi
  exact hi this
def mA (e : X) : Md := if freshE e then .new else .val
theorem owM_mA {O : Sl} {e : X} : owM (mA e) O e = owE O e := by unfold mA; cases freshE e <;> rfl
/-- name = e -/
theorem asg_imp {i : Nat} {e : X} {D : Ends} {σ : L2.St} {H : Hp} (h : rdS c.K c.w cal io (.asg i e) D σ H) : tAsg (rd c.K c.w cal (mA e) e) (gName i) D σ H := by
  obtain ⟨IO, F0, F, B, O, env, r, f, hio, S, ev, ow, en⟩ := h
  obtain ⟨⟨v, e1⟩, ee, er'⟩ := R.bind_eq_ok (show (evE cal e env >>= fun p => R.ok (Fl.nx (p.2.set i (some p.1)))) = .ok r from ev)
  cases er'
  obtain ⟨hni, ow⟩ := guard_none (show (if io.contains i then none else nxt ((owE O e).map fun O1 => if freshE e then i :: er O1 i else er O1 i)) = some f from ow)
  obtain ⟨O2, ow2, rfl⟩ := nxt_some ow
  obtain ⟨O1, oe, rfl⟩ := map_some ow2
  refine ⟨IO, F0, F, B, O, env, v, e1, O1, S, ee, by rw [owM_mA]; exact oe, fun x F1 H1 p1 r1 => ?_⟩
  refine en _ rfl _ F1 H1 ?_ p1.ff
  have S2 := p1.sr.drop i
  have hset : (e1.set i none).set i (some v) = e1.set i (some v) := List.set_set ..
  cases hf : freshE e with
  | true =>
    have hm : mA e = .new := by unfold mA; rw [hf]; rfl
    rw [hm] at r1
    unfold RV at r1
    simp only [hf, if_true] at r1
    rw [if_pos rfl, ← hset]
    exact S2.storeO er_not (not_io hio hni) r1.1 fun a ea hmu => (r1.2 a ea hmu).drop i
  | false =>
    have hm : mA e = .val := by unfold mA; rw [hf]; rfl
    rw [hm] at r1
    rw [if_neg (by decide), ← hset]
    exact S2.store er_not r1
/-- name = name, the other not read any more -/
theorem move_imp {i j : Nat} {D : Ends} {σ : L2.St} {H : Hp} (h : rdS c.K c.w cal io (.move i j) D σ H) : tAsg (tVar j) (gName i) D σ H := by
  obtain ⟨IO, F0, F, B, O, env, r, f, hio, S, ev, ow, en⟩ := h
  obtain ⟨v, ee, er'⟩ := R.bind_eq_ok (show (look env j >>= fun v => R.ok (Fl.nx ((env.set j none).set i (some v)))) = .ok r from ev)
  cases er'
  obtain ⟨hni, ow⟩ := guard_none (show (if io.contains i || io.contains j || i == j then none else nxt (some (if O.contains j then i :: er (er O j) i else er (er O j) i))) = some f from ow)
  cases ow
  simp only [Bool.or_eq_false_iff] at hni
  have hd := look_ok ee
  obtain ⟨x, g1, g2, g3⟩ := S.slot j v hd
  refine ⟨x, g1, en _ rfl _ F H ?_ (Same.refl _)⟩
  have S2 := (S.drop j).drop i
  have hset : ((env.set j none).set i none).set i (some v) = (env.set j none).set i (some v) := List.set_set ..
  have hij : i ≠ j := by simpa using hni.2
  by_cases hj : j ∈ O
  · rw [if_pos (by simpa using hj), ← hset]
    refine S2.storeO er_not (not_io hio hni.1.1) (g2 hj) fun a ea hmu k hk e he hm hs => ?_
    have k1 : k ∈ er O j := (List.mem_filter.mp hk).1
    have k2 : k ≠ i := by simpa using (List.mem_filter.mp hk).2
    have k3 : k ≠ j := by simpa using (List.mem_filter.mp k1).2
    rw [List.getElem?_set_ne (Ne.symm k2), List.getElem?_set_ne (Ne.symm k3)] at he
    exact k3 (S.apart k j a e v (List.mem_filter.mp k1).1 hj he hd hm hmu hs (by rw [g1, ea]))
  · rw [if_neg (by simpa using hj), ← hset]
    exact S2.store er_not (g3 hj)
/-- slots forgotten, one after another -/
theorem drops {K : PySem.W.Frag} {w : World} {IO : List (Nat × Addr)} {F0 F B H : Hp} {σ : L2.St} : ∀ (l : List Nat) {O : Sl} {env : Env}, SR K w IO F0 F B O σ H env → SR K w IO F0 F B (minus O l) σ H (wipeE env l.reverse) := by
  intro l O env S
  have h : ∀ (l : List Nat) {O : Sl} {env : Env}, SR K w IO F0 F B O σ H env → SR K w IO F0 F B (l.foldr (fun i O => er O i) O) σ H (wipeE env l) := by
    intro l
    induction l with
    | nil => exact fun S => S
    | cons i l ih => exact fun S => (ih S).drop i
  refine (h l.reverse S).congr fun i => ?_
  rw [minus_mem]
  have : ∀ l : List Nat, i ∈ l.foldr (fun i O => er O i) O ↔ i ∈ O ∧ i ∉ l := by
    intro l
    induction l with
    | nil => simp
    | cons j l ih =>
      rw [List.foldr_cons, er_mem, ih, List.mem_cons, not_or]
      constructor
      · rintro ⟨⟨h1, h2⟩, h3⟩; exact ⟨h1, h3, h2⟩
      · rintro ⟨h1, h2, h3⟩; exact ⟨⟨h1, h3⟩, h2⟩
  rw [this]
  simp
theorem setAll_wipe {is : List Nat} : ∀ {vs : List AV} {env e2 : Env} {l : List Nat}, (∀ i ∈ l, i ∈ is) → setAll is vs env = some e2 → setAll is vs (wipeE env l) = some e2 := by
  -- both give a list that agrees everywhere
  have len : ∀ {is : List Nat} {vs : List AV} {env e2 : Env}, setAll is vs env = some e2 → e2.length = env.length := by
    intro is
    induction is with
    | nil => intro vs env e2 h; cases vs <;> cases h; rfl
    | cons i is ih =>
      intro vs env e2 h
      cases vs with
      | nil => cases h
      | cons v vs => rw [ih (show setAll is vs (env.set i (some v)) = some e2 from h), List.length_set]
  have ex : ∀ {is : List Nat} {vs : List AV} {env e2 env' : Env}, setAll is vs env = some e2 → ∃ e3, setAll is vs env' = some e3 := by
    intro is
    induction is with
    | nil => intro vs env e2 env' h; cases vs <;> cases h; exact ⟨_, rfl⟩
    | cons i is ih =>
      intro vs env e2 env' h
      cases vs with
      | nil => cases h
      | cons v vs => exact ih (show setAll is vs (env.set i (some v)) = some e2 from h)
  have agree : ∀ {is : List Nat} {vs : List AV} {env env' e2 e3 : Env}, setAll is vs env = some e2 → setAll is vs env' = some e3 → env'.length = env.length → ∀ j, (j ∈ is ∨ env'[j]? = env[j]?) → e3[j]? = e2[j]? := by
    intro is
    induction is with
    | nil => intro vs env env' e2 e3 h1 h2 hl j hj; cases vs <;> cases h1; cases h2; exact hj.resolve_left (by simp)
    | cons i is ih =>
      intro vs env env' e2 e3 h1 h2 hl j hj
      cases vs with
      | nil => cases h1
      | cons v vs =>
        refine ih (show setAll is vs (env.set i (some v)) = some e2 from h1) (show setAll is vs (env'.set i (some v)) = some e3 from h2) (by rw [List.length_set, List.length_set, hl]) j ?_
        by_cases hij : i = j
        · subst hij
          refine .inr ?_
          rw [List.getElem?_set, List.getElem?_set]
          simp [hl]
        · rcases hj with hj | hj
          · exact .inl ((List.mem_cons.mp hj).resolve_left (Ne.symm hij))
          · refine .inr ?_
            rw [List.getElem?_set_ne hij, List.getElem?_set_ne hij, hj]
  intro vs env e2 l hl h
  obtain ⟨e3, h3⟩ := ex (env' := wipeE env l) h
  rw [h3]
  congr 1
  apply List.ext_getElem?
  intro j
  refine agree h h3 (wipeE_length _ _) j ?_
  by_cases hj : j ∈ l
  · exact .inl (hl j hj)
  · exact .inr (wipeE_out hj)
/-- a, b, .. = e -/
theorem unp_imp {is : List Nat} {e : X} {D : Ends} {σ : L2.St} {H : Hp} (h : rdS c.K c.w cal io (.unp is e) D σ H) : tAsg (rd c.K c.w cal .val e) (gT c.K (.tup is)) D σ H := by
  obtain ⟨IO, F0, F, B, O, env, r, f, hio, S, ev, ow, en⟩ := h
  obtain ⟨⟨v, e1⟩, ee, er'⟩ := R.bind_eq_ok (show (evE cal e env >>= fun p => bindTg (.tup is) p.1 p.2 >>= fun e => R.ok (Fl.nx e)) = .ok r from ev)
  obtain ⟨e2, eb, er'⟩ := R.bind_eq_ok er'
  cases er'
  obtain ⟨hni, ow⟩ := guard_some (show (if apartS is io then nxt ((owE O e).map fun O1 => minus O1 is) else none) = some f from ow)
  obtain ⟨O2, ow2, rfl⟩ := nxt_some ow
  obtain ⟨O1, oe, rfl⟩ := map_some ow2
  refine ⟨IO, F0, F, B, O, env, v, e1, O1, S, ee, oe, fun x F1 H1 p1 r1 => ?_⟩
  have S2 := drops is p1.sr
  have eb2 : bindTg (.tup is) v (wipeE e1 is.reverse) = .ok e2 := by
    cases v with
    | tuple ds =>
      have eb : (match setAll is ds e1 with
        | some e => R.ok e
        | none => .bad) = .ok e2 := eb
      cases hs : setAll is ds e1 with
      | none => rw [hs] at eb; cases eb
      | some e3 =>
        rw [hs] at eb
        cases eb
        show (match setAll is ds (wipeE e1 is.reverse) with
        | some e => R.ok e
        | none => .bad) = _
        rw [setAll_wipe (fun i hi => by simpa using hi) hs]
    | _ => cases eb
  exact tg_imp S2 eb2 r1 (fun i hi z => (minus_mem.mp z).2 hi) fun σ2 S3 _ _ => en _ rfl σ2 F1 H1 S3 p1.ff
/-- name op= e -/
theorem aug_imp {i : Nat} {op : Bop} {e : X} {D : Ends} {σ : L2.St} {H : Hp} (h : rdS c.K c.w cal io (.aug i op e) D σ H) : (op = .add ∧ tAug i (rd c.K c.w cal .val e) (ipI fun i j => i + j) D σ H) ∨ (op = .sub ∧ tAug i (rd c.K c.w cal .val e) (ipI fun i j => i - j) D σ H) := by
  obtain ⟨IO, F0, F, B, O, env, r, f, hio, S, ev, ow, en⟩ := h
  obtain ⟨x, ex, ev⟩ := R.bind_eq_ok (show (look env i >>= fun x => evE cal e env >>= fun p => match op, x, p.1 with
    | .add, .int a, .int b => R.ok (Fl.nx (p.2.set i (some (.int (a + b)))))
    | .sub, .int a, .int b => R.ok (Fl.nx (p.2.set i (some (.int (a - b)))))
    | _, _, _ => .bad) = .ok r from ev)
  obtain ⟨⟨y, e1⟩, ey, ev⟩ := R.bind_eq_ok ev
  obtain ⟨hni, ow⟩ := guard_none (show (if io.contains i then none else nxt ((owE O e).map fun O1 => er O1 i)) = some f from ow)
  obtain ⟨O2, ow2, rfl⟩ := nxt_some ow
  obtain ⟨O1, oe, rfl⟩ := map_some ow2
  have fin : ∀ (g : Int → Int → Int), (∃ a b, x = .int a ∧ y = .int b ∧ r = .nx (e1.set i (some (.int (g a b))))) → tAug i (rd c.K c.w cal .val e) (ipI g) D σ H := fun g ⟨a, b, hx, hy, hr⟩ => by
    subst hx hy hr
    obtain ⟨xv, g1, g2, g3⟩ := S.slot i _ (look_ok ex)
    have hxv : xv = .int a := by
      by_cases hi : i ∈ O
      · cases (show Rep c.K c.w F xv (.int a) from g2 hi); rfl
      · cases (show Rep c.K c.w F xv (.int a) from g3 hi); rfl
    subst hxv
    refine ⟨.int a, g1, IO, F0, F, B, O, env, _, e1, O1, S, ey, oe, fun yv F1 H1 p1 r1 => ?_⟩
    cases (show Rep c.K c.w F1 yv (.int b) from r1)
    refine ⟨a, b, rfl, rfl, en _ rfl _ F1 H1 ?_ p1.ff⟩
    have hset : (e1.set i none).set i (some (PyData.int (g a b))) = e1.set i (some (.int (g a b))) := List.set_set ..
    rw [← hset]
    exact (p1.sr.drop i).store er_not (.int _)
  cases op with
  | add => exact .inl ⟨rfl, fin _ (by
      cases x with
      | int a => cases y with
        | int b => cases ev; exact ⟨a, b, rfl, rfl, rfl⟩
        | _ => cases ev
      | _ => cases y <;> cases ev)⟩
  | sub => exact .inr ⟨rfl, fin _ (by
      cases x with
      | int a => cases y with
        | int b => cases ev; exact ⟨a, b, rfl, rfl, rfl⟩
        | _ => cases ev
      | _ => cases y <;> cases ev)⟩
  | _ => cases x <;> cases y <;> cases ev
theorem expr_imp {e : X} {D : Ends} {σ : L2.St} {H : Hp} (h : rdS c.K c.w cal io (.expr e) D σ H) : tDrop (rd c.K c.w cal .val e) D σ H := by
  obtain ⟨IO, F0, F, B, O, env, r, f, hio, S, ev, ow, en⟩ := h
  obtain ⟨⟨v, e1⟩, ee, er'⟩ := R.bind_eq_ok (show (evE cal e env >>= fun p => R.ok (Fl.nx p.2)) = .ok r from ev)
  cases er'
  obtain ⟨O1, oe, rfl⟩ := nxt_some ow
  exact ⟨IO, F0, F, B, O, env, v, e1, O1, S, ee, oe, fun x F1 H1 p1 r1 => en _ rfl σ F1 H1 p1.sr p1.ff⟩
theorem ret_imp {e : X} {D : Ends} {σ : L2.St} {H : Hp} (h : rdS c.K c.w cal io (.ret e) D σ H) : tRet (rd c.K c.w cal .val e) D σ H := by
  obtain ⟨IO, F0, F, B, O, env, r, f, hio, S, ev, ow, en⟩ := h
  obtain ⟨⟨v, e1⟩, ee, er'⟩ := R.bind_eq_ok (show (evE cal e env >>= fun p => R.ok (Fl.rt p.1 p.2)) = .ok r from ev)
  cases er'
  have ow : (match owE O e with
    | some O1 => if sub io O1 then some ({} : Flw) else none
    | none => none) = some f := ow
  cases oe : owE O e with
  | none => rw [oe] at ow; cases ow
  | some O1 =>
    rw [oe] at ow
    obtain ⟨hs, ow⟩ := guard_some ow
    exact ⟨IO, F0, F, B, O, env, v, e1, O1, S, ee, oe, fun x F1 H1 p1 r1 => en O1 x σ F1 H1 (fun i hi => sub_mem hs hi) p1.sr p1.ff r1⟩
theorem mo_left {a b : Option Sl} {O' : Sl} (h : mo a b = some O') {O1 : Sl} (ha : a = some O1) : ∀ i ∈ O', i ∈ O1 := fun i hi => by
  subst ha
  cases b with
  | none => cases h; exact hi
  | some O2 => cases h; exact (mem_meet.mp hi).1
theorem mo_right {a b : Option Sl} {O' : Sl} (h : mo a b = some O') {O1 : Sl} (hb : b = some O1) : ∀ i ∈ O', i ∈ O1 := fun i hi => by
  subst hb
  cases a with
  | none => cases h; exact hi
  | some O2 => cases h; exact (mem_meet.mp hi).2
theorem mo_of_left {a b : Option Sl} {O1 : Sl} (ha : a = some O1) : ∃ O', mo a b = some O' := by
  subst ha
  cases b with
  | none => exact ⟨_, rfl⟩
  | some O2 => exact ⟨_, rfl⟩
theorem mo_of_right {a b : Option Sl} {O1 : Sl} (hb : b = some O1) : ∃ O', mo a b = some O' := by
  subst hb
  cases a with
  | none => exact ⟨_, rfl⟩
  | some O2 => exact ⟨_, rfl⟩
/-- ends, weaker: g's ways out are owned less -/
theorem EndsOk.of {K : PySem.W.Frag} {w : World} {IO : List (Nat × Addr)} {F0 F F1 B : Hp} {D : Ends} {f g : Flw} {r : Fl} (h : EndsOk K w io IO F0 F B D g r) (ff : Same F F1)
    (h1 : ∀ O1, f.nx = some O1 → ∃ O', g.nx = some O' ∧ ∀ i ∈ O', i ∈ O1) (h2 : ∀ O1, f.bk = some O1 → ∃ O', g.bk = some O' ∧ ∀ i ∈ O', i ∈ O1) (h3 : ∀ O1, f.ct = some O1 → ∃ O', g.ct = some O' ∧ ∀ i ∈ O', i ∈ O1) : EndsOk K w io IO F0 F1 B D f r := by
  cases r with
  | nx e =>
    intro O1 hO σ' F' H' S f1
    obtain ⟨O', g1, g2⟩ := h1 O1 hO
    obtain ⟨F2, S2, s2⟩ := S.shrink g2
    exact h O' g1 σ' F2 H' S2 (ff.trans (f1.trans s2))
  | bk e =>
    intro O1 hO σ' F' H' S f1
    obtain ⟨O', g1, g2⟩ := h2 O1 hO
    obtain ⟨F2, S2, s2⟩ := S.shrink g2
    exact h O' g1 σ' F2 H' S2 (ff.trans (f1.trans s2))
  | ct e =>
    intro O1 hO σ' F' H' S f1
    obtain ⟨O', g1, g2⟩ := h3 O1 hO
    obtain ⟨F2, S2, s2⟩ := S.shrink g2
    exact h O' g1 σ' F2 H' S2 (ff.trans (f1.trans s2))
  | rt v e => exact fun O' x σ' F' H' hi S f1 r => h O' x σ' F' H' hi S (ff.trans f1) r
theorem ite_impS {d : X} {a b : Ss} {D : Ends} {σ : L2.St} {H : Hp} (h : rdS c.K c.w cal io (.ite d a b) D σ H) : tIfS (tB (rd c.K c.w cal .val d)) (rdSs c.K c.w cal io a) (rdSs c.K c.w cal io b) D σ H := by
  obtain ⟨IO, F0, F, B, O, env, r, f, hio, S, ev, ow, en⟩ := h
  obtain ⟨⟨dc, e1⟩, ec, ev⟩ := R.bind_eq_ok (show (evE cal d env >>= fun p => asB p.1 >>= fun k => match k with
    | true => evSs cal a p.2
    | false => evSs cal b p.2) = .ok r from ev)
  obtain ⟨k, ek, e5⟩ := R.bind_eq_ok ev
  obtain rfl := asB_ok ek
  have ow : (match owE O d with
    | some O1 => match owSs io O1 a, owSs io O1 b with
      | some f, some g => some (f.join g)
      | _, _ => none
    | none => none) = some f := ow
  cases oc : owE O d with
  | none => rw [oc] at ow; cases ow
  | some O1 =>
    rw [oc] at ow
    have ow : (match owSs io O1 a, owSs io O1 b with
      | some f, some g => some (f.join g)
      | _, _ => none) = some f := ow
    cases oa : owSs io O1 a with
    | none => rw [oa] at ow; cases ow
    | some fa =>
      cases ob : owSs io O1 b with
      | none => rw [oa, ob] at ow; cases ow
      | some fb =>
        rw [oa, ob] at ow
        cases ow
        refine ⟨IO, F0, F, B, O, env, _, e1, O1, S, ec, oc, fun v F1 H1 p1 r1 => ?_⟩
        cases (show Rep c.K c.w F1 v (.bool k) from r1)
        refine ⟨k, rfl, ?_⟩
        have way : ∀ {x y : Option Sl}, (∀ O1, x = some O1 → ∃ O', mo x y = some O' ∧ ∀ i ∈ O', i ∈ O1) ∧ (∀ O1, y = some O1 → ∃ O', mo x y = some O' ∧ ∀ i ∈ O', i ∈ O1) := fun {x y} =>
          ⟨fun O1 e => let ⟨O', h⟩ := mo_of_left (b := y) e; ⟨O', h, mo_left h e⟩, fun O1 e => let ⟨O', h⟩ := mo_of_right (a := x) e; ⟨O', h, mo_right h e⟩⟩
        cases k with
        | true => exact ⟨IO, F0, F1, B, O1, e1, r, fa, hio, p1.sr, e5, oa, en.of p1.ff way.1 way.1 way.1⟩
        | false => exact ⟨IO, F0, F1, B, O1, e1, r, fb, hio, p1.sr, e5, ob, en.of p1.ff way.2 way.2 way.2⟩
/-! ### suites -/
theorem nil_imp {D : Ends} {σ : L2.St} {H : Hp} (h : rdSs c.K c.w cal io .nil D σ H) : tNext D σ H := by
  obtain ⟨IO, F0, F, B, O, env, r, f, hio, S, ev, ow, en⟩ := h
  cases ev
  cases ow
  exact en O rfl σ F H S (Same.refl _)
theorem cons_imp {s : S} {r : Ss} {D : Ends} {σ : L2.St} {H : Hp} (h : rdSs c.K c.w cal io (.cons s r) D σ H) : tSeq (rdS c.K c.w cal io s) (rdSs c.K c.w cal io r) D σ H := by
  obtain ⟨IO, F0, F, B, O, env, rr, f, hio, S, ev, ow, en⟩ := h
  obtain ⟨r1, e1, ev⟩ := R.bind_eq_ok (show (evS cal s env >>= fun x => match x with
    | .nx e => evSs cal r e
    | .bk e => R.ok (.bk e)
    | .ct e => .ok (.ct e)
    | .rt v e => .ok (.rt v e)) = .ok rr from ev)
  have ow : (match owS io O s with
    | some f => match f.nx with
      | none => some f
      | some O1 => match owSs io O1 r with
        | some g => some ({ nx := g.nx, bk := mo f.bk g.bk, ct := mo f.ct g.ct } : Flw)
        | none => none
    | none => none) = some f := ow
  cases os : owS io O s with
  | none => rw [os] at ow; cases ow
  | some f1 =>
    rw [os] at ow
    refine ⟨IO, F0, F, B, O, env, r1, f1, hio, S, e1, os, ?_⟩
    have ow : (match f1.nx with
      | none => some f1
      | some O1 => match owSs io O1 r with
        | some g => some ({ nx := g.nx, bk := mo f1.bk g.bk, ct := mo f1.ct g.ct } : Flw)
        | none => none) = some f := ow
    cases hn : f1.nx with
    | none =>
      rw [hn] at ow
      cases ow
      cases r1 with
      | nx e => intro O' h; rw [hn] at h; cases h
      | bk e => cases ev; exact en
      | ct e => cases ev; exact en
      | rt v e => cases ev; exact en
    | some O1 =>
      rw [hn] at ow
      have ow : (match owSs io O1 r with
        | some g => some ({ nx := g.nx, bk := mo f1.bk g.bk, ct := mo f1.ct g.ct } : Flw)
        | none => none) = some f := ow
      cases og : owSs io O1 r with
      | none => rw [og] at ow; cases ow
      | some g =>
        rw [og] at ow
        cases ow
        cases r1 with
        | nx e =>
          intro O' h σ' F' H' S' f'
          rw [hn] at h
          cases h
          exact ⟨IO, F0, F', B, O1, e, rr, g, hio, S', ev, og, en.of f' (fun O h => ⟨O, h, fun i hi => hi⟩) (fun O h => let ⟨O', h'⟩ := mo_of_right (a := f1.bk) h; ⟨O', h', mo_right h' h⟩) (fun O h => let ⟨O', h'⟩ := mo_of_right (a := f1.ct) h; ⟨O', h', mo_right h' h⟩)⟩
        | bk e =>
          cases ev
          intro O' h σ' F' H' S' f'
          obtain ⟨O2, h2⟩ := mo_of_left (b := g.bk) h
          obtain ⟨F2, S2, s2⟩ := S'.shrink (mo_left h2 h)
          exact en O2 h2 σ' F2 H' S2 (f'.trans s2)
        | ct e =>
          cases ev
          intro O' h σ' F' H' S' f'
          obtain ⟨O2, h2⟩ := mo_of_left (b := g.ct) h
          obtain ⟨F2, S2, s2⟩ := S'.shrink (mo_left h2 h)
          exact en O2 h2 σ' F2 H' S2 (f'.trans s2)
        | rt v e => cases ev; exact en
end
end Ev
end
section
set_option linter.all false
set_option autoImplicit false
set_option maxRecDepth 100000
set_option maxHeartbeats 2000000
/-! EvO: stores into lists, several stores at once, loops. -/
namespace Ev
open PySem PySem.Spec PyProof.Rows L2
theorem ixOf_eq (n : Nat) (i : Int) : ixOf n i = ixN n i := rfl
section
variable {cal : Cal} {c : Cx} {io : Sl}
/-- a store into a list or a dict -/
def rSetB (X : Cx) : TSet := fun o i v H Q => rSetL o i v H Q ∨ rSetT X o i v H Q
theorem set_both {X : Cx} (hu : X.A.units + 64 < cLine) : PSet X (rSetB X) := fun pins s σ H o i v ov iv u Q I ro ri rv h => h.elim (set_list pins s σ H o i v ov iv u Q I ro ri rv) (set_tup (by omega) pins s σ H o i v ov iv u Q I ro ri rv)
theorem seti_imp {i : Nat} {k v : X} {D : Ends} {σ : L2.St} {H : Hp} (h : rdS c.K c.w cal io (.seti i k v) D σ H) : tAsg (rd c.K c.w cal .val v) (gSub (tVar i) (rd c.K c.w cal .val k) (rSetB c)) D σ H := by
  obtain ⟨IO, F0, F, B, O, env, r, f, hio, S, ev, ow, en⟩ := h
  obtain ⟨⟨x, e1⟩, ex, ev⟩ := R.bind_eq_ok (show (evE cal v env >>= fun p => look p.2 i >>= fun _ => evE cal k p.2 >>= fun p2 => look p2.2 i >>= fun l => match l, p2.1 with
    | .list xs, .int j => (match ixOf xs.length j with
      | some n => R.ok (Fl.nx (p2.2.set i (some (.list (xs.set n p.1)))))
      | none => .bad)
    | .dict kvs, y => dput' kvs y p.1 >>= fun kvs' => R.ok (Fl.nx (p2.2.set i (some (.dict kvs'))))
    | _, _ => .bad) = .ok r from ev)
  obtain ⟨l0, el0, ev⟩ := R.bind_eq_ok ev
  obtain ⟨⟨y, e2⟩, ey, ev⟩ := R.bind_eq_ok ev
  obtain ⟨l, el, ev⟩ := R.bind_eq_ok ev
  obtain ⟨O9, ow2, rfl⟩ := nxt_some ow
  obtain ⟨O1, o1, ow3⟩ := andThen_some ow2
  obtain ⟨O2, o2, ow4⟩ := andThen_some ow3
  obtain ⟨hi, ow5⟩ := guard_some ow4
  cases ow5
  have hi : i ∈ O9 := by simpa using hi
  refine ⟨IO, F0, F, B, O, env, x, e1, O1, S, ex, o1, fun xv F1 H1 p1 r1 => ?_⟩
  have hd := look_ok (show look e2 i = .ok l from el)
  cases l with
  | list xs => cases y with
    | int j =>
      have ev : (match ixOf xs.length j with
        | some n => R.ok (Fl.nx (e2.set i (some (.list (xs.set n x)))))
        | none => .bad) = .ok r := ev
      cases hn : ixOf xs.length j with
      | none => rw [hn] at ev; cases ev
      | some n =>
        rw [hn] at ev
        cases ev
        obtain ⟨ov, hs, _⟩ := p1.sr.slot i l0 (look_ok (show look e1 i = .ok l0 from el0))
        refine ⟨ov, hs, IO, F0, F1, B, O1, e1, _, e2, O9, p1.sr, ey, o2, fun kv F2 H2 p2 r2 => ?_⟩
        cases (show Rep c.K c.w F2 kv (.int j) from r2)
        obtain ⟨a, us, g1, g2, g3, ch⟩ := change_list (ds' := xs.set n x) p2.sr hi hd
        rw [hs] at g1
        cases g1
        refine .inl ⟨a, us, j, n, rfl, rfl, g2, by rw [g3.length, ← ixOf_eq]; exact hn, ?_⟩
        exact en _ rfl σ F2 _ (ch _ (RepL.set (Rep.mono p2.ff r1) n g3)) (p1.ff.trans p2.ff)
    | _ => cases ev
  | dict kvs =>
    have ev : (dput' kvs y x >>= fun kvs' => R.ok (Fl.nx (e2.set i (some (.dict kvs'))))) = .ok r := by cases y <;> exact ev
    obtain ⟨kvs', ep, ev⟩ := R.bind_eq_ok ev
    cases ev
    unfold dput' at ep
    split at ep
    · rename_i hc
      cases ep
      simp only [Bool.and_eq_true, decide_eq_true_eq] at hc
      obtain ⟨hc1, hc2⟩ := hc
      obtain ⟨ov, hs, _⟩ := p1.sr.slot i l0 (look_ok (show look e1 i = .ok l0 from el0))
      refine ⟨ov, hs, IO, F0, F1, B, O1, e1, _, e2, O9, p1.sr, ey, o2, fun kv F2 H2 p2 r2 => ?_⟩
      obtain ⟨a, ep0, L, tk, g1, g2, g3, ch⟩ := change_dict (ds' := dput kvs y x) p2.sr hi hd
      rw [hs] at g1
      cases g1
      refine .inr ⟨F2, a, ep0, L, tk, kvs, y, x, rfl, p2.sr.fh, g2, g3, hc1, r2, Rep.mono p2.ff r1, by rw [← line_eq]; exact hc2, fun ob' L' tk' hr => ?_⟩
      exact en _ rfl σ F2 _ (ch ob' L' tk' hr) (p1.ff.trans p2.ff)
    · cases ep
  | _ => cases y <;> cases ev
theorem asL_ok {v : AV} {xs : List AV} (h : asL v = .ok xs) : v = .list xs := by
  cases v with
  | list ys => cases h; rfl
  | _ => cases h
/-- a slot that holds a list: the method call's receiver -/
theorem list_recv {IO : List (Nat × Addr)} {F0 F B H : Hp} {O : Sl} {σ : L2.St} {env : Env} {i : Nat} {xs : List AV} (S : SR c.K c.w IO F0 F B O σ H env) (hd : env[i]? = some (some (.list xs))) : ∃ a, σ[i]? = some (some (.ref a)) ∧ tyV c.K "list" (.ref a) H := by
  obtain ⟨v, h1, h2, h3⟩ := S.slot i _ hd
  have o : Opd c.K c.w F H v (.list xs) := by
    by_cases hi : i ∈ O
    · exact (h2 hi).opd S.fh
    · exact (h3 hi).opd S.fh
  obtain ⟨a, us, rfl, hq, _⟩ := o.listE
  exact ⟨a, h1, .inl ⟨rfl, us, hq.sql⟩⟩
theorem app_imp {i : Nat} {e : X} {D : Ends} {σ : L2.St} {H : Hp} (h : rdS c.K c.w cal io (.app i e) D σ H) : tDrop (tBM c.K "list" rAppend (tVar i) (tCons (rd c.K c.w cal .val e) tNil)) D σ H := by
  obtain ⟨IO, F0, F, B, O, env, r, f, hio, S, ev, ow, en⟩ := h
  obtain ⟨x0, e0, ev⟩ := R.bind_eq_ok (show ((look env i >>= asL) >>= fun _ => evE cal e env >>= fun p => look p.2 i >>= fun l => match l with
    | .list xs => if xs.length < line then R.ok (Fl.nx (p.2.set i (some (.list (xs ++ [p.1]))))) else .bad
    | _ => .bad) = .ok r from ev)
  obtain ⟨l0, el0, e0⟩ := R.bind_eq_ok e0
  obtain rfl := asL_ok e0
  obtain ⟨⟨x, e1⟩, ex, ev⟩ := R.bind_eq_ok ev
  obtain ⟨l, el, ev⟩ := R.bind_eq_ok ev
  obtain ⟨O9, ow2, rfl⟩ := nxt_some ow
  obtain ⟨O1, o1, ow3⟩ := andThen_some ow2
  obtain ⟨hi, ow4⟩ := guard_some ow3
  cases ow4
  have hi : i ∈ O9 := by simpa using hi
  obtain ⟨a0, hs, hty⟩ := list_recv S (look_ok el0)
  refine ⟨_, hs, hty, IO, F0, F, B, O, env, x, e1, O9, S, ex, o1, fun xv F1 H1 p1 r1 => ?_⟩
  have hd := look_ok (show look e1 i = .ok l from el)
  cases l with
  | list xs =>
    have ev : (if xs.length < line then R.ok (Fl.nx (e1.set i (some (.list (xs ++ [x]))))) else .bad) = .ok r := ev
    split at ev
    · rename_i hz
      cases ev
      obtain ⟨a, us, g1, g2, g3, ch⟩ := change_list (ds' := xs ++ [x]) p1.sr hi hd
      rw [hs] at g1
      cases g1
      exact ⟨_, us, xv, rfl, rfl, g2, by rw [g3.length, ← line_eq]; exact hz, en _ rfl σ F1 _ (ch _ (g3.snoc r1)) p1.ff⟩
    · cases ev
  | _ => cases ev
/-- extend by any list -/
def rExt (K : PySem.W.Frag) : V → List V → Hp → VK → Prop := fun x vs H Q => ∃ l b xs zs, x = .ref l ∧ vs = [.ref b] ∧ H l = some (.lst xs) ∧ LstX K H b zs ∧ xs.length + zs.length ≤ sizeLine ∧ Q .non (upd H l (.lst (xs ++ zs)))
theorem mt_ext : MtM c "list.extend" (rExt c.K) := by
  intro pins s σ H x vs v us Q I rx rv h
  obtain ⟨l, b, xs, zs, rfl, rfl, hl, hb, hz, q⟩ := h
  cases rx
  obtain ⟨u, rfl, ru⟩ := rv.one
  cases ru
  obtain ⟨_, its, n, r, len1, e1⟩ := I.lstM hl
  obtain ⟨_, jts, m, r2, len2, e2⟩ := inv_lst I hb
  have both : its.toArray.size + jts.toArray.size ≤ sizeLine := by rw [List.size_toArray, List.size_toArray, ← len1, ← len2]; exact hz
  have nl : ¬ (!its.toArray.isEmpty && Builtin.List.listTooLong (its.toArray.size + jts.toArray.size)) = true := by
    rw [notLongL both, Bool.and_false]
    decide
  have a1 : its.toArray.size ≤ sizeLine := by omega
  refine call_meets F.slot_list_extend ⟨_, e1, rfl⟩ F.entry_list_extend (F.args_list_extend_2 _ _) (AutoSeq1.list_extend_list_list_0 l its.toArray n b jts.toArray m nl (by omega) (by omega)) ⟨e1, e2, ?_⟩
  exact ⟨.non, _, I.lset (its' := its ++ jts) hl e1 (by simp) (r.append r2) (by rw [List.length_append]; exact hz), rfl, q⟩
theorem ext_imp {i : Nat} {e : X} {D : Ends} {σ : L2.St} {H : Hp} (h : rdS c.K c.w cal io (.ext i e) D σ H) : tDrop (tBM c.K "list" (rExt c.K) (tVar i) (tCons (rd c.K c.w cal .opd e) tNil)) D σ H := by
  obtain ⟨IO, F0, F, B, O, env, r, f, hio, S, ev, ow, en⟩ := h
  obtain ⟨x0, e0, ev⟩ := R.bind_eq_ok (show ((look env i >>= asL) >>= fun _ => evE cal e env >>= fun p => look p.2 i >>= fun l => match l, p.1 with
    | .list xs, .list ys => if xs.length + ys.length ≤ line then R.ok (Fl.nx (p.2.set i (some (.list (xs ++ ys))))) else .bad
    | _, _ => .bad) = .ok r from ev)
  obtain ⟨l0, el0, e0⟩ := R.bind_eq_ok e0
  obtain rfl := asL_ok e0
  obtain ⟨⟨x, e1⟩, ex, ev⟩ := R.bind_eq_ok ev
  obtain ⟨l, el, ev⟩ := R.bind_eq_ok ev
  obtain ⟨O9, ow2, rfl⟩ := nxt_some ow
  obtain ⟨O1, o1, ow3⟩ := andThen_some ow2
  obtain ⟨hi, ow4⟩ := guard_some ow3
  cases ow4
  have hi : i ∈ O9 := by simpa using hi
  obtain ⟨a0, hs, hty⟩ := list_recv S (look_ok el0)
  refine ⟨_, hs, hty, IO, F0, F, B, O, env, x, e1, O9, S, ex, o1, fun xv F1 H1 p1 r1 => ?_⟩
  have hd := look_ok (show look e1 i = .ok l from el)
  cases l with
  | list xs => cases x with
    | list ys =>
      have ev : (if xs.length + ys.length ≤ line then R.ok (Fl.nx (e1.set i (some (.list (xs ++ ys))))) else .bad) = .ok r := ev
      split at ev
      · rename_i hz
        cases ev
        obtain ⟨a, us, g1, g2, g3, ch⟩ := change_list (ds' := xs ++ ys) p1.sr hi hd
        rw [hs] at g1
        cases g1
        obtain ⟨b, zs, rfl, hq, hr⟩ := Opd.listE r1.1
        exact ⟨_, b, us, zs, rfl, rfl, g2, hq, by rw [g3.length, hr.length, ← line_eq]; exact hz, en _ rfl σ F1 _ (ch _ (g3.append hr)) p1.ff⟩
      · cases ev
    | _ => cases ev
  | _ => cases x <;> cases ev
/-! ### a, b = x, y -/
theorem par_store {K : PySem.W.Frag} {w : World} {IO : List (Nat × Addr)} {F0 F B0 B H : Hp} {σ : L2.St} {env : Env} {O : Sl} {es : Xs} {vs : List V} {ds : List AV} {as : List Addr} {Q : L2.St → Hp → Prop} (A : AO K w F B0 B H σ env O es vs ds as) :
    ∀ {is : List Nat} {Oc : Sl} {σc : L2.St} {ec e2 : Env} {l : List Nat}, SR K w IO F0 F B0 Oc σc H ec → (∀ a ∈ as, NoSlot Oc σc ec a) → is.Nodup → (∀ i ∈ is, i ∉ Oc) → (∀ p ∈ IO, p.1 ∉ is) → setAll is ds ec = some e2 → freshs is es = some l →
      (∀ σ2, SR K w IO F0 F B0 (l ++ Oc) σ2 H e2 → Q σ2 H) → vs.length = is.length ∧ gNames is vs σc H Q := by
  induction A with
  | nil =>
    intro is Oc σc ec e2 l S _ _ _ _ hs hf q
    cases is with
    | nil => cases hs; cases hf; exact ⟨rfl, rfl, q σc S⟩
    | cons => cases hs
  | @cons e r v vs d ds as hr _ ih =>
    intro is Oc σc ec e2 l S hn nd hO hIO hs hf q
    cases is with
    | nil => cases hs
    | cons i is =>
      obtain ⟨n1, n2⟩ := List.nodup_cons.mp nd
      have hi := hO i List.mem_cons_self
      obtain ⟨g1, g2⟩ := ih (S.store hi hr) (fun a ha j hj e he hm => by
        have nij : i ≠ j := fun z => hi (z ▸ hj)
        rw [List.getElem?_set_ne nij] at he ⊢
        exact hn a ha j hj e he hm) n2 (fun j hj => hO j (List.mem_cons_of_mem _ hj)) (fun p hp z => hIO p hp (List.mem_cons_of_mem _ z)) (show setAll is ds (ec.set i (some d)) = some e2 from hs) (show freshs is r = some l from hf) q
      exact ⟨by rw [List.length_cons, List.length_cons, g1], v, vs, rfl, g2⟩
  | star =>
    intro is Oc σc ec e2 l S hn nd hO hIO hs hf q
    cases is <;> cases hf
  | io =>
    intro is Oc σc ec e2 l S hn nd hO hIO hs hf q
    cases is <;> cases hf
  | @tmp e r a vs d ds as o hm hb hna _ ih =>
    intro is Oc σc ec e2 l S hn nd hO hIO hs hf q
    cases is with
    | nil => cases hs
    | cons i is =>
      obtain ⟨n1, n2⟩ := List.nodup_cons.mp nd
      have hi := hO i List.mem_cons_self
      obtain ⟨l2, hf2, rfl⟩ := map_some (g := fun l => i :: l) (show (freshs is r).map (fun l => i :: l) = some l from hf)
      have S2 := S.storeO hi (fun p hp z => hIO p hp (by rw [z]; exact List.mem_cons_self)) o fun b eb _ => by cases eb; exact hn a List.mem_cons_self
      obtain ⟨g1, g2⟩ := ih S2 (fun b hb' j hj e he hme hse => by
        by_cases hij : i = j
        · subst hij
          rw [List.getElem?_set] at hse
          by_cases hl : i < σc.length
          · simp [hl] at hse
            exact hna (hse ▸ hb')
          · simp [hl] at hse
        · rw [List.getElem?_set_ne hij] at he hse
          exact hn b (List.mem_cons_of_mem _ hb') j ((List.mem_cons.mp hj).resolve_left (Ne.symm hij)) e he hme hse) n2 (fun j hj z => (List.mem_cons.mp z).elim (fun z => n1 (z ▸ hj)) (hO j (List.mem_cons_of_mem _ hj)))
        (fun p hp z => hIO p hp (List.mem_cons_of_mem _ z)) (show setAll is ds (ec.set i (some d)) = some e2 from hs) hf2 fun σ2 S3 => q σ2 (S3.congr fun j => by simp only [List.cons_append, List.mem_cons, List.mem_append]; constructor <;> (intro h; rcases h with h | h | h <;> simp [h]))
      exact ⟨by rw [List.length_cons, List.length_cons, g1], .ref a, vs, rfl, g2⟩
theorem NoSlot.sub {O O' : Sl} {σ : L2.St} {env env' : Env} {a : Addr} (h : NoSlot O σ env a) (hO : ∀ i ∈ O', i ∈ O) (he : ∀ i ∈ O', env'[i]? = env[i]?) : NoSlot O' σ env' a := fun j hj e h1 h2 => h j (hO j hj) e (by rw [← he j hj]; exact h1) h2
theorem freshs_ios : ∀ (es : Xs) {is l : List Nat}, freshs is es = some l → iosOf es = []
  | .nil, is, l, h => rfl
  | .cons e r, is, l, h => by
    cases is with
    | nil => cases h
    | cons i is => exact freshs_ios r (show freshs is r = some l from h)
  | .star e r, is, l, h => by cases is <;> cases h
  | .io i r, is, l, h => by cases is <;> cases h
  | .tmp e r, is, l, h => by
    cases is with
    | nil => cases h
    | cons i is =>
      obtain ⟨l2, h2, _⟩ := map_some (g := fun l => i :: l) (show (freshs is r).map (fun l => i :: l) = some l from h)
      exact freshs_ios r h2
theorem par_imp {is : List Nat} {es : Xs} {D : Ends} {σ : L2.St} {H : Hp} (h : rdS c.K c.w cal io (.par is es) D σ H) :
    rdXs c.K c.w cal es σ H fun vs H1 => vs.length = is.length ∧ gNames is vs σ H1 D.nx ∧ ∀ p u, H1 p = none → gNames is vs σ (upd H1 p u) D.nx := by
  obtain ⟨IO, F0, F, B, O, env, r, f, hio, S, ev, ow, en⟩ := h
  obtain ⟨⟨ds, e1⟩, ee, ev⟩ := R.bind_eq_ok (show (evXs cal es env >>= fun p => match setAll is p.1 p.2 with
    | some e => R.ok (Fl.nx e)
    | none => .bad) = .ok r from ev)
  obtain ⟨hc, ow⟩ := guard_some (show (if apartS is io && decide is.Nodup then nxt (andThen (owXs O es) fun O1 => (freshs is es).map fun l => l ++ minus O1 is) else none) = some f from ow)
  rw [Bool.and_eq_true] at hc
  obtain ⟨O9, ow2, rfl⟩ := nxt_some ow
  obtain ⟨O1, o1, ow3⟩ := andThen_some ow2
  obtain ⟨l, hf, rfl⟩ := map_some ow3
  have ev : (match setAll is ds e1 with
    | some e => R.ok (Fl.nx e)
    | none => .bad) = .ok r := ev
  cases hs : setAll is ds e1 with
  | none => rw [hs] at ev; cases ev
  | some e2 =>
    rw [hs] at ev
    cases ev
    refine ⟨IO, F0, F, B, O, env, ds, e1, O1, S, ee, o1, fun vs as F1 B1 H1 S1 f1 b1 h1 A => ?_⟩
    have start := drops is (S1.less (O := O1) b1)
    have ns : ∀ a ∈ as, NoSlot (minus O1 is) σ (wipeE e1 is.reverse) a := fun a ha => by
      have n1 : NoSlot O1 σ e1 a := by
        rcases A.places S1 a ha with ⟨j, j1, _⟩ | ⟨_, u, hu⟩
        · rw [freshs_ios es hf] at j1
          cases j1
        · exact S1.noSlot (.inr (.inl (by rw [hu]; simp)))
      exact n1.sub (fun i hi => (minus_mem.mp hi).1) fun i hi => wipeE_out fun z => (minus_mem.mp hi).2 (by simpa using z)
    have fin : ∀ (H2 : Hp), SR c.K c.w IO F0 F1 B (minus O1 is) σ H2 (wipeE e1 is.reverse) → AO c.K c.w F1 B B1 H2 σ e1 O1 es vs ds as → vs.length = is.length ∧ gNames is vs σ H2 D.nx := fun H2 S2 A2 => par_store A2 S2 ns (of_decide_eq_true hc.2) (fun i hi z => (minus_mem.mp z).2 hi) (fun p hp z => apart_mem hc.1 z (hio p hp))
      (setAll_wipe (fun i hi => by simpa using hi) hs) hf fun σ2 S3 => en _ rfl σ2 F1 H2 S3 f1
    obtain ⟨g1, g2⟩ := fin H1 start A
    refine ⟨g1, g2, fun p u hp => (fin _ (start.ext (ext_new S1.fh hp)) ?_).2⟩
    -- the arguments' own things stand in the grown heap
    have grow : ∀ {es : Xs} {vs : List V} {ds : List AV} {as : List Addr}, AO c.K c.w F1 B B1 H1 σ e1 O1 es vs ds as → AO c.K c.w F1 B B1 (upd H1 p u) σ e1 O1 es vs ds as := by
      intro es vs ds as A
      induction A with
      | nil => exact .nil
      | cons r _ ih => exact .cons r ih
      | star r _ ih => exact .star r ih
      | io h1 h2 h3 h4 h5 h6 _ ih => exact .io h1 h2 h3 h4 h5 h6 ih
      | tmp o hm hb hn _ ih =>
        obtain ⟨_, _, w1, g⟩ := o.none_of rfl hm
        have np : ∀ {a : Addr} {x : HO}, H1 a = some x → a ≠ p := fun {a x} hx z => by subst z; rw [hp] at hx; cases hx
        exact .tmp (o.at (Same.refl _) fun b x _ _ k1 k2 k3 => ⟨k1, k2, by rw [upd_ne (np k3)]; exact k3⟩) hm (by rw [upd_ne (np g)]; exact hb) hn ih
    exact grow A
/-! ### loops -/
theorem keeps_some {inv : Sl} {o : Option Sl} {O' : Sl} (h : keeps inv o = true) (e : o = some O') : ∀ i ∈ inv, i ∈ O' := fun i hi => by
  subst e
  exact sub_mem h hi
theorem SR.wipeOnly {K : PySem.W.Frag} {w : World} {IO : List (Nat × Addr)} {F0 F B H : Hp} {O : Sl} {σ : L2.St} {env : Env} (S : SR K w IO F0 F B O σ H env) (ws : List Nat) : SR K w IO F0 F B O σ H (wipeE env ws) :=
  S.forget (wipeE_length _ _) rfl (fun i d e => ⟨(wipeE_some e).1, rfl⟩) fun _ _ => rfl
theorem whl_imp {inv ws : List Nat} {cd : X} {b : Ss} {D : Ends} {σ : L2.St} {H : Hp} (h : rdS c.K c.w cal io (.whl inv ws cd b) D σ H) : tWhile (tB (rd c.K c.w cal .val cd)) (rdSs c.K c.w cal io b) D σ H := by
  obtain ⟨IO, F0, F, B, O, env, r, f, hio, S, ev, ow, en⟩ := h
  obtain ⟨hc, ow⟩ := guard_some (show (if sub inv O && apartS ws io && apartS ws inv then match owE inv cd with
    | some O1 => match owSs io O1 b with
      | some f => if sub inv O1 && keeps inv f.nx && keeps inv f.ct then some ({ nx := mo (some O1) f.bk } : Flw) else none
      | none => none
    | none => none else none) = some f from ow)
  simp only [Bool.and_eq_true] at hc
  cases oc : owE inv cd with
  | none => rw [oc] at ow; cases ow
  | some O1 =>
    rw [oc] at ow
    have ow : (match owSs io O1 b with
      | some f => if sub inv O1 && keeps inv f.nx && keeps inv f.ct then some ({ nx := mo (some O1) f.bk } : Flw) else none
      | none => none) = some f := ow
    cases ob : owSs io O1 b with
    | none => rw [ob] at ow; cases ow
    | some fb =>
      rw [ob] at ow
      obtain ⟨hk, ow⟩ := guard_some ow
      cases ow
      simp only [Bool.and_eq_true] at hk
      obtain ⟨F1, S1, s1⟩ := S.shrink (O' := inv) fun i hi => sub_mem hc.1.1 hi
      let cn : Env → R (Bool × Env) := fun env => do
        let (x, env1) ← evE cal cd env
        .ok (← asB x, env1)
      let bd : Env → R Fl := fun env => do .ok (wipeF ws (← evSs cal b env))
      let W : Nat → L2.St → Hp → Prop := fun m σ H => ∃ F2 e, SR c.K c.w IO F0 F2 B inv σ H e ∧ Same F F2 ∧ whlF cn bd m e = .ok r
      refine ⟨W, ⟨turns, F1, env, S1, s1, ev⟩, ?_⟩
      rintro m σ H ⟨F2, e, S2, s2, e2⟩
      cases m with
      | zero => cases e2
      | succ n =>
        obtain ⟨⟨k, e3⟩, ek, e4⟩ := R.bind_eq_ok (show (cn e >>= fun p => match p.1 with
          | true => (bd p.2 >>= fun x => match x with
            | .nx e => whlF cn bd n e
            | .ct e => whlF cn bd n e
            | .bk e => R.ok (.nx e)
            | .rt v e => .ok (.rt v e))
          | false => .ok (.nx p.2)) = .ok r from e2)
        obtain ⟨⟨dx, e5⟩, ex, e6⟩ := R.bind_eq_ok (show (evE cal cd e >>= fun p => asB p.1 >>= fun k => R.ok (k, p.2)) = .ok (k, e3) from ek)
        obtain ⟨k2, ek2, e7⟩ := R.bind_eq_ok e6
        cases e7
        obtain rfl := asB_ok ek2
        refine ⟨IO, F0, F2, B, inv, e, _, e5, O1, S2, ex, oc, fun v F3 H3 p3 r3 => ?_⟩
        cases (show Rep c.K c.w F3 v (.bool k) from r3)
        refine ⟨k, rfl, ?_⟩
        have toMo : ∃ O', mo (some O1) fb.bk = some O' := mo_of_left rfl
        obtain ⟨OE, hOE⟩ := toMo
        cases k with
        | false =>
          show D.nx σ H3
          cases e4
          obtain ⟨F4, S4, s4⟩ := p3.sr.shrink (mo_left hOE rfl)
          exact en OE hOE σ F4 H3 S4 (s2.trans (p3.ff.trans s4))
        | true =>
          show ∃ N : L2.St → Hp → Prop, (∀ σ' H', N σ' H' → ∃ m', m' < n + 1 ∧ W m' σ' H') ∧ rdSs c.K c.w cal io b { nx := N, rt := D.rt, bk := D.nx, ct := N } σ H3
          obtain ⟨rb, eb, e8⟩ := R.bind_eq_ok (show (bd e5 >>= fun x => match x with
            | .nx e => whlF cn bd n e
            | .ct e => whlF cn bd n e
            | .bk e => R.ok (.nx e)
            | .rt v e => .ok (.rt v e)) = .ok r from e4)
          obtain ⟨rc, ec, e9⟩ := R.bind_eq_ok (show (evSs cal b e5 >>= fun x => R.ok (wipeF ws x)) = .ok rb from eb)
          cases e9
          refine ⟨W n, fun σ' H' h => ⟨n, Nat.lt_succ_self _, h⟩, IO, F0, F3, B, O1, e5, rc, fb, hio, p3.sr, ec, ob, ?_⟩
          have next : ∀ {O' : Sl} {σ' : L2.St} {F' H' : Hp} {e' : Env}, (∀ i ∈ inv, i ∈ O') → SR c.K c.w IO F0 F' B O' σ' H' e' → Same F3 F' → whlF cn bd n (wipeE e' ws) = .ok r → W n σ' H' := fun {O' σ' F' H' e'} hi S' f' he => by
            obtain ⟨F4, S4, s4⟩ := S'.shrink hi
            exact ⟨F4, _, S4.wipeOnly ws, s2.trans (p3.ff.trans (f'.trans s4)), he⟩
          cases rc with
          | nx e' => exact fun O' hO σ' F' H' S' f' => next (keeps_some hk.1.2 hO) S' f' e8
          | ct e' => exact fun O' hO σ' F' H' S' f' => next (keeps_some hk.2 hO) S' f' e8
          | bk e' =>
            cases e8
            intro O' hO σ' F' H' S' f'
            obtain ⟨F4, S4, s4⟩ := S'.shrink (mo_right hOE hO)
            exact en OE hOE σ' F4 H' S4 (s2.trans (p3.ff.trans (f'.trans s4)))
          | rt v e' =>
            cases e8
            exact fun O' x σ' F' H' hi S' f' r' => en O' x σ' F' H' hi S' (s2.trans (p3.ff.trans f')) r'
theorem for_imp {inv ws : List Nat} {tg : Tg} {it : It} {b : Ss} {D : Ends} {σ : L2.St} {H : Hp} (h : rdS c.K c.w cal io (.for_ inv ws tg it b) D σ H) : tFor (rdIt c.K c.w cal false it) (gT c.K tg) (rdSs c.K c.w cal io b) D σ H := by
  obtain ⟨IO, F0, F, B, O, env, r, f, hio, S, ev, ow, en⟩ := h
  obtain ⟨⟨ds, e1⟩, ei, ev⟩ := R.bind_eq_ok (show (evIt cal it env >>= fun p => forF (fun x env => do
      let env2 ← bindTg tg x env
      .ok (wipeF ws (← evSs cal b env2))) p.1 p.2) = .ok r from ev)
  have ow : (match owIt false O it with
    | some O1 => if sub inv O1 && apartS ws io && apartS ws inv && apartS (tgsOf tg) io && apartS (tgsOf tg) inv then match owSs io inv b with
      | some f => if keeps inv f.nx && keeps inv f.ct then some ({ nx := mo (some inv) f.bk } : Flw) else none
      | none => none else none
    | none => none) = some f := ow
  cases oi : owIt false O it with
  | none => rw [oi] at ow; cases ow
  | some O1 =>
    rw [oi] at ow
    obtain ⟨hc, ow⟩ := guard_some ow
    simp only [Bool.and_eq_true] at hc
    cases ob : owSs io inv b with
    | none => rw [ob] at ow; cases ow
    | some fb =>
      rw [ob] at ow
      obtain ⟨hk, ow⟩ := guard_some ow
      cases ow
      rw [Bool.and_eq_true] at hk
      refine ⟨IO, F0, F, B, O, env, ds, e1, O1, S, ei, oi, fun J F1 H1 Bs p1 hBs hb _ Wk => ?_⟩
      obtain ⟨F2, S2, s2⟩ := p1.sr.shrink (O' := inv) fun i hi => sub_mem hc.1.1.1.1 hi
      obtain ⟨OE, hOE⟩ : ∃ O', mo (some inv) fb.bk = some O' := mo_of_left rfl
      let bd : AV → Env → R Fl := fun x env => do
        let env2 ← bindTg tg x env
        .ok (wipeF ws (← evSs cal b env2))
      let Pv : Nat → L2.St → Hp → Prop := fun i σ H => ∃ F3 e, SR c.K c.w IO F0 F3 B inv σ H e ∧ Same F2 F3 ∧ forF bd (ds.drop i) e = .ok r
      have bsF : Bs = F1 := hb rfl
      have base : ∀ {i : Nat} {σ : L2.St} {H : Hp}, Pv i σ H → Same Bs H := fun {i σ H} ⟨F3, e, S3, s3, _⟩ => by
        rw [bsF]
        exact s2.trans (s3.trans S3.fh)
      -- by the turn
      refine ⟨fun i m σ H => m = ds.length - i ∧ i ≤ ds.length ∧ (Pv i σ H), ⟨ds.length, by simp, Nat.zero_le _, F2, e1, S2, Same.refl _, by simpa using ev⟩, ?_⟩
      rintro i m σ H ⟨rfl, hi, pv⟩
      have hG := base pv
      obtain ⟨F3, e, S3, s3, e3⟩ := pv
      by_cases hlt : i < ds.length
      · refine .inr ⟨Wk.goes i H hlt hG, Pv (i + 1), fun σ' H' p' => ⟨ds.length - (i + 1), by omega, rfl, hlt, p'⟩, fun x H' yl => ?_⟩
        rw [List.drop_eq_getElem_cons hlt] at e3
        obtain ⟨rb, eb, e4⟩ := R.bind_eq_ok (show (bd ds[i] e >>= fun x => match x with
          | .nx e => forF bd (ds.drop (i + 1)) e
          | .ct e => forF bd (ds.drop (i + 1)) e
          | .bk e => R.ok (.nx e)
          | .rt v e => .ok (.rt v e)) = .ok r from e3)
        obtain ⟨e5, eg, e6⟩ := R.bind_eq_ok (show (bindTg tg ds[i] e >>= fun env2 => evSs cal b env2 >>= fun x => R.ok (wipeF ws x)) = .ok rb from eb)
        obtain ⟨rc, ec, e9⟩ := R.bind_eq_ok e6
        cases e9
        obtain ⟨d', F4, hd', X4, r4⟩ := Wk.yields i H x H' hlt hG yl F3 (s2.trans s3) S3.fh
        rw [List.getElem?_eq_getElem hlt] at hd'
        cases hd'
        refine tg_imp (S3.ext X4) eg r4 (fun j hj z => apart_mem hc.2 hj z) fun σ2 S5 _ _ => ?_
        refine ⟨IO, F0, F4, B, inv, e5, rc, fb, hio, S5, ec, ob, ?_⟩
        have all : Same F F4 := p1.ff.trans (s2.trans (s3.trans X4.ff))
        have next : ∀ {O' : Sl} {σ' : L2.St} {F' H' : Hp} {e' : Env}, (∀ i ∈ inv, i ∈ O') → SR c.K c.w IO F0 F' B O' σ' H' e' → Same F4 F' → forF bd (ds.drop (i + 1)) (wipeE e' ws) = .ok r → Pv (i + 1) σ' H' := fun {O' σ' F' H' e'} hi S' f' he => by
          obtain ⟨F6, S6, s6⟩ := S'.shrink hi
          exact ⟨F6, _, S6.wipeOnly ws, s3.trans (X4.ff.trans (f'.trans s6)), he⟩
        cases rc with
        | nx e' => exact fun O' hO σ' F' H' S' f' => next (keeps_some hk.1 hO) S' f' e4
        | ct e' => exact fun O' hO σ' F' H' S' f' => next (keeps_some hk.2 hO) S' f' e4
        | bk e' =>
          cases e4
          intro O' hO σ' F' H' S' f'
          obtain ⟨F6, S6, s6⟩ := S'.shrink (mo_right hOE hO)
          exact en OE hOE σ' F6 H' S6 (all.trans (f'.trans s6))
        | rt v e' =>
          cases e4
          exact fun O' x σ' F' H' hi S' f' r' => en O' x σ' F' H' hi S' (all.trans f') r'
      · have e9 : i = ds.length := by omega
        subst e9
        rw [List.drop_length] at e3
        cases e3
        obtain ⟨F6, S6, s6⟩ := S3.shrink (mo_left hOE rfl)
        exact .inl ⟨Wk.stops H hG, en OE hOE σ F6 H S6 (p1.ff.trans (s2.trans (s3.trans s6)))⟩
end
end Ev
end
section
set_option linter.all false
set_option autoImplicit false
set_option maxRecDepth 100000
set_option maxHeartbeats 4000000
/-! EvP: the check is right: statements. -/
namespace Ev
open PySem PySem.Spec PyProof.Rows L2
/-- do a comprehension and its store go together? -/
def swB (sc : Scope) (e : Expr) (y : Str) (py : Pos) : Bool := match e with
  | .ListComp _ _ s p => (sc.names.lookup y == some .local) && (py.line == p.line) && !(s.names.any fun (n, k) => n == y && (k == .local || k == .cell))
  | .DictComp _ _ _ s p => (sc.names.lookup y == some .local) && (py.line == p.line) && !(s.names.any fun (n, k) => n == y && (k == .local || k == .cell))
  | _ => false
def cmpE : Expr → Bool
  | .ListComp .. => true
  | .SetComp .. => true
  | .DictComp .. => true
  | _ => false
/-- what a, b = c, d does with its stores: none: not told -/
def swV (sc : Scope) (ts vs : List Expr) : Option (Option (List Str)) :=
  if !(ts.length == 2 || ts.length == 3) || vs.length != ts.length then some none
  else if vs.any stE then some none
  else
    let names := ts.filterMap fun
      | .Name id pos => if sc.names.lookup id == some .local && pos.line == (ts.head?.map (·.pos.line)).getD 0 then some id else none
      | _ => none
    if names.length != ts.length || names.eraseDups.length != names.length then some none
    else if vs.all (foldedForSure 8) then some none
    else if vs.all (constantsAlone 8) then none
    else some (some names)
theorem blockKind_of {env : PySem.Env} (h : env.scope.kind = .function) : env.blockKind = .function := by unfold Env.blockKind; rw [h]; rfl
theorem swV_ok {env : PySem.Env} {ts vs : List Expr} {a b : Nat} {p q : Pos} {r : Option (List Str)} (hk : env.scope.kind = .function) (h : swV env.scope ts vs = some r) : swappedStores [.Tuple ts a p] (.Tuple vs b q) env = pure r := by
  unfold swappedStores
  simp only [blockKind_of hk]
  unfold swV at h
  split at h
  · rename_i h1
    cases h
    have : (!(ts.length == 2 || ts.length == 3) || vs.length != ts.length || ScopeKind.function != ScopeKind.function) = true := by rw [h1]; rfl
    rw [if_pos this]
  · rename_i h1
    have n1 : ¬ (!(ts.length == 2 || ts.length == 3) || vs.length != ts.length || ScopeKind.function != ScopeKind.function) = true := by
      intro z
      apply h1
      rw [Bool.or_eq_true] at z
      exact z.resolve_right (by decide)
    rw [if_neg n1]
    split at h
    · rename_i h2
      cases h
      exact if_pos h2
    · rename_i h2
      refine (if_neg h2).trans ?_
      simp only at h
      split at h
      · rename_i h3
        cases h
        exact if_pos h3
      · rename_i h3
        refine (if_neg h3).trans ?_
        split at h
        · rename_i h4
          cases h
          exact if_pos h4
        · rename_i h4
          refine (if_neg h4).trans ?_
          split at h
          · cases h
          · rename_i h5
            refine (if_neg h5).trans ?_
            cases h
            rfl
/-! ### the check -/
def fT : Str → Bool := fun _ => true
def docE : Stmt → Bool
  | .Expr (.Constant (.str _) _ _) _ => true
  | _ => false
def nodoc : List Stmt → List Stmt
  | [] => []
  | s :: l => if docE s then l else s :: l
def unE : Expr → Bool
  | .Tuple .. => false
  | _ => true
mutual
def chkS (P : Tab) (N : List Str) (sc : Scope) : S → Stmt → Bool
  | .asg i (.comp own cs ex), st => match st with
    | .Assign [.Name y _] (.ListComp elt gens scope _) _ => nameB N fT sc i y && blkC N sc scope (ownL N own) && chkCs P N own cs fT sc scope gens && chkE P N ex (fun x => scope.names.lookup x == some .cell) (relS scope sc) elt
    | _ => false
  | .asg i (.dcomp own cs kx vx), st => match st with
    | .Assign [.Name y _] (.DictComp ke ve gens scope _) _ => nameB N fT sc i y && blkC N sc scope (ownL N own) && chkCs P N own cs fT sc scope gens && chkE P N kx (fun x => scope.names.lookup x == some .cell) (relS scope sc) ke && chkE P N vx (fun x => scope.names.lookup x == some .cell) (relS scope sc) ve
    | _ => false
  | .asg i e, st => match st with
    | .Assign [.Name y _] v _ => nameB N fT sc i y && !cmpE v && chkE P N e fT sc v
    | _ => false
  | .move i j, st => match st with
    | .Assign [.Name y _] (.Name z _) _ => nameB N fT sc i y && decide (N[j]? = some z) && visB sc z && !odd z
    | _ => false
  | .unp is e, st => match st with
    | .Assign [.Tuple ts k p] v _ => unE v && chkTg N fT sc (.Tuple ts k p) (.tup is) && chkE P N e fT sc v
    | _ => false
  | .par is es, st => match st with
    | .Assign [.Tuple ts k p] (.Tuple vs _ _) _ => chkNames N fT sc ts is && chkXs P N es fT sc vs && decide (is.length ≤ 1000) && (match swV sc ts vs with
      | some none => true
      | some (some names) => match ts, vs, is with
        | [.Name x _, .Name y _], [_, _], [i, j] => decide (names = [x, y]) && decide (sc.names.lookup x = some .local) && decide (sc.names.lookup y = some .local) && decide (i ≠ j)
        | [.Name x _, .Name y _, .Name z _], [_, _, _], [i, j, l] => decide (names = [x, y, z]) && decide (sc.names.lookup x = some .local) && decide (sc.names.lookup y = some .local) && decide (sc.names.lookup z = some .local) && decide (i ≠ j) && decide (i ≠ l) && decide (j ≠ l)
        | _, _, _ => false
      | none => false)
    | _ => false
  | .seti i k v, st => match st with
    | .Assign [.Subscript (.Name y _) ke _] ve _ => decide (N[i]? = some y) && visB sc y && !odd y && pixE ke && chkE P N k fT sc ke && chkE P N v fT sc ve
    | _ => false
  | .app i e, st => match st with
    | .Expr (.Call (.Attribute (.Name y _) name apos) [l] [] pos) _ => decide (name = "append") && decide (N[i]? = some y) && visB sc y && !odd y && (apos.endLine == pos.line) && !stE l && chkE P N e fT sc l
    | _ => false
  | .ext i e, st => match st with
    | .Expr (.Call (.Attribute (.Name y _) name apos) [l] [] pos) _ => decide (name = "extend") && decide (N[i]? = some y) && visB sc y && !odd y && (apos.endLine == pos.line) && !stE l && chkE P N e fT sc l
    | _ => false
  | .aug i op e, st => match st with
    | .AugAssign (.Name y _) o v _ => nameB N fT sc i y && decide (o = bopP op) && chkE P N e fT sc v
    | _ => false
  | .expr e, st => match st with
    | .Expr v _ => !cmpE v && chkE P N e fT sc v
    | _ => false
  | .ret e, st => match st with
    | .Return (some v) _ => chkE P N e fT sc v
    | _ => false
  | .ite d a b, st => match st with
    | .If t l r _ => chkE P N d fT sc t && chkSs P N sc a (nodoc l) && chkSs P N sc b (nodoc r)
    | _ => false
  | .whl _ _ d b, st => match st with
    | .While t l [] _ => chkE P N d fT sc t && chkSs P N sc b (nodoc l)
    | _ => false
  | .for_ _ _ tg it b, st => match st with
    | .For t iter l [] _ => fullE iter && chkTg N fT sc t tg && chkIt P N it fT sc t iter && chkSs P N sc b (nodoc l)
    | _ => false
  | .raise, _ => true
  | .brk, st => match st with
    | .Break _ => true
    | _ => false
  | .cont, st => match st with
    | .Continue _ => true
    | _ => false
  | .pass, st => match st with
    | .Pass _ => true
    | _ => false
def chkSs (P : Tab) (N : List Str) (sc : Scope) : Ss → List Stmt → Bool
  | .nil, l => match l with
    | [] => true
    | _ => false
  | .cons s r, l => match l with
    | st :: l => chkS P N sc s st && chkSs P N sc r l
    | [] => false
end
/-! ### it is right -/
structure GoodS (P : Tab) (k : Nat) (c : Cx) : Prop where
  g : Good P k c
  xe : c.xe = fun _ _ => False
  kind : c.env.scope.kind = .function
  fn : c.fn = fT
theorem doc_ok {e : Stmt} (h : docE e = true) : ∃ x j p q, e = .Expr (.Constant (.str x) j p) q := by
  unfold docE at h
  split at h
  · exact ⟨_, _, _, _, rfl⟩
  · cases h
theorem pss_nodoc {c : Cx} {t : TS} {l : List Stmt} (h : PSs c (nodoc l) t) : PSs c l t := by
  cases l with
  | nil => exact h
  | cons s l =>
    have h : PSs c (if docE s = true then l else s :: l) t := h
    cases hd : docE s with
    | false => rw [hd, if_neg (by decide)] at h; exact h
    | true =>
      rw [hd, if_pos rfl] at h
      obtain ⟨x, j, p, q, rfl⟩ := doc_ok hd
      exact (pss_cons ps_doc h).imp fun D σ H z => z
theorem cmp_sw {e : Expr} (h : cmpE e = false) (t : Option Expr) (n : Nat) (env : PySem.Env) : swapsWith e t n env = pure false := by
  cases e <;> first | rfl | cases h
theorem lc_sw {elt : Expr} {gens : List Comprehension} {scope : Scope} {p py : Pos} {y : Str} {n : Nat} {env : PySem.Env} (hk : env.scope.kind = .function) : swapsWith (.ListComp elt gens scope p) (some (.Name y py)) n env = pure (swB env.scope (.ListComp elt gens scope p) y py) := by
  unfold swapsWith
  simp only [blockKind_of hk]
  show pure ((ScopeKind.function == ScopeKind.function) && (env.kindOf y == some NameKind.local) && (py.line == p.line) && !(scope.names.any fun x => match x with | (n, k) => n == y && (k == .local || k == .cell))) = pure ((env.scope.names.lookup y == some .local) && (py.line == p.line) && !(scope.names.any fun x => match x with | (n, k) => n == y && (k == .local || k == .cell)))
  rw [show (ScopeKind.function == ScopeKind.function) = true from rfl, Bool.true_and]
  rfl
theorem dc_sw {ke ve : Expr} {gens : List Comprehension} {scope : Scope} {p py : Pos} {y : Str} {n : Nat} {env : PySem.Env} (hk : env.scope.kind = .function) : swapsWith (.DictComp ke ve gens scope p) (some (.Name y py)) n env = pure (swB env.scope (.DictComp ke ve gens scope p) y py) := by
  unfold swapsWith
  simp only [blockKind_of hk]
  show pure ((ScopeKind.function == ScopeKind.function) && (env.kindOf y == some NameKind.local) && (py.line == p.line) && !(scope.names.any fun x => match x with | (n, k) => n == y && (k == .local || k == .cell))) = pure ((env.scope.names.lookup y == some .local) && (py.line == p.line) && !(scope.names.any fun x => match x with | (n, k) => n == y && (k == .local || k == .cell)))
  rw [show (ScopeKind.function == ScopeKind.function) = true from rfl, Bool.true_and]
  rfl
section
variable {P : Tab} {k : Nat} {c : Cx} {io : Sl}
theorem name_loc (G : GoodS P k c) {i : Nat} {y : Str} (h : nameB c.N fT c.env.scope i y = true) : c.N[i]? = some y ∧ Loc c.env.scope y ∧ (c.fn y = true ∨ c.env.scope.names.lookup y = some .local) := by
  unfold nameB at h
  simp only [Bool.and_eq_true, Bool.or_eq_true, decide_eq_true_eq] at h
  obtain ⟨h1, h2⟩ := h
  refine ⟨h1, ?_, .inl (by rw [G.fn]; rfl)⟩
  rcases h2 with h2 | ⟨_, h2⟩
  · exact .inl h2
  · exact .inr h2
theorem set_sub_assign {o i : Expr} {p : Pos} (h : pixE i = true) (env : PySem.Env) (v : Value) : assign (.Subscript o i p) env v = (do
      let ov ← holding [v] (eval o env)
      let iv ← holding [v, ov] (eval i env)
      standAt p
      holding [v, ov, iv] (setItem ov iv v)
      release [v, ov, iv] []) := by
  cases i <;> first | rfl | cases h
theorem stE_few {l : Expr} {env : PySem.Env} {pos : Pos} (h : stE l = false) : ((backTo pos (starEach [l] env)).all (fun x => !x.1) && (backToKw pos (keywordEach [] env)).all (fun x => x.1.isSome)
      && decide ([l].length + ([] : List Keyword).length + (if ([] : List Keyword).isEmpty then 0 else 1) < 30)) = true := by
  rw [star_plain h]
  rfl
theorem gNames_two {i j : Nat} {vs : List V} {σ : L2.St} {H : Hp} {Q : L2.St → Hp → Prop} (h : gNames [i, j] vs σ H Q) : ∃ v w, vs = [v, w] ∧ Q ((σ.set i (some v)).set j (some w)) H := by
  obtain ⟨v, r, rfl, w, r2, rfl, rfl, h⟩ := h
  exact ⟨v, w, rfl, h⟩
theorem gNames_three {i j l : Nat} {vs : List V} {σ : L2.St} {H : Hp} {Q : L2.St → Hp → Prop} (h : gNames [i, j, l] vs σ H Q) : ∃ u v w, vs = [u, v, w] ∧ Q (((σ.set i (some u)).set j (some v)).set l (some w)) H := by
  obtain ⟨u, r, rfl, v, r2, rfl, w, r3, rfl, rfl, h⟩ := h
  exact ⟨u, v, w, rfl, h⟩
end
section
variable {P : Tab} {k : Nat} (HR : ∀ c, Good P k c → Rls c)
include HR
theorem ok_asgC {own : List Nat} {cs : Cs} {ex : X} {i : Nat} {st : Stmt} {c : Cx} {io : Sl} (G : GoodS P k c) (h : chkS P c.N c.env.scope (.asg i (.comp own cs ex)) st = true) : PS c st (rdS c.K c.w (callD P k) io (.asg i (.comp own cs ex))) := by
  unfold chkS at h
  split at h
  · rename_i y py elt gens scope p pos
    simp only [Bool.and_eq_true] at h
    obtain ⟨⟨⟨h1, h2⟩, h3⟩, h4⟩ := h
    obtain ⟨n1, n2, n3⟩ := name_loc G h1
    have HE : InC P k c scope fun c' => OkE (callD P k) c' elt ex := fun s H C cl fp => ok_E HR ex (G.g.blk ..) h4
    obtain ⟨o1, o2⟩ := ok_Cs HR own cs (pos := p) G.g h2 (by rw [G.fn]; exact h3) HE
    cases hs : swB c.env.scope (.ListComp elt gens scope p) y py with
    | true =>
      have hl : c.env.scope.names.lookup y = some .local := by
        have hs : ((c.env.scope.names.lookup y == some .local) && (py.line == p.line) && !(scope.names.any fun (n, k) => n == y && (k == .local || k == .cell))) = true := hs
        simp only [Bool.and_eq_true] at hs
        exact eq_of_beq hs.1.1
      exact (o2 i y py pos (mA (.comp own cs ex)) n1 hl (by rw [lc_sw G.kind, hs])).imp fun D σ H q => asg_imp q
    | false => exact (ps_set G.g.nd n1 n2 (o1.pe (mA (.comp own cs ex))) (by rw [lc_sw G.kind, hs]) n3).imp fun D σ H q => asg_imp q
  · cases h
theorem ok_asgD {own : List Nat} {cs : Cs} {kx vx : X} {i : Nat} {st : Stmt} {c : Cx} {io : Sl} (G : GoodS P k c) (h : chkS P c.N c.env.scope (.asg i (.dcomp own cs kx vx)) st = true) : PS c st (rdS c.K c.w (callD P k) io (.asg i (.dcomp own cs kx vx))) := by
  unfold chkS at h
  split at h
  · rename_i y py ke ve gens scope p pos
    simp only [Bool.and_eq_true] at h
    obtain ⟨⟨⟨⟨h1, h2⟩, h3⟩, h4⟩, h5⟩ := h
    obtain ⟨n1, n2, n3⟩ := name_loc G h1
    have HK : InC P k c scope fun c' => OkE (callD P k) c' ke kx := fun s H C cl fp => ok_E HR kx (G.g.blk ..) h4
    have HE : InC P k c scope fun c' => OkE (callD P k) c' ve vx := fun s H C cl fp => ok_E HR vx (G.g.blk ..) h5
    obtain ⟨o1, o2⟩ := ok_DCs HR own cs (pos := p) G.g h2 (by rw [G.fn]; exact h3) HK HE
    cases hs : swB c.env.scope (.DictComp ke ve gens scope p) y py with
    | true =>
      have hl : c.env.scope.names.lookup y = some .local := by
        have hs : ((c.env.scope.names.lookup y == some .local) && (py.line == p.line) && !(scope.names.any fun (n, k) => n == y && (k == .local || k == .cell))) = true := hs
        simp only [Bool.and_eq_true] at hs
        exact eq_of_beq hs.1.1
      exact (o2 i y py pos (mA (.dcomp own cs kx vx)) n1 hl (by rw [dc_sw G.kind, hs])).imp fun D σ H q => asg_imp q
    | false => exact (ps_set G.g.nd n1 n2 (o1.pe (mA (.dcomp own cs kx vx))) (by rw [dc_sw G.kind, hs]) n3).imp fun D σ H q => asg_imp q
  · cases h
theorem asg_plain {i : Nat} {e : X} {y : Str} {py pos : Pos} {v : Expr} {c : Cx} {io : Sl} (G : GoodS P k c) (h : (nameB c.N fT c.env.scope i y && !cmpE v && chkE P c.N e fT c.env.scope v) = true) : PS c (.Assign [.Name y py] v pos) (rdS c.K c.w (callD P k) io (.asg i e)) := by
  simp only [Bool.and_eq_true, Bool.not_eq_true'] at h
  obtain ⟨n1, n2, n3⟩ := name_loc G h.1.1
  exact (ps_set G.g.nd n1 n2 ((ok_E HR e G.g (by rw [G.fn]; exact h.2)).pe (mA e)) (cmp_sw h.1.2 ..) n3).imp fun D σ H q => asg_imp q
theorem ok_par {is : List Nat} {es : Xs} {st : Stmt} {c : Cx} {io : Sl} (G : GoodS P k c) (h : chkS P c.N c.env.scope (.par is es) st = true) : PS c st (rdS c.K c.w (callD P k) io (.par is es)) := by
  unfold chkS at h
  split at h
  · rename_i ts kt pt vs kv pv pos
    simp only [Bool.and_eq_true, decide_eq_true_eq] at h
    obtain ⟨⟨⟨h1, h2⟩, h3⟩, h4⟩ := h
    have A := ok_Xs HR es G.g (by rw [G.fn]; exact h2)
    have T : PG c (.Tuple ts kt pt) (gT c.K (.tup is)) := pg_tg G.g.nd G.g.calm (by rw [G.fn]; exact h1)
    split at h4
    · rename_i hs
      refine (ps_asg (pos := pos) (pe_tup (x1 := kv) (pos := pv) A) T rfl (swV_ok G.kind hs) rfl).imp fun D σ H q => ?_
      obtain ⟨IO, F0, F, B, O, env, ds, env', O', S, e, o, q⟩ := par_imp q
      refine ⟨IO, F0, F, B, O, env, ds, env', O', S, e, o, fun us as F1 B1 H1 S1 f1 b1 h1 A => ?_⟩
      obtain ⟨g1, g2, g3⟩ := q us as F1 B1 H1 S1 f1 b1 h1 A
      have hz : us.length ≤ sizeLine := by rw [g1, sizeLine_eq]; omega
      exact ⟨hz, fun p hp => ⟨p, us, rfl, SqT.of upd_same, g1, g3 p _ hp⟩⟩
    · rename_i names hs
      split at h4
      · rename_i x px y py l r i j
        simp only [Bool.and_eq_true, decide_eq_true_eq] at h4
        obtain ⟨⟨⟨rfl, hx⟩, hy⟩, hij⟩ := h4
        simp only [chkNames, Bool.and_eq_true] at h1
        obtain ⟨n1, _, _⟩ := name_loc G h1.1
        obtain ⟨n2, _, _⟩ := name_loc G h1.2.1
        exact (ps_par G.g.calm G.g.nd n1 n2 hij hx hy A (swV_ok G.kind hs) rfl).imp fun D σ H q => by
          obtain ⟨IO, F0, F, B, O, env, ds, env', O', S, e, o, q⟩ := par_imp q
          exact ⟨IO, F0, F, B, O, env, ds, env', O', S, e, o, fun us as F1 B1 H1 S1 f1 b1 h1 A => gNames_two (q us as F1 B1 H1 S1 f1 b1 h1 A).2.1⟩
      · rename_i x px y py z pz l r t i j n
        simp only [Bool.and_eq_true, decide_eq_true_eq] at h4
        obtain ⟨⟨⟨⟨⟨⟨rfl, hx⟩, hy⟩, hz⟩, hij⟩, hil⟩, hjl⟩ := h4
        simp only [chkNames, Bool.and_eq_true] at h1
        obtain ⟨n1, _, _⟩ := name_loc G h1.1
        obtain ⟨n2, _, _⟩ := name_loc G h1.2.1
        obtain ⟨n3, _, _⟩ := name_loc G h1.2.2.1
        exact (ps_par3 G.g.calm G.g.nd n1 n2 n3 hij hil hjl hx hy hz A (swV_ok G.kind hs) rfl).imp fun D σ H q => by
          obtain ⟨IO, F0, F, B, O, env, ds, env', O', S, e, o, q⟩ := par_imp q
          exact ⟨IO, F0, F, B, O, env, ds, env', O', S, e, o, fun us as F1 B1 H1 S1 f1 b1 h1 A => gNames_three (q us as F1 B1 H1 S1 f1 b1 h1 A).2.1⟩
      · cases h4
    · cases h4
  · cases h
end
end Ev
end
section
set_option linter.all false
set_option autoImplicit false
set_option maxRecDepth 100000
set_option maxHeartbeats 4000000
/-! EvR: suites, defs, all defs by the depth of their calls. -/
namespace Ev
open PySem PySem.Spec PyProof.Rows L2
section
variable {P : Tab} {k : Nat} (HR : ∀ c, Good P k c → Rls c)
include HR
theorem ok_simple : ∀ (s : S) {st : Stmt} {c : Cx} {io : Sl}, GoodS P k c → chkS P c.N c.env.scope s st = true → (match s with
    | .ite .. => False
    | .whl .. => False
    | .for_ .. => False
    | _ => True) → PS c st (rdS c.K c.w (callD P k) io s)
  | .asg i (.comp own cs ex), st, c, io, G, h, _ => ok_asgC HR G h
  | .asg i (.var _), st, c, io, G, h, _ => by unfold chkS at h; split at h; exact asg_plain HR G h; cases h
  | .asg i (.con _), st, c, io, G, h, _ => by unfold chkS at h; split at h; exact asg_plain HR G h; cases h
  | .asg i (.bin _ _ _), st, c, io, G, h, _ => by unfold chkS at h; split at h; exact asg_plain HR G h; cases h
  | .asg i (.neg _), st, c, io, G, h, _ => by unfold chkS at h; split at h; exact asg_plain HR G h; cases h
  | .asg i (.not _), st, c, io, G, h, _ => by unfold chkS at h; split at h; exact asg_plain HR G h; cases h
  | .asg i (.and _ _), st, c, io, G, h, _ => by unfold chkS at h; split at h; exact asg_plain HR G h; cases h
  | .asg i (.or _ _), st, c, io, G, h, _ => by unfold chkS at h; split at h; exact asg_plain HR G h; cases h
  | .asg i (.cmp _ _ _), st, c, io, G, h, _ => by unfold chkS at h; split at h; exact asg_plain HR G h; cases h
  | .asg i (.chain _ _ _ _ _), st, c, io, G, h, _ => by unfold chkS at h; split at h; exact asg_plain HR G h; cases h
  | .asg i (.ite _ _ _), st, c, io, G, h, _ => by unfold chkS at h; split at h; exact asg_plain HR G h; cases h
  | .asg i (.tup _), st, c, io, G, h, _ => by unfold chkS at h; split at h; exact asg_plain HR G h; cases h
  | .asg i (.lst _), st, c, io, G, h, _ => by unfold chkS at h; split at h; exact asg_plain HR G h; cases h
  | .asg i (.dict _), st, c, io, G, h, _ => by unfold chkS at h; split at h; exact asg_plain HR G h; cases h
  | .asg i (.idx _ _), st, c, io, G, h, _ => by unfold chkS at h; split at h; exact asg_plain HR G h; cases h
  | .asg i (.slc _ _ _), st, c, io, G, h, _ => by unfold chkS at h; split at h; exact asg_plain HR G h; cases h
  | .asg i (.dcomp _ _ _ _), st, c, io, G, h, _ => ok_asgD HR G h
  | .asg i (.call _ _), st, c, io, G, h, _ => by unfold chkS at h; split at h; exact asg_plain HR G h; cases h
  | .asg i (.blt _ _), st, c, io, G, h, _ => by unfold chkS at h; split at h; exact asg_plain HR G h; cases h
  | .asg i (.meth _ _ _), st, c, io, G, h, _ => by unfold chkS at h; split at h; exact asg_plain HR G h; cases h
  | .asg i (.pop _ _), st, c, io, G, h, _ => by unfold chkS at h; split at h; exact asg_plain HR G h; cases h
  | .move i j, st, c, io, G, h, _ => by
    unfold chkS at h
    split at h
    · simp only [Bool.and_eq_true, decide_eq_true_eq] at h
      obtain ⟨n1, n2, n3⟩ := name_loc G h.1.1.1
      exact (ps_set G.g.nd n1 n2 (pe_var h.1.1.2 (visB_ok h.1.2) (odd_ok h.2).1 (odd_ok h.2).2) rfl n3).imp fun D σ H q => move_imp q
    · cases h
  | .unp is e, st, c, io, G, h, _ => by
    unfold chkS at h
    split at h
    · rename_i ts kk p v pos
      simp only [Bool.and_eq_true] at h
      refine (ps_asg ((ok_E HR e G.g (by rw [G.fn]; exact h.2)).pe .val) (pg_tg G.g.nd G.g.calm (by rw [G.fn]; exact h.1.2)) ?_ ?_ rfl).imp fun D σ H q => unp_imp q
      · cases v <;> rfl
      · have hu := h.1.1
        cases v <;> first | rfl | cases hu
    · cases h
  | .par is es, st, c, io, G, h, _ => ok_par HR G h
  | .seti i kx v, st, c, io, G, h, _ => by
    unfold chkS at h
    split at h
    · simp only [Bool.and_eq_true, decide_eq_true_eq] at h
      obtain ⟨⟨⟨⟨⟨h1, h2⟩, h3⟩, h4⟩, h5⟩, h6⟩ := h
      rename_i y py ke ps ve pos
      have T : PG c (.Subscript (.Name y py) ke ps) _ := pg_sub (pe_var h1 (visB_ok h2) (odd_ok h3).1 (odd_ok h3).2) ((ok_E HR kx G.g (by rw [G.fn]; exact h5)).pe .val) (set_both (HR c G.g).hu) (set_sub_assign h4 _)
      refine (ps_asg ((ok_E HR v G.g (by rw [G.fn]; exact h6)).pe .val) T ?_ ?_ rfl).imp fun D σ H q => seti_imp q
      · cases ve <;> rfl
      · cases ve <;> rfl
    · cases h
  | .app i e, st, c, io, G, h, _ => by
    unfold chkS at h
    split at h
    · simp only [Bool.and_eq_true, decide_eq_true_eq, Bool.not_eq_true'] at h
      obtain ⟨⟨⟨⟨⟨⟨rfl, h1⟩, h2⟩, h3⟩, h4⟩, h5⟩, h6⟩ := h
      exact (ps_expr (pe_bm PySem.F.plainAttrs_list PySem.F.slot_list_append PySem.F.type_list_append mt_append (pe_var h1 (visB_ok h2) (odd_ok (by simpa using h3)).1 (odd_ok (by simpa using h3)).2) (pa_cons ((ok_E HR e G.g (by rw [G.fn]; exact h6)).pe .val) pa_nil (star_plain h5)) rfl (stE_few h5) h4 (star_plain h5) rfl) rfl).imp fun D σ H q => app_imp q
    · cases h
  | .ext i e, st, c, io, G, h, _ => by
    unfold chkS at h
    split at h
    · simp only [Bool.and_eq_true, decide_eq_true_eq, Bool.not_eq_true'] at h
      obtain ⟨⟨⟨⟨⟨⟨rfl, h1⟩, h2⟩, h3⟩, h4⟩, h5⟩, h6⟩ := h
      exact (ps_expr (pe_bm PySem.F.plainAttrs_list PySem.F.slot_list_extend PySem.F.type_list_extend mt_ext (pe_var h1 (visB_ok h2) (odd_ok (by simpa using h3)).1 (odd_ok (by simpa using h3)).2) (pa_cons ((ok_E HR e G.g (by rw [G.fn]; exact h6)).pe .opd) pa_nil (star_plain h5)) rfl (stE_few h5) h4 (star_plain h5) rfl) rfl).imp fun D σ H q => ext_imp q
    · cases h
  | .aug i op e, st, c, io, G, h, _ => by
    unfold chkS at h
    split at h
    · simp only [Bool.and_eq_true, decide_eq_true_eq] at h
      obtain ⟨⟨h1, rfl⟩, h2⟩ := h
      obtain ⟨n1, n2, n3⟩ := name_loc G h1
      have he := (ok_E HR e G.g (by rw [G.fn]; exact h2)).pe .val
      cases op with
      | add => exact (ps_aug G.g.nd n1 n2 he ip_add n3).imp fun D σ H q => (aug_imp q).elim (fun z => z.2) fun z => by cases z.1
      | sub => exact (ps_aug G.g.nd n1 n2 he ip_sub n3).imp fun D σ H q => (aug_imp q).elim (fun z => by cases z.1) fun z => z.2
      | mul => exact ps_never.imp fun D σ H q => (aug_imp q).elim (fun z => by cases z.1) fun z => by cases z.1
      | fdiv => exact ps_never.imp fun D σ H q => (aug_imp q).elim (fun z => by cases z.1) fun z => by cases z.1
      | mod => exact ps_never.imp fun D σ H q => (aug_imp q).elim (fun z => by cases z.1) fun z => by cases z.1
      | pow => exact ps_never.imp fun D σ H q => (aug_imp q).elim (fun z => by cases z.1) fun z => by cases z.1
    · cases h
  | .expr e, st, c, io, G, h, _ => by
    unfold chkS at h
    split at h
    · simp only [Bool.and_eq_true, Bool.not_eq_true'] at h
      exact (ps_expr ((ok_E HR e G.g (by rw [G.fn]; exact h.2)).pe .val) (cmp_sw h.1 ..)).imp fun D σ H q => expr_imp q
    · cases h
  | .ret e, st, c, io, G, h, _ => by
    unfold chkS at h
    split at h
    · exact (ps_ret ((ok_E HR e G.g (by rw [G.fn]; exact h)).pe .val)).imp fun D σ H q => ret_imp q
    · cases h
  | .raise, st, c, io, G, h, _ => ps_never.imp fun D σ H q => by
    obtain ⟨IO, F0, F, B, O, env, r, f, hio, S, ev, ow, en⟩ := q
    cases ev
  | .brk, st, c, io, G, h, _ => by
    unfold chkS at h
    split at h
    · exact ps_break.imp fun D σ H q => by
        obtain ⟨IO, F0, F, B, O, env, r, f, hio, S, ev, ow, en⟩ := q
        cases ev
        cases ow
        exact en _ rfl σ F H S (Same.refl _)
    · cases h
  | .cont, st, c, io, G, h, _ => by
    unfold chkS at h
    split at h
    · exact ps_continue.imp fun D σ H q => by
        obtain ⟨IO, F0, F, B, O, env, r, f, hio, S, ev, ow, en⟩ := q
        cases ev
        cases ow
        exact en _ rfl σ F H S (Same.refl _)
    · cases h
  | .pass, st, c, io, G, h, _ => by
    unfold chkS at h
    split at h
    · exact ps_pass.imp fun D σ H q => by
        obtain ⟨IO, F0, F, B, O, env, r, f, hio, S, ev, ow, en⟩ := q
        cases ev
        cases ow
        exact en _ rfl σ F H S (Same.refl _)
    · cases h
  | .ite .., st, c, io, G, h, q => q.elim
  | .whl .., st, c, io, G, h, q => q.elim
  | .for_ .., st, c, io, G, h, q => q.elim
mutual
theorem ok_S : ∀ (s : S) {st : Stmt} {c : Cx} {io : Sl}, GoodS P k c → chkS P c.N c.env.scope s st = true → PS c st (rdS c.K c.w (callD P k) io s)
  | .ite d a b, st, c, io, G, h => by
    unfold chkS at h
    split at h
    · simp only [Bool.and_eq_true] at h
      exact (ps_if (ok_E HR d G.g (by rw [G.fn]; exact h.1.1)).pt (pss_nodoc (ok_Ss a G h.1.2)) (pss_nodoc (ok_Ss b G h.2))).imp fun D σ H q => ite_impS q
    · cases h
  | .whl inv ws d b, st, c, io, G, h => by
    unfold chkS at h
    split at h
    · simp only [Bool.and_eq_true] at h
      exact (ps_while (by rw [G.xe]; exact PassesOwn.never) (ok_E HR d G.g (by rw [G.fn]; exact h.1)).pt (pss_nodoc (ok_Ss b G h.2))).imp fun D σ H q => whl_imp q
    · cases h
  | .for_ inv ws tg it b, st, c, io, G, h => by
    unfold chkS at h
    split at h
    · simp only [Bool.and_eq_true] at h
      exact (ps_for (by rw [G.xe]; exact PassesOwn.never) G.g.calm (ok_It HR it false G.g (by rw [G.fn]; exact h.1.2)) (pg_tg G.g.nd G.g.calm (by rw [G.fn]; exact h.1.1.2)) (pss_nodoc (ok_Ss b G h.2)) (full_ok h.1.1.1 _)).imp fun D σ H q => for_imp q
    · cases h
  | .asg i e, st, c, io, G, h => ok_simple HR _ G h trivial
  | .move i j, st, c, io, G, h => ok_simple HR _ G h trivial
  | .unp is e, st, c, io, G, h => ok_simple HR _ G h trivial
  | .par is es, st, c, io, G, h => ok_simple HR _ G h trivial
  | .seti i k v, st, c, io, G, h => ok_simple HR _ G h trivial
  | .app i e, st, c, io, G, h => ok_simple HR _ G h trivial
  | .ext i e, st, c, io, G, h => ok_simple HR _ G h trivial
  | .aug i op e, st, c, io, G, h => ok_simple HR _ G h trivial
  | .expr e, st, c, io, G, h => ok_simple HR _ G h trivial
  | .ret e, st, c, io, G, h => ok_simple HR _ G h trivial
  | .raise, st, c, io, G, h => ok_simple HR _ G h trivial
  | .brk, st, c, io, G, h => ok_simple HR _ G h trivial
  | .cont, st, c, io, G, h => ok_simple HR _ G h trivial
  | .pass, st, c, io, G, h => ok_simple HR _ G h trivial
theorem ok_Ss : ∀ (s : Ss) {l : List Stmt} {c : Cx} {io : Sl}, GoodS P k c → chkSs P c.N c.env.scope s l = true → PSs c l (rdSs c.K c.w (callD P k) io s)
  | .nil, l, c, io, G, h => by
    unfold chkSs at h
    split at h
    · exact pss_nil.imp fun D σ H q => nil_imp q
    · cases h
  | .cons s r, l, c, io, G, h => by
    unfold chkSs at h
    split at h
    · rw [Bool.and_eq_true] at h
      exact (pss_cons (ok_S s G h.1) (ok_Ss r G h.2)).imp fun D σ H q => cons_imp q
    · cases h
end
end
end Ev
end
section
set_option linter.all false
set_option autoImplicit false
set_option maxRecDepth 100000
set_option maxHeartbeats 4000000
/-! EvS: defs keep their promise; a law's end. -/
namespace Ev
open PySem PySem.Spec PyProof.Rows L2
/-- a def of the text with its own tree -/
structure Src where
  id : Nat
  x : Str
  N : List Str
  ps : List Str
  D : Def
  params : Arguments
  body : List Stmt
  scope : Scope
def fnScB (N P : List Str) (sc : Scope) : Bool := (match sc.kind with
  | .function => true
  | _ => false) && !sc.isCoroutine && !sc.isGenerator && decide N.Nodup && decide (N.take P.length = P) && (P.all fun x => decide (sc.names.lookup x = some .local) || decide (sc.names.lookup x = some .cell)) && sc.names.all fun y => decide (y.2 ≠ .free)
theorem fnScB_ok {N P : List Str} {sc : Scope} (h : fnScB N P sc = true) : FnScope N P sc := by
  unfold fnScB at h
  simp only [Bool.and_eq_true, Bool.not_eq_true', decide_eq_true_eq, List.all_eq_true, Bool.or_eq_true] at h
  obtain ⟨⟨⟨⟨⟨⟨h1, h2⟩, h3⟩, h4⟩, h5⟩, h6⟩, h7⟩ := h
  refine ⟨?_, h2, h3, h4, h5, h6, h7⟩
  split at h1
  · assumption
  · cases h1
def srcB (P : Tab) (e : Src) : Bool := fnScB e.N e.ps e.scope && chkSs P e.N e.scope e.D.body (nodoc e.body) && owD e.D && decide (e.D.n = e.N.length) && decide (e.D.ps = e.ps.length)
theorem outs_ok : ∀ {env : Env} {is : List Nat} {os : List AV}, outsOf env is = .ok os → os.length = is.length ∧ ∀ p ∈ is.zip os, env[p.1]? = some (some p.2) ∧ mutA p.2 = true
  | env, [], os, h => by cases h; exact ⟨rfl, fun p hp => by simp at hp⟩
  | env, i :: is, os, h => by
    obtain ⟨v, e1, h⟩ := R.bind_eq_ok (show (look env i >>= fun v => outsOf env is >>= fun vs => if mutA v then R.ok (v :: vs) else .bad) = .ok os from h)
    obtain ⟨vs, e2, h⟩ := R.bind_eq_ok h
    split at h
    · rename_i hm
      cases h
      obtain ⟨g1, g2⟩ := outs_ok e2
      refine ⟨by rw [List.length_cons, List.length_cons, g1], fun p hp => ?_⟩
      rcases List.mem_cons.mp (show p ∈ (i, v) :: is.zip vs from hp) with rfl | hp
      · exact ⟨look_ok e1, hm⟩
      · exact g2 p hp
    · cases h
theorem zip_idx {α β : Type} : ∀ {l : List α} {m : List β} {a : α} {b : β}, (a, b) ∈ l.zip m → ∃ i : Nat, l[i]? = some a ∧ m[i]? = some b
  | [], _, _, _, h => by simp at h
  | _ :: _, [], _, _, h => by simp at h
  | x :: l, y :: m, a, b, h => by
    rcases List.mem_cons.mp (show (a, b) ∈ (x, y) :: l.zip m from h) with h | h
    · cases h; exact ⟨0, rfl, rfl⟩
    · obtain ⟨i, h1, h2⟩ := zip_idx h
      exact ⟨i + 1, by simpa using h1, by simpa using h2⟩
theorem idx_zip {α β : Type} : ∀ {l : List α} {m : List β} {a : α} {b : β} {i : Nat}, l[i]? = some a → m[i]? = some b → (a, b) ∈ l.zip m
  | [], _, _, _, _, h, _ => by simp at h
  | _ :: _, [], _, _, _, _, h => by simp at h
  | x :: l, y :: m, a, b, 0, h1, h2 => by simp at h1 h2; subst h1; subst h2; exact List.mem_cons_self
  | x :: l, y :: m, a, b, i + 1, h1, h2 => List.mem_cons_of_mem _ (idx_zip (by simpa using h1) (by simpa using h2))
section
variable {K : PySem.W.Frag} {w : World}
/-- the state at a def's entry -/
theorem SR.entry {F H : Hp} {io : List Nat} {N : List Str} {n : Nat} {vs : List V} {ds : List AV} {as : List Addr} (hF : Same F H) (A : ArgOk K w F H io vs ds as) (hn : n = N.length) (hl : ds.length ≤ n) :
    SR K w (io.zip as) F F (fun a => if a ∈ as then none else H a) io (start N vs) H (ds.map some ++ List.replicate (n - ds.length) none) := by
  have σget : ∀ {i : Nat} {v : V}, vs[i]? = some v → (start N vs)[i]? = some (some v) := fun {i v} h => by
    have hi : i < vs.length := (List.getElem?_eq_some_iff.mp h).1
    unfold L2.start
    rw [List.getElem?_append_left (by simpa using hi), List.getElem?_map, h]
    rfl
  have eget : ∀ {i : Nat} {d : AV}, (ds.map some ++ List.replicate (n - ds.length) none)[i]? = some (some d) → ds[i]? = some d := fun {i d} h => by
    by_cases hi : i < ds.length
    · rw [List.getElem?_append_left (by simpa using hi), List.getElem?_map] at h
      cases q : ds[i]? with
      | none => rw [q] at h; cases h
      | some x => rw [q] at h; cases h; rfl
    · rw [List.getElem?_append_right (by simpa using hi), List.getElem?_replicate] at h
      split at h <;> cases h
  have ioat : ∀ {i : Nat}, i ∈ io → ∃ a, (i, a) ∈ io.zip as := fun {i} hi => by
    obtain ⟨j, hj, e⟩ := List.getElem_of_mem hi
    have hj2 : j < as.length := by rw [A.al]; exact hj
    exact ⟨as[j], idx_zip (i := j) (by rw [List.getElem?_eq_getElem hj, e]) (List.getElem?_eq_getElem hj2)⟩
  refine ⟨hF, fun b o e => ?_, Same.refl _, fun a o e => .inl e, fun i d e => ?_, fun i j a d e hi hj e1 e2 m1 m2 s1 s2 => ?_, ?_, fun p hp _ => ?_⟩
  · have e : (if b ∈ as then none else H b) = some o := e
    split at e
    · cases e
    · exact e
  · have hd := eget e
    have hil : i < vs.length := by rw [A.len]; exact (List.getElem?_eq_some_iff.mp hd).1
    refine ⟨vs[i], σget (List.getElem?_eq_getElem hil), fun hi => ?_, fun hi => A.rep i _ _ hi (List.getElem?_eq_getElem hil) hd⟩
    obtain ⟨a, ha⟩ := ioat hi
    obtain ⟨d2, g1, g2, g3, g4⟩ := A.own _ ha
    rw [List.getElem?_eq_getElem hil] at g1
    have g1 : vs[i] = .ref a := Option.some.inj g1
    have g2 : ds[i]? = some d2 := g2
    rw [hd] at g2
    cases g2
    rw [g1]
    exact g4.at (Same.refl _) fun b u eb _ f1 _ f3 => ⟨f1, by cases eb; exact if_pos (List.of_mem_zip ha).2, f3⟩
  · obtain ⟨x, hx⟩ := ioat hi
    obtain ⟨y, hy⟩ := ioat hj
    obtain ⟨d2, g1, _⟩ := A.own _ hx
    obtain ⟨d3, k1, _⟩ := A.own _ hy
    have g1 := σget g1
    have k1 := σget k1
    have g1 : (start N vs)[i]? = some (some (.ref x)) := g1
    have k1 : (start N vs)[j]? = some (some (.ref y)) := k1
    rw [s1] at g1
    rw [s2] at k1
    cases g1
    cases k1
    obtain ⟨p, p1, p2⟩ := zip_idx hx
    obtain ⟨q, q1, q2⟩ := zip_idx hy
    have hpl := (List.getElem?_eq_some_iff.mp p2).1
    have hql := (List.getElem?_eq_some_iff.mp q2).1
    have : p = q := by
      have e1 := (List.getElem?_eq_some_iff.mp p2).2
      have e2 := (List.getElem?_eq_some_iff.mp q2).2
      exact (List.getElem_inj A.nd).mp (e1.trans e2.symm)
    subst this
    rw [p1] at q1
    exact Option.some.inj q1
  · unfold L2.start
    rw [List.length_append, List.length_append, List.length_map, List.length_map, List.length_replicate, List.length_replicate, A.len, hn]
  · obtain ⟨d2, g1, _⟩ := A.own _ hp
    exact σget g1
/-- a def's body keeps the promise -/
theorem def_ok {P : Tab} {k : Nat} {e : Src} {prog : Program} {mg : Str → Option Value} {base : Heap} {fa : Addr} {fd : FuncData} (HR : ∀ c, Good P k c → Rls c) (hP : P e.id = some e.D) (hS : srcB P e = true) (F : FunD K e.x e.x e.params e.body e.scope [] [] fa fd)
    (fre : ∀ x ∈ bnames, mg x = none) (glo : ∀ y a, P.g y = some a → ∃ v u, mg y = some u ∧ RelV v u ∧ ∀ F, Rep K w F v a)
    (ih : ∀ f D, P f = some D → ∃ (fa : Addr) (fd : FuncData) (ps : List Str), FnOk prog w K mg base CX0 k fa fd ps (spD K w (callD P k f) D.io) ∧ mg (P.nm f) = some (.ref fa) ∧ PySem.W.keepIn K (.ref fa) = true ∧ Binds K fd ps []) :
    FnOk prog w K mg base CX0 (k + 1) fa fd e.ps (spD K w (callD P (k + 1) e.id) e.D.io) := by
  unfold srcB at hS
  simp only [Bool.and_eq_true, decide_eq_true_eq] at hS
  obtain ⟨⟨⟨⟨h1, h2⟩, h3⟩, h4⟩, h5⟩ := hS
  have S := fnScB_ok h1
  have hcall : ∀ ds, callD P (k + 1) e.id ds = runD (callD P k) e.D ds := fun ds => by
    show (match P e.id with
      | some D => runD (callD P k) D ds
      | none => .bad) = _
    rw [hP]
  have run_ok : ∀ {ds v outs}, runD (callD P k) e.D ds = .ok (v, outs) → ds.length = e.D.ps ∧ ∃ r, evSs (callD P k) e.D.body (ds.map some ++ List.replicate (e.D.n - e.D.ps) none) = .ok r ∧ ((∃ env, r = .rt v env ∧ outsOf env e.D.io = .ok outs) ∨ (∃ env, r = .nx env ∧ v = .none ∧ outsOf env e.D.io = .ok outs)) := fun {ds v outs} h => by
    unfold runD at h
    split at h
    · rename_i hl
      obtain ⟨r, er, h⟩ := R.bind_eq_ok h
      refine ⟨hl, r, er, ?_⟩
      cases r with
      | rt u env =>
        obtain ⟨os, eo, h⟩ := R.bind_eq_ok (show (outsOf env e.D.io >>= fun os => R.ok (u, os)) = .ok (v, outs) from h)
        cases h
        exact .inl ⟨env, rfl, eo⟩
      | nx env =>
        obtain ⟨os, eo, h⟩ := R.bind_eq_ok (show (outsOf env e.D.io >>= fun os => R.ok (PyData.none, os)) = .ok (v, outs) from h)
        cases h
        exact .inr ⟨env, rfl, rfl, eo⟩
      | bk env => cases h
      | ct env => cases h
    · cases h
  have psN : e.ps.length ≤ e.N.length := by have := congrArg List.length S.pre; rw [List.length_take] at this; omega
  refine F.ok S (fun vs H Q E h => ?_) fun cdv A outer s H vs Q E hr h => ⟨rdSs K w (callD P k) e.D.io e.D.body, PSs.nox (pss_nodoc (ok_Ss HR e.D.body ⟨⟨S.nd, rfl, hr, fre, ih, glo⟩, rfl, S.kind, rfl⟩ h2)), ?_⟩
  · obtain ⟨F1, ds, as, v, outs, _, Ar, ef, _⟩ := h
    rw [hcall] at ef
    rw [Ar.len, (run_ok ef).1, h5]
  · obtain ⟨F1, ds, as, v, outs, hF, Ar, ef, q⟩ := h
    rw [hcall] at ef
    obtain ⟨hl, r, er, hr2⟩ := run_ok ef
    rw [← hl] at er
    unfold owD at h3
    cases ho : owSs e.D.io e.D.io e.D.body with
    | none => rw [ho] at h3; cases h3
    | some fl =>
      rw [ho] at h3
      have h3 : keeps e.D.io fl.nx = true := h3
      have ent := SR.entry (N := e.N) (n := e.D.n) hF Ar h4 (by omega)
      refine ⟨e.D.io.zip as, F1, F1, _, e.D.io, _, r, fl, fun p hp => (List.of_mem_zip hp).1, ent, er, ho, ?_⟩
      -- the end: what the caller wants
      have fin : ∀ (env : Env) (O' : Sl) (x : V) (d : AV) (σ' : L2.St) (F' H' : Hp), outsOf env e.D.io = .ok outs → (∀ i ∈ e.D.io, i ∈ O') → SR K w (e.D.io.zip as) F1 F' (fun a => if a ∈ as then none else H a) O' σ' H' env → Same F1 F' → Rep K w F' x d → d = v → Q x H' := fun env O' x d σ' F' H' eo hi S' f' rx hd => by
        subst hd
        obtain ⟨ol, og⟩ := outs_ok eo
        have own : ∀ (a : Addr) (j : Nat), as[j]? = some a → ∃ i d, e.D.io[j]? = some i ∧ outs[j]? = some d ∧ OwnV K w F' (fun _ => none) H' (.ref a) d ∧ F' a = none := fun a j hj => by
          have hjl : j < as.length := (List.getElem?_eq_some_iff.mp hj).1
          have hj2 : j < e.D.io.length := by rw [← Ar.al]; exact hjl
          have hj3 : j < outs.length := by rw [ol]; exact hj2
          have hio := idx_zip (List.getElem?_eq_getElem hj2) hj
          have hou := idx_zip (List.getElem?_eq_getElem hj2) (List.getElem?_eq_getElem hj3)
          obtain ⟨o1, o2⟩ := og _ hou
          have hin : e.D.io[j] ∈ O' := hi _ (List.getElem_mem hj2)
          obtain ⟨u, g1, g2, _⟩ := S'.slot _ _ o1
          have g3 := S'.io _ hio hin
          rw [g1] at g3
          cases g3
          have ow := g2 hin
          obtain ⟨n1, _⟩ := ow.none_of rfl o2
          exact ⟨_, _, List.getElem?_eq_getElem hj2, List.getElem?_eq_getElem hj3, ow.bare, n1⟩
        refine q x F' H' f' S'.fh (fun a o ha => ?_) (fun a o ha hn => S'.bh a o ((if_neg hn).trans ha)) (fun p hp => ?_) rx
        · rcases S'.fb a o ha with z | z
          · exact .inl z
          · have z : (if a ∈ as then none else H a) = none := z
            split at z
            · rename_i hm
              obtain ⟨j, hj, ej⟩ := List.getElem_of_mem hm
              obtain ⟨_, _, _, _, _, n1⟩ := own a j (by rw [List.getElem?_eq_getElem hj, ej])
              rw [n1] at ha; cases ha
            · exact .inr z
        · obtain ⟨j, j1, j2⟩ := zip_idx (a := p.1) (b := p.2) hp
          obtain ⟨_, d2, _, k2, k3, _⟩ := own p.1 j j1
          rw [j2] at k2
          cases k2
          exact k3
      rcases hr2 with ⟨env, rfl, eo⟩ | ⟨env, rfl, rfl, eo⟩
      · exact fun O' x σ' F' H' hi S' f' rx => fin env O' x v σ' F' H' eo hi S' f' rx rfl
      · exact fun O' hO σ' F' H' S' f' => fin env O' .non .none σ' F' H' eo (keeps_some h3 hO) S' f' .non rfl
/-- all defs, by the depth of their calls -/
theorem all_ok {P : Tab} {prog : Program} {mg : Str → Option Value} {base : Heap} (HR : ∀ k c, Good P k c → Rls c) (fre : ∀ x ∈ bnames, mg x = none) (glo : ∀ y a, P.g y = some a → ∃ v u, mg y = some u ∧ RelV v u ∧ ∀ F, Rep K w F v a)
    (hT : ∀ f D, P f = some D → ∃ (e : Src) (fa : Addr) (fd : FuncData), e.id = f ∧ e.D = D ∧ srcB P e = true ∧ FunD K e.x e.x e.params e.body e.scope [] [] fa fd ∧ mg (P.nm f) = some (.ref fa) ∧ Binds K fd e.ps []) :
    ∀ (k : Nat) (f : Nat) (D : Def), P f = some D → ∃ (fa : Addr) (fd : FuncData) (ps : List Str), FnOk prog w K mg base CX0 k fa fd ps (spD K w (callD P k f) D.io) ∧ mg (P.nm f) = some (.ref fa) ∧ PySem.W.keepIn K (.ref fa) = true ∧ Binds K fd ps []
  | 0, f, D, hP => by
    obtain ⟨e, fa, fd, rfl, rfl, hS, F, hm, hb⟩ := hT f D hP
    refine ⟨fa, fd, e.ps, ⟨fun vs H Q E h => ?_, fun A outer s H args us vs Q E _ _ _ _ h => ?_⟩, hm, F.kp, hb⟩
    · obtain ⟨_, _, _, _, _, _, _, ef, _⟩ := h
      cases ef
    · obtain ⟨_, _, _, _, _, _, _, ef, _⟩ := h
      cases ef
  | k + 1, f, D, hP => by
    obtain ⟨e, fa, fd, rfl, rfl, hS, F, hm, hb⟩ := hT f D hP
    exact ⟨fa, fd, e.ps, def_ok (HR k) hP hS F fre glo (all_ok HR fre glo hT k), hm, F.kp, hb⟩
end
/-! ### a law's end -/
theorem lstX_of {K : PySem.W.Frag} {h : Heap} {H : Hp} {a : Addr} {vs : List Value} {ns : List Int} (KX : K.In h) (ho : h.get? a = some { cls := .type "list", data := .seq vs.toArray }) (hi : IntsAre vs ns) (hl : ns.length ≤ sizeLine) (hS : SqL K H a (ns.map V.int)) : LstX K H a (ns.map V.int) := by
  rcases hS with hS | ⟨o, its, n, hk, _, _, hd, hz, rv⟩
  · exact .inl hS
  · have e := KX a o hk
    rw [ho] at e
    cases e
    exact .inr ⟨vs, _, hk, by rw [hi.length]; exact hl, vals_ints hi⟩
theorem rep_ints {K : PySem.W.Frag} {w : World} {F : Hp} : ∀ ns : List Int, RepL K w F (ns.map V.int) (ns.map PyData.int)
  | [] => .nil
  | n :: ns => .cons (.int n) (rep_ints ns)
/-- the law's own promise at its script -/
theorem law_sp {K : PySem.W.Frag} {w : World} {f : List AV → R (AV × List AV)} {H : Hp} {a : Addr} {ns : List Int} {E : XK} (h : f [.list (ns.map .int)] = .ok (.bool true, [])) (hS : LstX K H a (ns.map V.int)) : spD K w f [] [.ref a] H (fun v _ => v = .bl true) E := by
  refine ⟨H, [.list (ns.map .int)], [], _, [], Same.refl _, ⟨rfl, fun j v d _ e1 e2 => ?_, fun p hp => by simp at hp, rfl, List.nodup_nil⟩, h, fun r F' H' _ _ _ _ _ hr => by cases hr; rfl⟩
  cases j with
  | zero => simp at e1 e2; subst e1; subst e2; exact .lst hS (rep_ints ns)
  | succ j => simp at e1
theorem walk_ofX {l : PySem.W.OpenLaw} {n k : Nat} {q : Program} {loose : List Str} {XP : (Str → Option Value) → Heap → Prop} {YP : World → Heap → Prop} {d : DefRec} {x : Str} {f : List AV → R (AV × List AV)}
    (hn : l.most = some n) (hn2 : n ≤ sizeLine) (hdf : d.params.defaults = []) (hr : Room k callerA) (hf : ∀ ns : List Int, ns.length ≤ n → f [.list (ns.map .int)] = .ok (.bool true, []))
    (G : ∀ (w : World) (mg : Str → Option Value) (fa : Addr) (h : Heap), YP w h → h.Ns mainGlobals mg → mg d.name = some (.ref fa) →
      ∃ (K : PySem.W.Frag) (fd : FuncData), K.In h ∧ (∀ (s : Shared) (u : Value), BindsTo s fd ⟨[u], []⟩ [(x, u)]) ∧ ∀ base : Heap, K.In base → base.Ns mainGlobals mg → FnOk l.prog w K mg base CX0 k fa fd [x] (spD K w f [])) :
    PySem.W.WalkO q loose XP YP l.row.toRowW d [] (fun f vs => PySem.call f vs) := by
  refine Att.attach_call hn hdf fun w t₀ t₁ mg mb fa o pm cd doc a vs ns Gr Y ho hd hcd hmg hob hin hle hge => ?_
  obtain ⟨K, fd, KX, hb, hF⟩ := G w mg fa _ Y Gr.T.g hmg
  have hz := Nat.le_trans hle hn2
  exact law_call KX Gr.T.g Gr.T.b Gr.T.builtins Gr.T.nolimit hge hob hin hz hr hF hb (fun H _ hS => law_sp (hf ns hle) (lstX_of KX hob hin hz hS)) fun H e s' z => z
end Ev
end
section
set_option linter.all false
set_option autoImplicit false
set_option maxRecDepth 100000
set_option maxHeartbeats 2000000
/-! EvV: built-ins by values. -/
namespace Ev
open PySem PySem.Spec PyProof.Rows L2
section
variable {X : Cx}
theorem op_fdivE {b : Bool} : OpR X (binaryOp .FloorDiv) (rOp X.K X.w (binop .fdiv) b) := by
  intro pins s σ H x y v u Q I rx ry ⟨F, dx, dy, d, hF, ox, oy, e, q⟩
  cases dx with
  | int i => cases dy with
    | int j =>
      have ex := ox.intE; have ey := oy.intE; subst ex ey
      have e' : (if (decide (j ≠ 0) && decide (j.natAbs < 1073741824)) = true then R.ok (PyData.int (i.fdiv j)) else if (decide (0 < j) && wide i && wide j) = true then .ok (.int (i.fdiv j)) else .bad) = .ok d := e
      split at e'
      · rename_i hc
        cases e'
        simp only [Bool.and_eq_true, decide_eq_true_eq] at hc
        exact op_fdivN pins s σ H _ _ v u Q I rx ry ⟨i, j, rfl, rfl, hc, q.imm rfl hF (.int _)⟩
      · split at e'
        · rename_i hc
          cases e'
          simp only [Bool.and_eq_true, decide_eq_true_eq] at hc
          refine op_fdivW pins s σ H _ _ v u Q I rx ry ⟨i, j, rfl, rfl, ⟨hc.1.1, by have := wide_of hc.2; omega⟩, ?_⟩
          have ed : i.fdiv j = i / j := Int.fdiv_eq_ediv_of_nonneg i (by omega)
          rw [ed] at q
          exact q.imm rfl hF (.int _)
        · cases e'
    | _ => simp [binop] at e
  | _ => cases dy <;> simp [binop] at e
theorem op_modE {b : Bool} : OpR X (binaryOp .Mod) (rOp X.K X.w (binop .mod) b) := by
  intro pins s σ H x y v u Q I rx ry ⟨F, dx, dy, d, hF, ox, oy, e, q⟩
  cases dx with
  | int i => cases dy with
    | int j =>
      have ex := ox.intE; have ey := oy.intE; subst ex ey
      have e' : (if decide (j ≠ 0) = true then R.ok (PyData.int (i.fmod j)) else .bad) = .ok d := e
      split at e'
      · rename_i hc
        cases e'
        exact op_modN pins s σ H _ _ v u Q I rx ry ⟨i, j, rfl, rfl, of_decide_eq_true hc, q.imm rfl hF (.int _)⟩
      · cases e'
    | _ => simp [binop] at e
  | _ => cases dy <;> simp [binop] at e
theorem op_powE {b : Bool} : OpR X (binaryOp .Pow) (rOp X.K X.w (binop .pow) b) := by
  intro pins s σ H x y v u Q I rx ry ⟨F, dx, dy, d, hF, ox, oy, e, q⟩
  cases dx with
  | int i => cases dy with
    | int j =>
      have ex := ox.intE; have ey := oy.intE; subst ex ey
      have e' : (if (decide (0 ≤ j) && decide (j ≤ 1000) && smallI i) = true then R.ok (PyData.int (i ^ j.toNat)) else .bad) = .ok d := e
      split at e'
      · rename_i hc
        cases e'
        simp only [Bool.and_eq_true, decide_eq_true_eq] at hc
        have hs := small_of hc.2
        exact op_pow pins s σ H _ _ v u Q I rx ry ⟨i, j, rfl, rfl, ⟨hc.1.1, by omega, by omega⟩, q.imm rfl hF (.int _)⟩
      · cases e'
    | _ => simp [binop] at e
  | _ => cases dy <;> simp [binop] at e
theorem key_rep {F H : Hp} {x : V} {dx : AV} {tk : Bool} {L : List Ent} {kvs : List (AV × AV)} (r : RepD X.K X.w F tk L kvs) (hc : kindOk kvs dx = true) (o : Opd X.K X.w F H x dx) : Rep X.K X.w F x dx := by
  rcases r.kind hc with ⟨h, _⟩ | ⟨h, _⟩ <;> cases dx <;> first | exact o | cases h
theorem in_seq {neg : Bool} (hu : X.A.units + 65 < cLine) {pins : List (Addr × Obj)} {s : Shared} {σ : L2.St} {H F : Hp} {x y : V} {v u : Value} {Q : VK} {dx dy d : AV} {b : Bool} (I : Inv X pins σ H s) (rx : RelV x v) (ry : RelV y u) (hF : Same F H) (ox : Opd X.K X.w F H x dx) (oy : Opd X.K X.w F H y dy)
    {k : Bool} (e : inop dx dy = .ok k) (q : Res X.K X.w b F H (.bool (if neg then !k else k)) Q) : wpAny (model X.prog X.w) X.A (compareOp (if neg then .NotIn else .In) v u) (EP X pins σ Q) X.xe s := by
  have fin : ∀ r : Bool, r = (if neg then !k else k) → EP X pins σ Q (.bool r) s := fun r hr => by subst hr; exact ⟨.bl _, H, I, rfl, q.imm rfl hF (.bl _)⟩
  cases dy with
  | list xs =>
    have e : (if (dx.plain && PyData.plainAll xs && decide (Nat.min (PyData.depthAll xs) dx.depth ≤ 48)) = true then R.ok (xs.any fun y => PyData.eqv y dx) else .bad) = .ok k := e
    split at e
    · rename_i hc
      cases e
      simp only [Bool.and_eq_true, decide_eq_true_eq] at hc
      obtain ⟨as, r1⟩ := ox.reads I hF hc.1.1 rx
      obtain ⟨bs, r2⟩ := oy.reads I hF (by simpa [PyData.plain] using hc.1.2) ry
      have hd : min (PyData.depthAll xs) dx.depth ≤ 48 := hc.2
      cases neg with
      | false => exact SeqAt.in_list_data r2 r1 hc.1.2 hc.1.1 (by omega) (fin _ rfl)
      | true => exact SeqAt.notIn_list_data r2 r1 hc.1.2 hc.1.1 (by omega) (fin _ rfl)
    · cases e
  | tuple xs =>
    have e : (if (dx.plain && PyData.plainAll xs && decide (Nat.min (PyData.depthAll xs) dx.depth ≤ 48)) = true then R.ok (xs.any fun y => PyData.eqv y dx) else .bad) = .ok k := e
    split at e
    · rename_i hc
      cases e
      simp only [Bool.and_eq_true, decide_eq_true_eq] at hc
      obtain ⟨as, r1⟩ := ox.reads I hF hc.1.1 rx
      obtain ⟨bs, r2⟩ := oy.reads I hF (by simpa [PyData.plain] using hc.1.2) ry
      have hd : min (PyData.depthAll xs) dx.depth ≤ 48 := hc.2
      cases neg with
      | false => exact SeqAt.in_tuple_data r2 r1 hc.1.2 hc.1.1 (by omega) (fin _ rfl)
      | true => exact SeqAt.notIn_tuple_data r2 r1 hc.1.2 hc.1.1 (by omega) (fin _ rfl)
    · cases e
  | str z => cases dx with
    | str a =>
      have ex := ox.strE; have ey := oy.strE; subst ex ey
      cases e
      cases neg with
      | false => exact op_in_str pins s σ H _ _ v u Q I rx ry ⟨a, z, rfl, rfl, q.imm rfl hF (.bl _)⟩
      | true => exact op_notin_str pins s σ H _ _ v u Q I rx ry ⟨a, z, rfl, rfl, q.imm rfl hF (.bl _)⟩
    | _ => cases e
  | dict kvs =>
    have e : (if kindOk kvs dx = true then R.ok (dget kvs dx).isSome else .bad) = .ok k := e
    split at e
    · rename_i hc
      cases e
      obtain ⟨a, ep, L, tk, rfl, hq, hr⟩ := oy
      cases (show u = Value.ref a from ry)
      refine dict_in (X := X) (F := F) (by omega) I hF hq hr hc (key_rep hr hc ox) rx neg fun s' I' => ⟨.bl _, H, I', rfl, q.imm rfl hF (.bl _)⟩
    · cases e
  | _ => cases e
theorem op_inE {b : Bool} (hu : X.A.units + 65 < cLine) : OpR X (compareOp .In) (rOp X.K X.w (cmpop .in_) b) := by
  intro pins s σ H x y v u Q I rx ry ⟨F, dx, dy, d, hF, ox, oy, e, q⟩
  obtain ⟨k, e1, e2⟩ := R.bind_eq_ok (show (inop dx dy >>= fun k => R.ok (PyData.bool k)) = .ok d from e)
  cases e2
  exact in_seq (neg := false) (d := .none) hu I rx ry hF ox oy e1 q
theorem op_ninE {b : Bool} (hu : X.A.units + 65 < cLine) : OpR X (compareOp .NotIn) (rOp X.K X.w (cmpop .nin) b) := by
  intro pins s σ H x y v u Q I rx ry ⟨F, dx, dy, d, hF, ox, oy, e, q⟩
  obtain ⟨k, e1, e2⟩ := R.bind_eq_ok (show (inop dx dy >>= fun k => R.ok (PyData.bool (!k))) = .ok d from e)
  cases e2
  exact in_seq (neg := true) (d := .none) hu I rx ry hF ox oy e1 q
theorem ix_E (hu : X.A.units + 64 < cLine) : IxR X (rOp X.K X.w idxop false) := by
  intro value slice pins s σ H x y v u Q I rx ry ⟨F, dx, dy, d, hF, ox, oy, e, q⟩ hs
  cases dx with
  | list xs => cases dy with
    | int i =>
      have ey := oy.intE; subst ey
      obtain ⟨a, us, rfl, hq, hr⟩ := ox.listE
      have e : (match ixOf xs.length i with
        | some k => match xs[k]? with
          | some v => R.ok v
          | none => .bad
        | none => .bad) = .ok d := e
      cases hk : ixOf xs.length i with
      | none => rw [hk] at e; cases e
      | some k =>
        rw [hk] at e
        have e : (match xs[k]? with
          | some v => R.ok v
          | none => .bad) = .ok d := e
        cases hx : xs[k]? with
        | none => rw [hx] at e; cases e
        | some z =>
          rw [hx] at e
          cases e
          obtain ⟨zv, g1, g2⟩ := hr.get hx
          refine ix_list value slice pins s σ H _ _ v u Q I rx ry ⟨a, us, i, zv, rfl, rfl, hq.sql, ?_, q.old hF g2⟩ hs
          unfold atI
          rw [hr.length, ← ixOf_eq, hk]
          exact g1
    | _ => simp [idxop] at e
  | tuple xs => cases dy with
    | int i =>
      have ey := oy.intE; subst ey
      obtain ⟨a, us, rfl, hq, hr⟩ := ox.tupE
      have e : (match ixOf xs.length i with
        | some k => match xs[k]? with
          | some v => R.ok v
          | none => .bad
        | none => .bad) = .ok d := e
      cases hk : ixOf xs.length i with
      | none => rw [hk] at e; cases e
      | some k =>
        rw [hk] at e
        have e : (match xs[k]? with
          | some v => R.ok v
          | none => .bad) = .ok d := e
        cases hx : xs[k]? with
        | none => rw [hx] at e; cases e
        | some z =>
          rw [hx] at e
          cases e
          obtain ⟨zv, g1, g2⟩ := hr.get hx
          refine ix_tup value slice pins s σ H _ _ v u Q I rx ry ⟨a, us, i, zv, rfl, rfl, Same.tup hF hq, ?_, q.old hF g2⟩ hs
          unfold atI
          rw [hr.length, ← ixOf_eq, hk]
          exact g1
    | _ => simp [idxop] at e
  | dict kvs =>
    have e : (if kindOk kvs dy = true then (match dget kvs dy with
      | some v => R.ok v
      | none => .bad) else .bad) = .ok d := by cases dy <;> exact e
    split at e
    · rename_i hc
      cases hg : dget kvs dy with
      | none => rw [hg] at e; cases e
      | some z =>
        rw [hg] at e
        cases e
        obtain ⟨a, ep, L, tk, rfl, hq, hr⟩ := ox
        obtain rfl : v = Value.ref a := rx
        exact tail_any (dict_is I hF hq hr) PySem.F.slot_dict_getitem.lookup (dict_get (X := X) (F := F) (by omega) I hF hq hr hc (key_rep hr hc oy) ry hg fun s' vv w' I' r1 r2 => ⟨vv, H, I', r2, q.old hF r1⟩) hs
    · cases e
  | _ => cases dy <;> simp [idxop] at e
theorem slIx_eq (n d : Nat) (o : Option Int) : slIx n d o = HT.sIx n d o := by
  cases o with
  | none => rfl
  | some i => rfl
theorem RepL.cut {K : PySem.W.Frag} {w : World} {F : Hp} {us : List V} {xs : List AV} {lo hi : Option Int} (r : RepL K w F us xs) : RepL K w F (cutV us lo hi) (cutL xs lo hi) := by
  unfold cutV cutL
  rw [slIx_eq, slIx_eq, r.length]
  exact (r.drop _).take _
theorem sl_E {b : Bool} : SlR X (rSlc X.K X.w b) := by
  intro pins s σ H x v vl vu lo hi sl Q I rx hs pl pu ⟨F, dx, d, hF, ox, e, q⟩
  cases dx with
  | list xs =>
    obtain ⟨a, us, rfl, hq, hr⟩ := ox.listE
    cases e
    exact sl_list pins s σ H _ v vl vu lo hi sl Q I rx hs pl pu ⟨a, us, rfl, hq.sql, fun p hp => q.newL hF hr.cut hp⟩
  | tuple xs =>
    obtain ⟨a, us, rfl, hq, hr⟩ := ox.tupE
    cases e
    refine sl_tupA pins s σ H _ v vl vu lo hi sl Q I rx hs pl pu ⟨a, us, rfl, Same.tup hF hq, fun hw => ?_, fun _ p hp => q.newT hF hr.cut hp⟩
    have e1 : cutL xs lo hi = xs := by
      have hw' := hw
      rw [hr.length, ← slIx_eq, ← slIx_eq] at hw'
      unfold cutL
      rw [hw'.1, hw'.2]
      simp
    rw [e1] at q
    exact q.imm rfl hF (.tup hq hr)
  | _ => cases e
/-! ### built-ins with one argument -/
/-- from a rule by values to the call's reading -/
theorem callB1 {f : AV → R AV} {b : Bool} {nm : Str} {id : String} {l : Expr} {t : TE} {p pos : Pos} (h : CallR X (.builtin id) (fun vs H Q => ∃ x, vs = [x] ∧ rUn X.K X.w f b x H Q)) (hg : Gl X nm) (hm : X.mg nm = none) (hv : bootBuiltins nm = some (.builtin id)) (hl : PE X l t) (hs : stE l = false)
    (hn : nm ≠ "__name__") (hd : (nm == ("__debug__" : Str)) = false) : PE X (.Call (.Name nm p) [l] [] pos) (tUn (rUn X.K X.w f b) t) :=
  (pe_callB h hg hm hv (pa_cons hl pa_nil (star_plain hs)) hn hd (star_plain hs) rfl).imp fun σ H Q q => by
    have q : t σ H fun x H1 => rUn X.K X.w f b x H1 Q := q
    show t σ H fun x H1 => ∃ y, [x] = [y] ∧ rUn X.K X.w f b y H1 Q
    have e : (fun x H1 => rUn X.K X.w f b x H1 Q) = fun x H1 => ∃ y, [x] = [y] ∧ rUn X.K X.w f b y H1 Q := by
      funext x H1
      exact propext ⟨fun h => ⟨x, rfl, h⟩, fun ⟨y, e, h⟩ => by cases e; exact h⟩
    rw [← e]
    exact q
theorem callT1 {f : AV → R AV} {b : Bool} {nm : Str} {T : String} {l : Expr} {t : TE} {p pos : Pos} (h : CallR X (.type T) (fun vs H Q => ∃ x, vs = [x] ∧ rUn X.K X.w f b x H Q)) (hg : Gl X nm) (hm : X.mg nm = none) (hv : bootBuiltins nm = some (.type T)) (hl : PE X l t) (hs : stE l = false)
    (hn : nm ≠ "__name__") (hd : (nm == ("__debug__" : Str)) = false) : PE X (.Call (.Name nm p) [l] [] pos) (tUn (rUn X.K X.w f b) t) :=
  (pe_callTy h hg hm hv (pa_cons hl pa_nil (star_plain hs)) hn hd (star_plain hs) rfl).imp fun σ H Q q => by
    have q : t σ H fun x H1 => rUn X.K X.w f b x H1 Q := q
    show t σ H fun x H1 => ∃ y, [x] = [y] ∧ rUn X.K X.w f b y H1 Q
    have e : (fun x H1 => rUn X.K X.w f b x H1 Q) = fun x H1 => ∃ y, [x] = [y] ∧ rUn X.K X.w f b y H1 Q := by
      funext x H1
      exact propext ⟨fun h => ⟨x, rfl, h⟩, fun ⟨y, e, h⟩ => by cases e; exact h⟩
    rw [← e]
    exact q
theorem ints_rep {K : PySem.W.Frag} {w : World} {F : Hp} : ∀ {xs : List AV} {is : List Int} {us : List V}, ints? xs = some is → RepL K w F us xs → us = is.map V.int
  | [], is, us, h, r => by cases h; cases r; rfl
  | x :: xs, is, us, h, r => by
    cases x with
    | int i =>
      have h : (ints? xs).map (i :: ·) = some is := h
      cases hx : ints? xs with
      | none => rw [hx] at h; cases h
      | some js =>
        rw [hx] at h
        cases h
        cases r with
        | cons r1 r2 =>
          cases r1
          rw [ints_rep hx r2]
          rfl
    | _ => cases h
theorem bools_rep {K : PySem.W.Frag} {w : World} {F : Hp} : ∀ {xs : List AV} {is : List Bool} {us : List V}, bools? xs = some is → RepL K w F us xs → us = is.map V.bl
  | [], is, us, h, r => by cases h; cases r; rfl
  | x :: xs, is, us, h, r => by
    cases x with
    | bool i =>
      have h : (bools? xs).map (i :: ·) = some is := h
      cases hx : bools? xs with
      | none => rw [hx] at h; cases h
      | some js =>
        rw [hx] at h
        cases h
        cases r with
        | cons r1 r2 =>
          cases r1
          rw [bools_rep hx r2]
          rfl
    | _ => cases h
abbrev r1E (X : Cx) (f : Blt) (b : Bool) : List V → Hp → VK → Prop := fun vs H Q => ∃ x, vs = [x] ∧ rUn X.K X.w (fun x => bltop f [x]) b x H Q
theorem cr_lenE {b : Bool} : CallR X (.builtin "len") (r1E X .len b) := by
  intro pins s σ H xs us Q I r ⟨x, hx, F, dx, d, hF, ox, e, q⟩
  subst hx
  cases dx with
  | list ds =>
    refine call_len pins s σ H _ us Q I r ?_
    obtain ⟨a, vs, rfl, hq, hr⟩ := ox.listE
    cases e
    exact ⟨_, vs.length, rfl, .inl ⟨vs, hq.sql, rfl⟩, by rw [hr.length]; exact q.imm rfl hF (.int _)⟩
  | tuple ds =>
    refine call_len pins s σ H _ us Q I r ?_
    obtain ⟨a, vs, rfl, hq, hr⟩ := ox.tupE
    cases e
    exact ⟨_, vs.length, rfl, .inr ⟨vs, Same.tup hF hq, rfl⟩, by rw [hr.length]; exact q.imm rfl hF (.int _)⟩
  | str z =>
    refine call_len pins s σ H _ us Q I r ?_
    have ex := ox.strE; subst ex
    have e : (if z.length ≤ line then R.ok (PyData.int z.length) else .bad) = .ok d := e
    split at e
    · rename_i hz
      cases e
      exact ⟨_, z.length, rfl, ⟨by rw [← line_eq]; exact hz, rfl⟩, q.imm rfl hF (.int _)⟩
    · cases e
  | dict kvs =>
    obtain ⟨a, o, L, tk, rfl, hd, rd⟩ := ox
    cases e
    exact call_lenT pins s σ H _ us Q I r ⟨a, o, L, rfl, hd, by rw [rd.length]; exact q.imm rfl hF (.int _)⟩
  | _ => cases e
theorem cr_sumE {b : Bool} (hc : X.calm = true) : CallR X (.builtin "sum") (r1E X .sum b) := by
  intro pins s σ H xs us Q I r ⟨x, hx, F, dx, d, hF, ox, e, q⟩
  subst hx
  cases dx with
  | list ds =>
    obtain ⟨a, vs, rfl, hq, hr⟩ := ox.listE
    have e : (match ints? ds with
      | some is => R.ok (PyData.int is.sum)
      | none => .bad) = .ok d := e
    cases hi : ints? ds with
    | none => rw [hi] at e; cases e
    | some is =>
      rw [hi] at e
      cases e
      have hv := ints_rep hi hr
      subst hv
      exact cr_sum hc pins s σ H _ us Q I r ⟨a, is, rfl, hq.sql, q.imm rfl hF (.int _)⟩
  | tuple ds =>
    obtain ⟨a, vs, rfl, hq, hr⟩ := ox.tupE
    have e : (match ints? ds with
      | some is => R.ok (PyData.int is.sum)
      | none => .bad) = .ok d := e
    cases hi : ints? ds with
    | none => rw [hi] at e; cases e
    | some is =>
      rw [hi] at e
      cases e
      have hv := ints_rep hi hr
      subst hv
      obtain ⟨its, rv, ht, hz⟩ := I.tuple (Same.tup hF hq)
      have hia := rv.ints
      obtain ⟨xs, hx⟩ := hia.allInts.items
      have hn : numsOf its.toArray.toList = is := by rw [show its.toArray.toList = its from rfl, hia.numsOf]
      have ht : s.heap.IsTuple a its.toArray := ht
      rw [hx] at ht hn
      rw [nums_intItems] at hn
      rw [Vals.ref1 r]
      refine PySem.W.ktm_sumG (I.ok.hd hc) ht fun h' tk t' hk => ?_
      rw [preSum_eq, List.take_of_length_le (by simp), hn]
      exact ⟨.int _, H, I.kept hk, ⟨_, rfl⟩, q.imm rfl hF (.int _)⟩
  | _ => cases e
theorem cr_allE {b : Bool} (hc : X.calm = true) : CallR X (.builtin "all") (r1E X .all b) := by
  intro pins s σ H xs us Q I r ⟨x, hx, F, dx, d, hF, ox, e, q⟩
  subst hx
  cases dx with
  | list ds =>
    obtain ⟨a, vs, rfl, hq, hr⟩ := ox.listE
    have e : (match bools? ds with
      | some is => R.ok (PyData.bool (is.all id))
      | none => .bad) = .ok d := e
    cases hi : bools? ds with
    | none => rw [hi] at e; cases e
    | some is =>
      rw [hi] at e
      cases e
      have hv := bools_rep hi hr
      subst hv
      exact cr_all hc pins s σ H _ us Q I r ⟨a, is, rfl, hq.sql, q.imm rfl hF (.bl _)⟩
  | _ => cases e
theorem cr_anyE {b : Bool} (hc : X.calm = true) : CallR X (.builtin "any") (r1E X .any b) := by
  intro pins s σ H xs us Q I r ⟨x, hx, F, dx, d, hF, ox, e, q⟩
  subst hx
  cases dx with
  | list ds =>
    obtain ⟨a, vs, rfl, hq, hr⟩ := ox.listE
    have e : (match bools? ds with
      | some is => R.ok (PyData.bool (is.any id))
      | none => .bad) = .ok d := e
    cases hi : bools? ds with
    | none => rw [hi] at e; cases e
    | some is =>
      rw [hi] at e
      cases e
      have hv := bools_rep hi hr
      subst hv
      exact cr_any hc pins s σ H _ us Q I r ⟨a, is, rfl, hq.sql, q.imm rfl hF (.bl _)⟩
  | _ => cases e
theorem cr_listE (hc : X.calm = true) {b : Bool} : CallR X (.type "list") (r1E X .list b) := by
  intro pins s σ H xs us Q I r ⟨x, hx, F, dx, d, hF, ox, e, q⟩
  subst hx
  cases dx with
  | list ds =>
    obtain ⟨a, vs, rfl, hq, hr⟩ := ox.listE
    cases e
    exact call_list_of pins s σ H _ us Q I r ⟨a, vs, rfl, .inl hq.sql, fun p hp => q.newL hF hr hp⟩
  | tuple ds =>
    obtain ⟨a, vs, rfl, hq, hr⟩ := ox.tupE
    cases e
    exact call_list_of pins s σ H _ us Q I r ⟨a, vs, rfl, .inr (Same.tup hF hq), fun p hp => q.newL hF hr hp⟩
  | dict ds =>
    obtain ⟨a, ep, L, tk, rfl, hq, hr⟩ := ox
    cases e
    exact call_listT hc pins s σ H _ us Q I r ⟨a, ep, L, rfl, hq, fun p hp => q.newL hF hr.keysV hp⟩
  | _ => cases e
theorem cr_tupleE {b : Bool} : CallR X (.type "tuple") (r1E X .tuple b) := by
  intro pins s σ H xs us Q I r ⟨x, hx, F, dx, d, hF, ox, e, q⟩
  subst hx
  cases dx with
  | list ds =>
    obtain ⟨a, vs, rfl, hq, hr⟩ := ox.listE
    cases e
    exact call_tuple_of pins s σ H _ us Q I r ⟨a, vs, rfl, .inl ⟨hq.sql, fun p hp => q.newT hF hr hp⟩⟩
  | tuple ds =>
    obtain ⟨a, vs, rfl, hq, hr⟩ := ox.tupE
    cases e
    exact call_tuple_of pins s σ H _ us Q I r ⟨a, vs, rfl, .inr ⟨Same.tup hF hq, q.imm rfl hF (.tup hq hr)⟩⟩
  | _ => cases e
theorem cr_intE {b : Bool} : CallR X (.type "int") (r1E X .int b) := by
  intro pins s σ H xs us Q I r ⟨x, hx, F, dx, d, hF, ox, e, q⟩
  subst hx
  cases dx with
  | int i =>
    have ex := ox.intE; subst ex
    cases e
    exact call_int1 pins s σ H _ us Q I r (.inl ⟨i, rfl, q.imm rfl hF (.int _)⟩)
  | bool k =>
    have ex := ox.boolE; subst ex
    cases e
    exact call_int1 pins s σ H _ us Q I r (.inr ⟨k, rfl, q.imm rfl hF (.int _)⟩)
  | _ => cases e
theorem cr_absE {b : Bool} : CallR X (.builtin "abs") (r1E X .abs b) := by
  intro pins s σ H xs us Q I r ⟨x, hx, F, dx, d, hF, ox, e, q⟩
  subst hx
  cases dx with
  | int i =>
    have ex := ox.intE; subst ex
    cases e
    exact call_abs pins s σ H _ us Q I r ⟨i, rfl, q.imm rfl hF (.int _)⟩
  | _ => cases e
theorem cr_strE {b : Bool} : CallR X (.type "str") (r1E X .str b) := by
  intro pins s σ H xs us Q I r ⟨x, hx, F, dx, d, hF, ox, e, q⟩
  subst hx
  cases dx with
  | int i =>
    have ex := ox.intE; subst ex
    have e : (if decide (i.natAbs.log2 < 1920) = true then R.ok (PyData.str (Str.ofString (toString i))) else .bad) = .ok d := e
    split at e
    · rename_i hz
      cases e
      exact call_str_int pins s σ H _ us Q I r ⟨i, rfl, of_decide_eq_true hz, q.imm rfl hF (.str _)⟩
    · cases e
  | _ => cases e
end
end Ev
end
section
set_option linter.all false
set_option autoImplicit false
set_option maxRecDepth 100000
set_option maxHeartbeats 4000000
/-! EvRv: x[::-1] of a tuple. -/
namespace Ev
open PySem PySem.Spec PyProof.Rows L2
section
variable {prog : Program} {w : World} {A : Around} {E : Value → Shared → Prop} {s : Shared}
theorem adjust_rev (n : Nat) : Builtin.Slice.sliceAdjust none none (-1) (n : Int) = ((n : Int) - 1, -1) := rfl
theorem places_rev (n : Nat) : Builtin.Slice.slicePlaces ((n : Int) - 1) (-1) (-1) = n := by
  unfold Builtin.Slice.slicePlaces
  rw [if_neg (by omega)]
  split
  · have e : ((n : Int) - 1 - -1 - 1) / -(-1 : Int) = n - 1 := by
      rw [show -(-1 : Int) = 1 from rfl, Int.ediv_one]
      omega
    rw [e]
    omega
  · omega
theorem fmap_some {α β : Type} {f : α → Option β} {g : α → β} : ∀ {l : List α}, (∀ m ∈ l, f m = some (g m)) → l.filterMap f = l.map g
  | [], _ => rfl
  | x :: l, h => by
    rw [List.filterMap_cons, h x List.mem_cons_self, List.map_cons, fmap_some fun m hm => h m (List.mem_cons_of_mem _ hm)]
theorem pick_rev (xs : Array Value) : ((List.range xs.size).filterMap fun (m : Nat) => xs[(((xs.size : Int) - 1) + (m : Int) * (-1)).toNat]?).toArray = xs.toList.reverse.toArray := by
  congr 1
  have h : ∀ m ∈ List.range xs.size, xs[(((xs.size : Int) - 1) + (m : Int) * (-1)).toNat]? = some ((xs.toList.reverse)[m]?.getD .none) := by
    intro m hm
    have hm := List.mem_range.mp hm
    have e : (((xs.size : Int) - 1) + (m : Int) * (-1)).toNat = xs.size - 1 - m := by omega
    rw [e, List.getElem?_reverse (by simpa using hm)]
    simp
    rw [Array.getElem?_eq_getElem (by omega)]
    simp
  rw [fmap_some h]
  refine List.ext_getElem (by simp) fun i h1 h2 => ?_
  simp at h1
  simp
  rw [List.getElem?_eq_getElem (by simp; omega)]
  simp
theorem applied_rev {sl : Addr} {vl vu vs : Value} {n : Nat} {Q : Int × Int × Nat → Shared → Prop} (hs : s.heap.IsSliceOf sl vl vu vs) (pl : IsPart vl none) (pu : IsPart vu none) (ps : IsPart vs (some (-1)))
    (h : Q ((n : Int) - 1, -1, n) s) : wpAny (model prog w) A (Builtin.Slice.sliceApplied (.ref sl) (pure (n : Int))) Q E s := by
  obtain ⟨os, hos, hcs, hds⟩ := id hs
  unfold Builtin.Slice.sliceApplied Builtin.Slice.sliceFields
  refine wpAny_bind (wpAny_bind (wpAny_field hos hds (x := vl) rfl (wpAny_bind (wpAny_field hos hds (x := vu) rfl (wpAny_bind (wpAny_field hos hds (x := vs) rfl (wpAny_pure ?_)))))))
  refine wpAny_bind (HT.slicePart_ ps ?_)
  show wpAny _ _ (if ((-1 : Int) == 0) = true then _ else _) _ _ s
  rw [if_neg (by decide)]
  refine wpAny_bind (HT.slicePart_ pl (wpAny_bind (HT.slicePart_ pu (wpAny_bind (wpAny_pure ?_)))))
  show wpAny _ _ (match Builtin.Slice.sliceAdjust none none (-1) (n : Int) with | (lo, hi) => pure (lo, (-1 : Int), Builtin.Slice.slicePlaces lo hi (-1))) _ _ s
  rw [adjust_rev n]
  show wpAny _ _ (pure ((n : Int) - 1, (-1 : Int), Builtin.Slice.slicePlaces ((n : Int) - 1) (-1) (-1))) _ _ s
  rw [places_rev]
  exact wpAny_pure h
theorem getItem_tuple_rev {t sl : Addr} {items : Array Value} {vl vu vs : Value} {Q : Value → Shared → Prop} (ht : IsTup s.heap t items) (hs : s.heap.IsSliceOf sl vl vu vs) (pl : IsPart vl none) (pu : IsPart vu none) (ps : IsPart vs (some (-1)))
    (h : Q (.ref s.heap.objs.size) { s with heap := s.heap.push { cls := .type "tuple", data := .seq items.toList.reverse.toArray } })
    (hsz : items.size ≤ sizeLine) : wpAny (model prog w) A (getItem (.ref t) (.ref sl)) Q E s := by
  have htake : sizeOk (.seq items.toList.reverse.toArray) := by
    show items.toList.reverse.toArray.size ≤ sizeLine
    rw [List.size_toArray, List.length_reverse, Array.length_toList]
    exact hsz
  obtain ⟨os, hos, hcs, hds⟩ := id hs
  have hTs : s.TypeIs (.ref sl) "slice" := ⟨os, hos, hcs⟩
  unfold getItem
  try with_reducible refine wpAny_holding ?_
  first | refine wpAny_bind (wpAny_pure ?_) | skip
  refine wpAny_bind (wpAny_sequenceKey ht.typeIs (by decide) ?_)
  refine wpAny_bind (wpAny_callSpecial?_slot (name := Str.ofString "__getitem__") ht.typeIs PyProof.Rows.slot_tuple_getitem
    (wpAny_call_entry PyProof.Rows.slot_tuple_getitem ht.typeIs entry_tuple_getitem ?_ (args_tuple_getitem _ _)))
  show wpAny _ _ (Builtin.Tuple.tupleItemsOf (.ref t) >>= _) _ _ s
  refine wpAny_bind (tupleItemsOf_ ht ?_)
  refine wpAny_bind (wpAny_typeOf hTs ?_)
  rw [if_pos (by decide)]
  refine wpAny_bind (applied_rev hs pl pu ps ?_)
  have hno : ¬ ((((items.size : Int) - 1) == 0 && (-1 : Int) == 1 && items.size == items.size) = true) := by
    intro q
    rw [Bool.and_eq_true, Bool.and_eq_true] at q
    exact absurd (eq_of_beq q.1.2) (by decide)
  show wpAny _ _ (if (((items.size : Int) - 1) == 0 && (-1 : Int) == 1 && items.size == items.size) = true then _ else _) _ _ s
  rw [if_neg hno, pick_rev]
  first
    | exact wpAny_bind (m := Builtin.Tuple.tupleExact _) (wpAny_newObj_type (wpAny_pure ⟨_, rfl, wpAny_pure h⟩) htake)
    | exact wpAny_bind (m := Builtin.Tuple.tupleExact _) (wpAny_newObj_type (wpAny_bind (wpAny_pure (wpAny_pure ⟨_, rfl, wpAny_pure h⟩))) htake)
    | exact wpAny_bind (wpAny_bind (m := Builtin.Tuple.tupleExact _) (wpAny_newObj_type (wpAny_pure (wpAny_pure ⟨_, rfl, wpAny_pure h⟩)) htake))
    | exact wpAny_bind (wpAny_bind (m := Builtin.Tuple.tupleExact _) (wpAny_newObj_type (wpAny_pure ⟨_, rfl, wpAny_pure h⟩) htake))
end
def tRevU (K : PySem.W.Frag) (te : TE) : TE := fun σ H Q => te σ H fun x H1 =>
  (∃ a xs, x = .ref a ∧ SqL K H1 a xs ∧ ∀ p, H1 p = none → Q (.ref p) (upd H1 p (.lst xs.reverse))) ∨ (∃ a xs, x = .ref a ∧ SqT K H1 a xs ∧ ∀ p, H1 p = none → Q (.ref p) (upd H1 p (.tup xs.reverse)))
section
variable {X : Cx}
theorem pe_revU {e : Expr} {te : TE} {k : Nat} {p1 p2 p3 pos : Pos} (he : PE X e te) : PE X (.Subscript e (.Slice none none (some (.UnaryOp .USub (.Constant (.int 1) k p1) p2)) p3) pos) (tRevU X.K te) := by
  refine ⟨fun pins s σ H Q I h => ?_⟩
  refine Subscript_ (thn (he.run pins s σ H _ I h) fun v s1 ⟨x, H1, I1, r1, q1⟩ => ?_)
  have hst : PO X (some (.UnaryOp .USub (.Constant (.int 1) k p1) p2)) (tPart (tUn (rU fun i => .int (-i)) (tC (.int 1)))) := po_some (pe_un un_neg pe_int)
  refine wpAny_Slice (thn (po_none.run pins s1 σ H1 (fun o H2 => o = none ∧ H2 = H1) I1 ⟨rfl, rfl⟩) fun vl s2 ⟨l, H2, I2, pl, el, e2⟩ => ?_)
  subst el e2
  refine thn (po_none.run pins s2 σ H2 (fun o H3 => o = none ∧ H3 = H2) I2 ⟨rfl, rfl⟩) fun vu s3 ⟨u, H3, I3, pu, eu, e3⟩ => ?_
  subst eu e3
  refine thn (hst.run pins s3 σ H3 (fun o H4 => o = some (-1) ∧ H4 = H3) I3 ⟨1, rfl, -1, rfl, rfl, rfl⟩) fun vs s4 ⟨o, H4, I4, ps, eo, e4⟩ => ?_
  subst eo e4
  have I5 : Inv X pins σ H4 { s4 with heap := s4.heap.push { cls := .type "slice", data := .fields #[vl, vu, vs] } } := I4.kept (t' := s4.toks) fun b ob q => Heap.get?_push_of_some _ q
  rcases q1 with ⟨a, xs, ex, hx, q⟩ | ⟨a, xs, ex, hx, q⟩
  · subst ex
    cases r1
    obtain ⟨its, r, ht, hz⟩ := I5.list hx
    have hlen := r.length
    show wpAny (model X.prog X.w) X.A (subscriptTail e (.Slice none none (some (.UnaryOp .USub (.Constant (.int 1) k p1) p2)) p3) (.ref a) (.ref s4.heap.objs.size)) (EP X pins σ Q) X.xe { s4 with heap := s4.heap.push { cls := .type "slice", data := .fields #[vl, vu, vs] } }
    refine tail_any (ops := [.ref a, .ref s4.heap.objs.size]) ht.isList.typeIs (PySem.slot_list_getitem.lookup) ?_ (by with_unfolding_all rfl)
    refine wpAny_getItem_list_slice ht.isList (Heap.IsSliceOf.new _ vl vu vs) pl pu ps (by decide) ?_ (by rw [List.size_toArray]; omega)
    rw [PySem.W.krv_pick]
    refine ⟨.ref _, _, I5.laid (t' := s4.toks) (o := .lst xs.reverse) (fun b ob q => Heap.get?_push_of_some _ q) (Nat.le_refl _) ?_, rfl, q _ (I5.hok.fresh (Nat.le_refl _))⟩
    exact ⟨by rw [List.length_reverse]; exact hz, _, 0, r.reverse, Heap.get?_push_size _ rfl⟩
  · subst ex
    cases r1
    obtain ⟨its, r, ht, hz⟩ := I5.tuple hx
    have hlen := r.length
    show wpAny (model X.prog X.w) X.A (subscriptTail e (.Slice none none (some (.UnaryOp .USub (.Constant (.int 1) k p1) p2)) p3) (.ref a) (.ref s4.heap.objs.size)) (EP X pins σ Q) X.xe { s4 with heap := s4.heap.push { cls := .type "slice", data := .fields #[vl, vu, vs] } }
    refine tail_any (ops := [.ref a, .ref s4.heap.objs.size]) ht.typeIs (PyProof.Rows.slot_tuple_getitem.lookup) ?_ (by with_unfolding_all rfl)
    refine getItem_tuple_rev ht (Heap.IsSliceOf.new _ vl vu vs) pl pu ps ?_ (by rw [List.size_toArray]; omega)
    refine ⟨.ref _, _, I5.laid (t' := s4.toks) (o := .tup xs.reverse) (fun b ob q => Heap.get?_push_of_some _ q) (Nat.le_refl _) ?_, rfl, q _ (I5.hok.fresh (Nat.le_refl _))⟩
    refine ⟨by rw [List.length_reverse]; exact hz, _, r.reverse, ?_⟩
    exact IsTup.new _ _
end
end Ev
end
section
set_option linter.all false
set_option autoImplicit false
set_option maxRecDepth 100000
set_option maxHeartbeats 2000000
/-! EvW: isinstance, ranges, more. -/
namespace Ev
open PySem PySem.Spec PyProof.Rows L2
/-- the type's name of a value -/
def tyN : AV → String
  | .none => "NoneType"
  | .bool _ => "bool"
  | .int _ => "int"
  | .str _ => "str"
  | .list _ => "list"
  | .tuple _ => "tuple"
  | .dict _ => "dict"
section
variable {X : Cx}
theorem tyx_of {K : PySem.W.Frag} {w : World} {F H : Hp} {x : V} {d : AV} (hF : Same F H) (o : Opd K w F H x d) (hd : ∀ kvs, d ≠ .dict kvs) : TyX K H x (.type (tyN d)) := by
  cases d with
  | none => rw [o.noneE]; exact .base .non
  | bool b => rw [o.boolE]; exact .base (.bl b)
  | int b => rw [o.intE]; exact .base (.int b)
  | str b => rw [o.strE]; exact .base (.str b)
  | list ds =>
    obtain ⟨a, us, rfl, hq, _⟩ := o.listE
    rcases hq with (h | ⟨ob, h⟩) | ⟨its, n, h, _, _⟩
    · exact .base (.lst h)
    · exact .base (.frz h)
    · exact .kList h rfl
  | tuple ds =>
    obtain ⟨a, us, rfl, hq, _⟩ := o.tupE
    rcases Same.tup hF hq with (h | ⟨ob, h⟩) | ⟨ob, its, n, h, hc, _⟩
    · exact .base (.tup h)
    · exact .fTuple h
    · exact .kTuple h hc
  | dict ds => exact absurd rfl (hd ds)
/-- which built-in classes a type answers to -/
def isOf (t c : String) : Bool := (t == c) || (t == "bool" && c == "int")
theorem kit_ok {K : PySem.W.Frag} {d : AV} {c : String} (hd : ∀ kvs, d ≠ .dict kvs) (hc : c ∈ ["int", "bool", "tuple", "str", "list"]) : PySem.W.kitOne K (.type (tyN d)) (.type c) = some (isOf (tyN d) c) := by
  simp only [List.mem_cons, List.not_mem_nil, or_false] at hc
  cases d with
  | dict kvs => exact absurd rfl (hd kvs)
  | none => rcases hc with rfl | rfl | rfl | rfl | rfl <;> rfl
  | bool _ => rcases hc with rfl | rfl | rfl | rfl | rfl <;> rfl
  | int _ => rcases hc with rfl | rfl | rfl | rfl | rfl <;> rfl
  | str _ => rcases hc with rfl | rfl | rfl | rfl | rfl <;> rfl
  | list _ => rcases hc with rfl | rfl | rfl | rfl | rfl <;> rfl
  | tuple _ => rcases hc with rfl | rfl | rfl | rfl | rfl <;> rfl
/-- a reading's closure -/
def up (t : TE) : TE := fun σ H Q => ∃ Q0 : VK, t σ H Q0 ∧ ∀ v H, Q0 v H → Q v H
theorem pe_up {e : Expr} {t : TE} (h : PE X e t) : PE X e (up t) := ⟨fun pins s σ H Q I ⟨Q0, q, hq⟩ => thn (h.run pins s σ H Q0 I q) fun u s1 ⟨v, H1, I1, r1, q1⟩ => ⟨v, H1, I1, r1, hq _ _ q1⟩⟩
def isN : Blt → Option String
  | .isInt => some "int"
  | .isBool => some "bool"
  | .isTup => some "tuple"
  | .isStr => some "str"
  | .isList => some "list"
  | _ => none
theorem isN_ok {f : Blt} {c : String} {dx d : AV} (hf : isN f = some c) (h : bltop f [dx] = .ok d) : (∀ kvs, dx ≠ .dict kvs) ∧ d = .bool (isOf (tyN dx) c) ∧ c ∈ ["int", "bool", "tuple", "str", "list"] := by
  cases f <;> first
    | (cases hf; done)
    | (cases hf; cases dx <;> first | (cases h; done) | (cases h; exact ⟨(fun _ z => nomatch z), rfl, by simp⟩))
theorem isi1_ok {f : Blt} {c : String} {b : Bool} {l : Expr} {t : TE} {p q pos : Pos} {nm : Str} (hf : isN f = some c) (hl : PE X l t) (hs : stE l = false) (hg : Gl X "isinstance") (hm : X.mg "isinstance" = none) (hgT : Gl X nm) (hmT : X.mg nm = none) (hb : bootBuiltins nm = some (.type c)) (hn : nm ≠ "__name__") (hd : (nm == ("__debug__" : Str)) = false) :
    PE X (.Call (.Name "isinstance" p) [l, .Name nm q] [] pos) (tUn (rUn X.K X.w (fun x => bltop f [x]) b) t) :=
  (pe_callB call_isi hg hm PyProof.Rows.boot_isinstance (pa_cons (pe_up hl) (pa_cons (pe_bltn (v := .ty c) hgT hmT hb rfl hn hd) pa_nil) (star_plain hs)) (by decide) (by decide) (star_plain hs) rfl).imp fun σ H Q h => ⟨_, h, fun v H1 ⟨F, dx, d, hF, ox, e, q⟩ => by
    obtain ⟨h1, h2, h3⟩ := isN_ok hf e
    subst h2
    exact ⟨v, .ty c, _, .type c, _, rfl, .ty c, tyx_of hF ox h1, kit_ok h1 h3, q.imm rfl hF (.bl _)⟩⟩
theorem isTL_ok {b : Bool} {l : Expr} {t : TE} {p q1 q2 q3 pos : Pos} {k : Nat} (hl : PE X l t) (hs : stE l = false) (hg : Gl X "isinstance") (hm : X.mg "isinstance" = none) (hg1 : Gl X "tuple") (hm1 : X.mg "tuple" = none) (hg2 : Gl X "list") (hm2 : X.mg "list" = none) :
    PE X (.Call (.Name "isinstance" p) [l, .Tuple [.Name "tuple" q1, .Name "list" q2] k q3] [] pos) (tUn (rUn X.K X.w (fun x => bltop .isTL [x]) b) t) :=
  (pe_callB call_isiT hg hm PyProof.Rows.boot_isinstance (pa_cons (pe_up hl) (pa_cons (pe_tup (pa_cons (pe_bltn (v := .ty "tuple") hg1 hm1 PyProof.Rows.boot_tuple rfl (by decide) (by decide)) (pa_cons (pe_bltn (v := .ty "list") hg2 hm2 PyProof.Rows.boot_list rfl (by decide) (by decide)) pa_nil))) pa_nil) (star_plain hs)) (by decide) (by decide) (star_plain hs) rfl).imp fun σ H Q h => ⟨_, h, fun v H1 ⟨F, dx, d, hF, ox, e, q⟩ => by
    refine ⟨by show 2 ≤ sizeLine; decide, fun tp hp => ?_⟩
    have hd : ∀ kvs, dx ≠ .dict kvs := fun kvs z => by subst z; cases e
    have hX := ext_new (o := .tup [V.ty "tuple", V.ty "list"]) hF hp
    have key : PySem.W.kitAny X.K (.type (tyN dx)) [.type "tuple", .type "list"] = some (isOf (tyN dx) "tuple" || isOf (tyN dx) "list") := by
      show (match PySem.W.kitOne X.K (.type (tyN dx)) (.type "tuple") with
        | some true => some true
        | some false => (match PySem.W.kitOne X.K (.type (tyN dx)) (.type "list") with
          | some true => some true
          | some false => some false
          | none => none)
        | none => none) = _
      rw [kit_ok hd (by simp), kit_ok hd (by simp)]
      cases isOf (tyN dx) "tuple" <;> cases isOf (tyN dx) "list" <;> rfl
    have dv : d = .bool (isOf (tyN dx) "tuple" || isOf (tyN dx) "list") := by
      cases dx <;> first | (cases e; rfl) | exact absurd rfl (hd _)
    subst dv
    exact ⟨v, tp, [V.ty "tuple", V.ty "list"], _, [.type "tuple", .type "list"], _, rfl, upd_same, .cons (.ty _) (.cons (.ty _) .nil), tyx_of (hF.trans (same_upd' hp)) (Opd.ext (Same.refl _) (same_upd' hp) ox) hd, key, q _ F _ hX (fun _ => NewV.of_rep rfl (.bl _)) fun _ => .bl _⟩⟩
/-! ### ranges -/
theorem rgV_rep {K : PySem.W.Frag} {w : World} {F : Hp} {a b : Int} : RepL K w F (rgV a b) (rangeD a b) := by
  unfold rgV rangeD
  generalize List.range (b - a).toNat = l
  induction l with
  | nil => exact .nil
  | cons i l ih => exact .cons (.int _) ih
theorem rgOk_of {a b : Int} (h1 : okRng a = true) (h2 : okRng b = true) (hz : (rangeD a b).length ≤ sizeLine) : RgOk a b := by
  unfold okRng at h1 h2
  simp only [Bool.and_eq_true, decide_eq_true_eq] at h1 h2
  rw [rangeD_length, sizeLine_eq] at hz
  exact ⟨by omega, by omega, by omega, by omega, by omega⟩
theorem lrng1_ok {b : Bool} {l : Expr} {t : TE} {p p2 pos pos2 : Pos} (hc : X.calm = true) (hl : PE X l t) (hs : stE l = false) (hg : Gl X "list") (hm : X.mg "list" = none) (hg2 : Gl X "range") (hm2 : X.mg "range" = none) :
    PE X (.Call (.Name "list" p) [.Call (.Name "range" p2) [l] [] pos2] [] pos) (tUn (rUn X.K X.w (fun x => bltop .lrng1 [x]) b) t) :=
  (pe_listRg hc hg hm (prg_1 hg2 hm2 (pe_up hl) (star_plain hs))).imp fun σ H Q h => ⟨_, h, fun v H1 ⟨F, dx, d, hF, ox, e, q⟩ => by
    cases dx with
    | int n =>
      have ex := ox.intE; subst ex
      have e : (if okRng n = true then lstR (rangeD 0 n) else .bad) = .ok d := e
      split at e
      · rename_i hr
        obtain ⟨rfl, hz⟩ := lstR_ok e
        exact ⟨n, rfl, rgOk_of (by decide) hr hz, fun p hp => q.newL hF rgV_rep hp⟩
      · cases e
    | _ => cases e⟩
theorem trng1_ok {b : Bool} {l : Expr} {t : TE} {p p2 pos pos2 : Pos} (hc : X.calm = true) (hl : PE X l t) (hs : stE l = false) (hg : Gl X "tuple") (hm : X.mg "tuple" = none) (hg2 : Gl X "range") (hm2 : X.mg "range" = none) :
    PE X (.Call (.Name "tuple" p) [.Call (.Name "range" p2) [l] [] pos2] [] pos) (tUn (rUn X.K X.w (fun x => bltop .trng1 [x]) b) t) :=
  (pe_tupRg hc hg hm (prg_1 hg2 hm2 (pe_up hl) (star_plain hs))).imp fun σ H Q h => ⟨_, h, fun v H1 ⟨F, dx, d, hF, ox, e, q⟩ => by
    cases dx with
    | int n =>
      have ex := ox.intE; subst ex
      have e : (if okRng n = true then tupR (rangeD 0 n) else .bad) = .ok d := e
      split at e
      · rename_i hr
        obtain ⟨rfl, hz⟩ := tupR_ok e
        exact ⟨n, rfl, rgOk_of (by decide) hr hz, fun p hp => q.newT hF rgV_rep hp⟩
      · cases e
    | _ => cases e⟩
theorem lrng2_ok {b : Bool} {l r : Expr} {t u : TE} {p p2 pos pos2 : Pos} (hc : X.calm = true) (hl : PE X l t) (hr : PE X r u) (hs : stE l = false) (hs2 : stE r = false) (hg : Gl X "list") (hm : X.mg "list" = none) (hg2 : Gl X "range") (hm2 : X.mg "range" = none) :
    PE X (.Call (.Name "list" p) [.Call (.Name "range" p2) [l, r] [] pos2] [] pos) (tOp (rOp X.K X.w (fun x y => bltop .lrng2 [x, y]) b) t u) :=
  (pe_listRg hc hg hm (prg_2 hg2 hm2 (pe_up hl) (pe_up hr) (star_plain hs) (star_plain hs2) (starEach_plain (by simp [hs2])))).imp fun σ H Q h => ⟨_, h, fun v H1 h1 => ⟨_, h1, fun v2 H2 ⟨F, dx, dy, d, hF, ox, oy, e, q⟩ => by
    cases dx with
    | int m => cases dy with
      | int n =>
        have ex := ox.intE; have ey := oy.intE; subst ex ey
        have e : (if (okRng m && okRng n) = true then lstR (rangeD m n) else .bad) = .ok d := e
        split at e
        · rename_i hr
          rw [Bool.and_eq_true] at hr
          obtain ⟨rfl, hz⟩ := lstR_ok e
          exact ⟨m, n, rfl, rfl, rgOk_of hr.1 hr.2 hz, fun p hp => q.newL hF rgV_rep hp⟩
        · cases e
      | _ => cases e
    | _ => cases dy <;> cases e⟩⟩
theorem trng2_ok {b : Bool} {l r : Expr} {t u : TE} {p p2 pos pos2 : Pos} (hc : X.calm = true) (hl : PE X l t) (hr : PE X r u) (hs : stE l = false) (hs2 : stE r = false) (hg : Gl X "tuple") (hm : X.mg "tuple" = none) (hg2 : Gl X "range") (hm2 : X.mg "range" = none) :
    PE X (.Call (.Name "tuple" p) [.Call (.Name "range" p2) [l, r] [] pos2] [] pos) (tOp (rOp X.K X.w (fun x y => bltop .trng2 [x, y]) b) t u) :=
  (pe_tupRg hc hg hm (prg_2 hg2 hm2 (pe_up hl) (pe_up hr) (star_plain hs) (star_plain hs2) (starEach_plain (by simp [hs2])))).imp fun σ H Q h => ⟨_, h, fun v H1 h1 => ⟨_, h1, fun v2 H2 ⟨F, dx, dy, d, hF, ox, oy, e, q⟩ => by
    cases dx with
    | int m => cases dy with
      | int n =>
        have ex := ox.intE; have ey := oy.intE; subst ex ey
        have e : (if (okRng m && okRng n) = true then tupR (rangeD m n) else .bad) = .ok d := e
        split at e
        · rename_i hr
          rw [Bool.and_eq_true] at hr
          obtain ⟨rfl, hz⟩ := tupR_ok e
          exact ⟨m, n, rfl, rfl, rgOk_of hr.1 hr.2 hz, fun p hp => q.newT hF rgV_rep hp⟩
        · cases e
      | _ => cases e
    | _ => cases dy <;> cases e⟩⟩
theorem RepL.reverse {K : PySem.W.Frag} {w : World} {F : Hp} : ∀ {us : List V} {ds : List AV}, RepL K w F us ds → RepL K w F us.reverse ds.reverse
  | _, _, .nil => .nil
  | _, _, .cons h r => by
    rw [List.reverse_cons, List.reverse_cons]
    exact r.reverse.snoc h
theorem rev_ok {b : Bool} {l : Expr} {t : TE} {k : Nat} {p1 p2 p3 pos : Pos} (hl : PE X l t) : PE X (.Subscript l (.Slice none none (some (.UnaryOp .USub (.Constant (.int 1) k p1) p2)) p3) pos) (tUn (rUn X.K X.w (fun x => bltop .rev [x]) b) t) :=
  (pe_revU (pe_up hl)).imp fun σ H Q h => ⟨_, h, fun v H1 ⟨F, dx, d, hF, ox, e, q⟩ => by
    cases dx with
    | list ds =>
      obtain ⟨a, us, rfl, hq, hr⟩ := ox.listE
      cases e
      exact .inl ⟨a, us, rfl, hq.sql, fun p hp => q.newL hF hr.reverse hp⟩
    | tuple ds =>
      obtain ⟨a, us, rfl, hq, hr⟩ := ox.tupE
      cases e
      exact .inr ⟨a, us, rfl, Same.tup hF hq, fun p hp => q.newT hF hr.reverse hp⟩
    | _ => cases e⟩
theorem mm2_ok {b mx : Bool} {l r : Expr} {t u : TE} {p pos : Pos} (hc : X.calm = true) (hl : PE X l t) (hr : PE X r u) (hs : stE l = false) (hs2 : stE r = false) :
    (mx = false → Gl X "min" → X.mg "min" = none → PE X (.Call (.Name "min" p) [l, r] [] pos) (tOp (rOp X.K X.w (fun x y => bltop .min2 [x, y]) b) t u)) ∧ (mx = true → Gl X "max" → X.mg "max" = none → PE X (.Call (.Name "max" p) [l, r] [] pos) (tOp (rOp X.K X.w (fun x y => bltop .max2 [x, y]) b) t u)) := by
  refine ⟨fun _ hg hm => (pe_callB (call_min2 hc) hg hm PyProof.Rows.boot_min (pa_cons (pe_up hl) (pa_cons (pe_up hr) pa_nil (star_plain hs2)) (star_plain hs)) (by decide) (by decide) (star_plain hs) (starEach_plain (by simp [hs2]))).imp fun σ H Q h => ⟨_, h, fun v H1 h1 => ⟨_, h1, fun v2 H2 ⟨F, dx, dy, d, hF, ox, oy, e, q⟩ => ?_⟩⟩,
    fun _ hg hm => (pe_callB (call_max2 hc) hg hm PyProof.Rows.boot_max (pa_cons (pe_up hl) (pa_cons (pe_up hr) pa_nil (star_plain hs2)) (star_plain hs)) (by decide) (by decide) (star_plain hs) (starEach_plain (by simp [hs2]))).imp fun σ H Q h => ⟨_, h, fun v H1 h1 => ⟨_, h1, fun v2 H2 ⟨F, dx, dy, d, hF, ox, oy, e, q⟩ => ?_⟩⟩⟩
  · cases dx with
    | int m => cases dy with
      | int n =>
        have ex := ox.intE; have ey := oy.intE; subst ex ey
        cases e
        exact ⟨m, n, rfl, q.imm rfl hF (.int _)⟩
      | _ => cases e
    | _ => cases dy <;> cases e
  · cases dx with
    | int m => cases dy with
      | int n =>
        have ex := ox.intE; have ey := oy.intE; subst ex ey
        cases e
        exact ⟨m, n, rfl, q.imm rfl hF (.int _)⟩
      | _ => cases e
    | _ => cases dy <;> cases e
end
end Ev
end
section
set_option linter.all false
set_option autoImplicit false
set_option maxRecDepth 100000
set_option maxHeartbeats 2000000
/-! EvDv: list(d.values()). -/
namespace Ev
open PySem PySem.Spec PyProof.Rows L2
theorem Res.step {K : PySem.W.Frag} {w : World} {b : Bool} {F F1 H H1 : Hp} {d : AV} {Q : VK} (x : Ext F H F1 H1) (q : Res K w b F H d Q) : Res K w b F1 H1 d Q := fun v F' H' x2 hn ho => by
  refine q v F' H' (x.trans x2) (fun hb => ?_) ho
  have n := hn hb
  cases d with
  | list ds =>
    obtain ⟨a, xs, e, h1, h2, h3⟩ := n
    exact ⟨a, xs, e, h1, x.hh.free h2, h3⟩
  | dict kvs =>
    obtain ⟨a, ep, L, tk, e, h1, h2, h3⟩ := n
    exact ⟨a, ep, L, tk, e, h1, x.hh.free h2, h3⟩
  | none => exact n
  | bool _ => exact n
  | int _ => exact n
  | str _ => exact n
  | tuple _ => exact n
/-- at p stands a view of the dict at a -/
def ViewP (T : String) (p a : Addr) (h : Heap) : Prop := h.get? p = some { cls := .type T, data := .fields #[.ref a] }
section
variable {X : Cx} {e : Expr} {td : TE} {apos cpos : Pos}
def tView (X : Cx) (T : String) (td : TE) : TE := fun σ H Q => td σ H fun x H1 => ∃ a ob L, x = .ref a ∧ H1 a = some (dictH X.w a ob L) ∧ ∀ p, H1 p = none → Q (.ref p) (upd H1 p (.ext (ViewP T p a)))
theorem pe_values (he : PE X e td) (hbase : attributeBase e "values" X.env (eval e X.env) = eval e X.env) (hline : (apos.endLine == cpos.line) = true) : PE X (.Call (.Attribute e "values" apos) [] [] cpos) (tView X "dict_values" td) := by
  refine ⟨fun pins s σ H Q I h => ?_⟩
  refine wpAny_Call_method (T := "dict") (id := "dict.values") hbase rfl hline F.plainAttrs_dict F.slot_dict_values F.type_dict_values (thn (he.run pins s σ H _ I h) fun u s1 ⟨x, H1, I1, rx, a, ob, L, ex, hd, q⟩ => ?_)
  subst ex
  obtain rfl : u = Value.ref a := rx
  obtain ⟨hs, hx, hgd, es, ep, hdt, hsz, z, ent⟩ := dic_ents (dic_at I1.hok hd)
  have ht : s1.TypeIs (.ref a) "dict" := ⟨ob, hgd, hx.1⟩
  refine ⟨ht, fun b q => ?_, ?_⟩
  · cases q
    exact ⟨ob, hgd, hx.2.1⟩
  have I2 := I1.laid (a := s1.heap.objs.size) (o := .ext (ViewP "dict_values" s1.heap.objs.size a)) (h' := s1.heap.push { cls := .type "dict_values", data := .fields #[.ref a] }) (t' := s1.toks) (fun _ _ q => Heap.get?_push_of_some _ q) (Nat.le_refl _)
    ⟨Heap.get?_push_size _ rfl, ⟨_, Heap.get?_push_size _ rfl⟩, fun h1 h2 e k => k _ e⟩
  show wpAny _ _ (callWith cpos (.builtin "dict.values") [.ref a] [] []) _ X.xe s1
  exact method_meetsIn F.slot_dict_values F.entry_dict_values rfl (PySem.evalArgs_none ⟨rfl, ht, F.args_dict_values_1 _, _, meets_dict_values_raw a hs, ⟨es, ep, ob, hgd, hx, hdt⟩, ⟨.ref s1.heap.objs.size, _, I2, rfl, q _ (I1.hok.fresh (Nat.le_refl _))⟩⟩)
theorem cr_listView (hc : X.calm = true) : CallR X (.type "list") (fun xs H Q => ∃ (p a : Addr) (ob : Obj) (L : List Ent), xs = [.ref p] ∧ H p = some (.ext (ViewP "dict_values" p a)) ∧ H a = some (dictH X.w a ob L) ∧ ∀ l, H l = none → Q (.ref l) (upd H l (.lst (L.map (·.2))))) := by
  intro pins s σ H xs us Q I r h
  obtain ⟨p, a, ob, L, rfl, hp, e, q⟩ := h
  obtain ⟨u, rfl, rx⟩ := r.one
  cases rx
  obtain ⟨hs, hx, ho, es, ep, hdt, hsz, z, ent⟩ := dic_ents (dic_at I.hok e)
  have hv : ViewP "dict_values" p a s.heap := (show ObjOk X.prog X.w H s.heap p (.ext (ViewP "dict_values" p a)) from I.hok p _ hp).1
  refine PySem.W.kdl_call (KdlSrc.rawValues (es := es) (ep := ep)) (I.ok.hd hc) ⟨⟨_, hv, rfl, rfl⟩, ob, ho, hx, hdt⟩ (by omega) fun h' tk acc' c' kp e it => ?_
  have rv : Vals (L.map (·.2)) acc'.toList := vals_of (f := (·.2)) (by rw [it.1, hsz]) fun i e he => by
    obtain ⟨en, h1, _, h2⟩ := ent i e he
    obtain ⟨hlt, hen⟩ := Array.getElem?_eq_some_iff.mp h1
    have hi : i < acc'.size := by rw [it.1]; exact hlt
    obtain ⟨hi2, h4⟩ := it.2 i _ (Array.getElem?_eq_getElem hi)
    exact ⟨_, Array.getElem?_eq_getElem hi, by rw [h4, hen]; exact h2⟩
  refine ⟨.ref s.heap.objs.size, _, I.laid (t' := tk) (o := .lst (L.map (·.2))) kp (Nat.le_refl _) ?_, rfl, q _ (I.hok.fresh (Nat.le_refl _))⟩
  exact ⟨by rw [List.length_map]; exact z, acc'.toList, c', rv, by rw [Array.toArray_toList]; exact e⟩
theorem lvals_ok {b : Bool} {l : Expr} {t : TE} {p apos pos2 pos : Pos} (hc : X.calm = true) (hl : PE X l t) (hg : Gl X "list") (hm : X.mg "list" = none) (hbase : attributeBase l "values" X.env (eval l X.env) = eval l X.env) (hline : (apos.endLine == pos2.line) = true) :
    PE X (.Call (.Name "list" p) [.Call (.Attribute l "values" apos) [] [] pos2] [] pos) (tUn (rUn X.K X.w (fun x => bltop .lvals [x]) b) t) :=
  (pe_callTy (cr_listView hc) hg hm PyProof.Rows.boot_list (pa_cons (pe_values (pe_up hl) hbase hline) pa_nil (by rfl)) (by decide) (by decide) (by rfl) rfl).imp fun σ H Q h => by
    refine ⟨_, h, fun v H1 ⟨F, dx, d, hF, ox, e, q⟩ => ?_⟩
    cases dx with
    | dict kvs =>
      cases e
      obtain ⟨a, ob, L, tk, rfl, hq, hr⟩ := ox
      refine ⟨a, ob, L, rfl, hq, fun p hp => ?_⟩
      have hne : a ≠ p := fun z => by rw [z, hp] at hq; cases hq
      refine ⟨p, a, ob, L, rfl, upd_same, by rw [upd_ne hne]; exact hq, fun l2 hl2 => ?_⟩
      have x1 := ext_new (o := .ext (ViewP "dict_values" p a)) hF hp
      exact (q.step x1).newL x1.fh hr.valsV hl2
    | _ => cases e
end
end Ev
end
section
set_option linter.all false
set_option autoImplicit false
set_option maxRecDepth 100000
set_option maxHeartbeats 2000000
/-! EvY: index, count, min, max. -/
namespace Ev
open PySem PySem.Spec PyProof.Rows L2
section
variable {X : Cx}
abbrev rM (X : Cx) (m : Mth) : V → List V → Hp → VK → Prop := fun x xs H Q => ∃ y, xs = [y] ∧ rOp X.K X.w (fun x y => mthop m x [y]) false x y H Q
theorem findIx_some : ∀ {xs : List AV} {x : AV} {k : Nat}, findIx xs x = some k → ∃ z, xs[k]? = some z ∧ PyData.eqv z x = true ∧ ∀ (m : Nat) (z' : AV), m < k → xs[m]? = some z' → PyData.eqv z' x = false
  | [], x, k, h => by cases h
  | y :: ys, x, k, h => by
    have h : (if PyData.eqv y x = true then some 0 else (findIx ys x).map (· + 1)) = some k := h
    split at h
    · rename_i hy
      cases h
      exact ⟨y, rfl, hy, fun m z' hm _ => absurd hm (Nat.not_lt_zero _)⟩
    · rename_i hy
      cases hf : findIx ys x with
      | none => rw [hf] at h; cases h
      | some j =>
        rw [hf] at h
        cases h
        obtain ⟨z, g1, g2, g3⟩ := findIx_some hf
        refine ⟨z, by simpa using g1, g2, fun m z' hm hz => ?_⟩
        cases m with
        | zero => simp at hz; subst hz; simpa using hy
        | succ m => exact g3 m z' (Nat.lt_of_succ_lt_succ hm) (by simpa using hz)
/-- a list's object, its items as data -/
theorem list_obj {pins : List (Addr × Obj)} {σ : L2.St} {H F : Hp} {s : Shared} {x : V} {v : Value} {xs : List AV} (I : Inv X pins σ H s) (hF : Same F H) (hp : PyData.plainAll xs = true) (o : Opd X.K X.w F H x (.list xs)) (rx : RelV x v) :
    ∃ (a : Addr) (its : List Value) (n : Nat) (as : List Addr) (us : List V), x = .ref a ∧ v = .ref a ∧ s.heap.get? a = some { cls := .type "list", data := .seq its.toArray n } ∧ ReadsAll s.heap its xs as ∧ its.length ≤ sizeLine ∧ Vals us its ∧ RepL X.K X.w F us xs := by
  obtain ⟨a, us, rfl, hq, hr⟩ := o.listE
  cases rx
  obtain ⟨z, its, n, rv, hl, e⟩ := inv_lst I hq
  obtain ⟨as, q⟩ := RepL.reads I hF hp hr rv
  exact ⟨a, its, n, as, us, rfl, rfl, e, q, by omega, rv, hr⟩
theorem tup_obj {pins : List (Addr × Obj)} {σ : L2.St} {H F : Hp} {s : Shared} {x : V} {v : Value} {xs : List AV} (I : Inv X pins σ H s) (hF : Same F H) (hp : PyData.plainAll xs = true) (o : Opd X.K X.w F H x (.tuple xs)) (rx : RelV x v) :
    ∃ (a : Addr) (its : List Value) (as : List Addr) (us : List V), x = .ref a ∧ v = .ref a ∧ s.heap.IsTuple a its.toArray ∧ ReadsAll s.heap its xs as ∧ Vals us its ∧ RepL X.K X.w F us xs := by
  obtain ⟨a, us, rfl, hq, hr⟩ := o.tupE
  cases rx
  obtain ⟨its, rv, ht, hz⟩ := I.tuple (Same.tup hF hq)
  obtain ⟨as, q⟩ := RepL.reads I hF hp hr rv
  exact ⟨a, its, as, us, rfl, rfl, ht, q, rv, hr⟩
theorem mt_indexE (hu : X.A.units + 65 < cLine) : MtR X "list.index" (rM X .index) := by
  intro pins s σ H x xs v us Q I rx rxs ⟨y, hy, F, dx, dy, d, hF, ox, oy, e, q⟩
  subst hy
  obtain ⟨u, rfl, ru⟩ := rxs.one
  cases dx with
  | list ds =>
    have e : (if (dy.plain && PyData.plainAll ds && decide (Nat.min (PyData.depthAll ds) dy.depth ≤ 48)) = true then (match findIx ds dy with
      | some k => R.ok (PyData.int k)
      | none => .bad) else .bad) = .ok d := e
    split at e
    · rename_i hc
      simp only [Bool.and_eq_true, decide_eq_true_eq] at hc
      cases hf : findIx ds dy with
      | none => rw [hf] at e; cases e
      | some k =>
        rw [hf] at e
        cases e
        obtain ⟨z, g1, g2, g3⟩ := findIx_some hf
        obtain ⟨a, its, n, as, vs, rfl, rfl, ho, rs, hz, _, _⟩ := list_obj I hF hc.1.2 ox rx
        obtain ⟨bs, r2⟩ := oy.reads I hF hc.1.1 ru
        have hmap : its.map (SeqAt.readOf s.heap) = ds := SeqAt.readsAll_map_plain ds its as hc.1.2 rs
        have hlen : its.length = ds.length := by rw [← hmap, List.length_map]
        have hk : k < ds.length := (List.getElem?_eq_some_iff.mp g1).1
        have hj : k < its.toArray.size := by rw [List.size_toArray]; omega
        have at_ : ∀ (m : Nat) (hm : m < its.toArray.size) (z' : AV), ds[m]? = some z' → SeqAt.readOf s.heap its.toArray[m] = z' := fun m hm z' hz' => by
          have hml : m < its.length := by simpa using hm
          rw [← hmap, List.getElem?_map, List.getElem?_eq_getElem hml] at hz'
          have e1 := Option.some.inj (show some (SeqAt.readOf s.heap its[m]) = some z' from hz')
          simpa using e1
        have hd : min (PyData.depthAll ds) dy.depth ≤ 48 := hc.2
        have hsl := sizeLine_eq
        refine call_meets PySem.F.slot_list_index ⟨_, ho, rfl⟩ PySem.F.entry_list_index (PySem.F.args_list_index_2 _ _)
          (SeqAt.list_indexAt a its.toArray n none #[] u (fun u => PyData.eqv (SeqAt.readOf s.heap u) dy) k hj (by omega) (by rw [at_ k hj z g1]; exact g2) fun m hm hlt => ?_) ⟨ho, SeqAt.items_plain (vs := its.toArray) rs r2 hc.1.2 hc.1.1 (by omega), ?_⟩
        · have hm2 : m < ds.length := by rw [← hlen]; simpa using hm
          rw [at_ m hm _ (List.getElem?_eq_getElem hm2)]
          exact g3 m _ hlt (List.getElem?_eq_getElem hm2)
        · exact ⟨.int _, H, I.tok _, ⟨_, rfl⟩, q.imm rfl hF (.int _)⟩
    · cases e
  | _ => cases e
theorem mt_countE (hu : X.A.units + 65 < cLine) : MtR X "list.count" (rM X .count) := by
  intro pins s σ H x xs v us Q I rx rxs ⟨y, hy, F, dx, dy, d, hF, ox, oy, e, q⟩
  subst hy
  obtain ⟨u, rfl, ru⟩ := rxs.one
  cases dx with
  | list ds =>
    have e : (if (dy.plain && PyData.plainAll ds && decide (Nat.min (PyData.depthAll ds) dy.depth ≤ 48)) = true then R.ok (PyData.int (ds.countP fun y => PyData.eqv y dy)) else .bad) = .ok d := e
    split at e
    · rename_i hc
      simp only [Bool.and_eq_true, decide_eq_true_eq] at hc
      cases e
      obtain ⟨a, its, n, as, vs, rfl, rfl, ho, rs, hz, _, _⟩ := list_obj I hF hc.1.2 ox rx
      obtain ⟨bs, r2⟩ := oy.reads I hF hc.1.1 ru
      have hd : min (PyData.depthAll ds) dy.depth ≤ 48 := hc.2
      exact SeqAt.count_list_data (vs := its.toArray) ⟨_, ho, rfl, n, rfl⟩ rs r2 hc.1.2 hc.1.1 (by omega) ⟨.int _, H, I.tok _, ⟨_, rfl⟩, q.imm rfl hF (.int _)⟩
    · cases e
  | _ => cases e
theorem meth_pe {m : Mth} {id : String} {nm : Str} {l r : Expr} {t u : TE} {apos pos : Pos} (slot : Slot "list" nm id) (hty : typeOf (.builtin id) = pure (.type "method_descriptor")) (h : MtR X id (rM X m)) (hl : PE X l t) (hr : PE X r u) (hs : stE r = false) (hb : attributeBase l nm X.env (eval l X.env) = eval l X.env) (hline : (apos.endLine == pos.line) = true) :
    PE X (.Call (.Attribute l nm apos) [r] [] pos) (fun σ H Q => t σ H fun x H1 => tyV X.K "list" x H1 ∧ u σ H1 fun y H2 => rOp X.K X.w (fun x y => mthop m x [y]) false x y H2 Q) :=
  (pe_bm PySem.F.plainAttrs_list slot hty h (pe_up hl) (pa_cons (pe_up hr) pa_nil (star_plain hs)) hb (stE_few hs) hline (star_plain hs) rfl).imp fun σ H Q q => ⟨_, q, fun x H1 ⟨ty, q⟩ => ⟨ty, _, q, fun y H2 q => ⟨y, rfl, q⟩⟩⟩
theorem mth_list {m : Mth} (h : m = .index ∨ m = .count) : ∀ da db d, mthop m da [db] = .ok d → ∃ xs, da = .list xs := by
  intro da db d e
  rcases h with rfl | rfl <;> cases da with
    | list xs => exact ⟨xs, rfl⟩
    | _ => cases e
/-! ### min, max -/
theorem alikeA_ok {xs : List AV} (h : alikeA xs = true) : PyData.plainAll xs = true ∧ ∀ x ∈ xs, ∀ y ∈ xs, PySem.W.alike x y = true := by
  unfold alikeA at h
  rw [Bool.and_eq_true] at h
  refine ⟨h.1, fun x hx y hy => ?_⟩
  have h1 := List.all_eq_true.mp h.2 x hx
  exact List.all_eq_true.mp h1 y hy
theorem depth_all : ∀ {xs : List AV} {n : Nat}, xs.all (fun x => decide (x.depth ≤ n)) = true → PyData.depthAll xs ≤ n + 1
  | [], n, _ => by simp [PyData.depthAll]
  | x :: xs, n, h => by
    simp only [List.all_cons, Bool.and_eq_true, decide_eq_true_eq] at h
    have := depth_all (xs := xs) h.2
    rw [PyData.depthAll]
    omega
theorem minD_eq {x : AV} : ∀ {xs : List AV}, (∀ a ∈ x :: xs, ∀ b ∈ x :: xs, PySem.W.alike a b = true) → minD' x xs = PySem.W.minD x xs ∧ minD' x xs ∈ x :: xs
  | [], _ => ⟨rfl, List.mem_cons_self⟩
  | y :: ys, h => by
    have e1 : ltD y x = PySem.W.dataLt y x := ltD_eq (h y (by simp) x (by simp))
    have step : minD' x (y :: ys) = minD' (if ltD y x then y else x) ys := rfl
    have step2 : PySem.W.minD x (y :: ys) = PySem.W.minD (if PySem.W.dataLt y x then y else x) ys := rfl
    rw [step, step2, ← e1]
    have sub : ∀ z, (z = y ∨ z = x) → minD' z ys = PySem.W.minD z ys ∧ minD' z ys ∈ z :: ys := fun z hz => minD_eq fun a ha b hb => h a (by
      rcases List.mem_cons.mp ha with rfl | ha
      · rcases hz with rfl | rfl <;> simp
      · simp [ha]) b (by
      rcases List.mem_cons.mp hb with rfl | hb
      · rcases hz with rfl | rfl <;> simp
      · simp [hb])
    cases hlt : ltD y x with
    | true =>
      obtain ⟨g1, g2⟩ := sub y (.inl rfl)
      exact ⟨g1, by rcases List.mem_cons.mp g2 with g | g <;> simp [g]⟩
    | false =>
      obtain ⟨g1, g2⟩ := sub x (.inr rfl)
      exact ⟨g1, by rcases List.mem_cons.mp g2 with g | g <;> simp [g]⟩
theorem maxD_eq {x : AV} : ∀ {xs : List AV}, (∀ a ∈ x :: xs, ∀ b ∈ x :: xs, PySem.W.alike a b = true) → maxD' x xs = PySem.W.maxD x xs ∧ maxD' x xs ∈ x :: xs
  | [], _ => ⟨rfl, List.mem_cons_self⟩
  | y :: ys, h => by
    have e1 : ltD x y = PySem.W.dataLt x y := ltD_eq (h x (by simp) y (by simp))
    have step : maxD' x (y :: ys) = maxD' (if ltD x y then y else x) ys := rfl
    have step2 : PySem.W.maxD x (y :: ys) = PySem.W.maxD (if PySem.W.dataLt x y then y else x) ys := rfl
    rw [step, step2, ← e1]
    have sub : ∀ z, (z = y ∨ z = x) → maxD' z ys = PySem.W.maxD z ys ∧ maxD' z ys ∈ z :: ys := fun z hz => maxD_eq fun a ha b hb => h a (by
      rcases List.mem_cons.mp ha with rfl | ha
      · rcases hz with rfl | rfl <;> simp
      · simp [ha]) b (by
      rcases List.mem_cons.mp hb with rfl | hb
      · rcases hz with rfl | rfl <;> simp
      · simp [hb])
    cases hlt : ltD x y with
    | true =>
      obtain ⟨g1, g2⟩ := sub y (.inl rfl)
      exact ⟨g1, by rcases List.mem_cons.mp g2 with g | g <;> simp [g]⟩
    | false =>
      obtain ⟨g1, g2⟩ := sub x (.inr rfl)
      exact ⟨g1, by rcases List.mem_cons.mp g2 with g | g <;> simp [g]⟩
theorem alikeAll_of {x : AV} {xs : List AV} (h : ∀ a ∈ x :: xs, ∀ b ∈ x :: xs, PySem.W.alike a b = true) (hn : isNone x = false) : PySem.W.AlikeAll (x :: xs) := by
  refine ⟨h, fun y hy z => ?_⟩
  subst z
  have := h x List.mem_cons_self _ hy
  cases x <;> first | (simp [PySem.W.alike] at this; done) | (simp [isNone] at hn; done)
/-- the item that was picked: its value -/
theorem picked {pins : List (Addr × Obj)} {σ : L2.St} {H F : Hp} {s : Shared} {us : List V} {its : List Value} {xs : List AV} {d : AV} {h' : Heap} {tk : Nat} {v : Value} {i : Nat} {bs : List Addr} {Q : VK} (I : Inv X pins σ H s) (hF : Same F H) (hp : PyData.plainAll xs = true) (rv : Vals us its) (hr : RepL X.K X.w F us xs) (hd : d.plain = true)
    (hv : its.toArray[i]? = some v) (rd' : Reads h' v d bs) (hk : ∀ b o, s.heap.get? b = some o → h'.get? b = some o) (q : Res X.K X.w false F H d Q) : EP X pins σ Q v { s with heap := h', toks := tk } := by
  have hv2 : its[i]? = some v := by simpa using hv
  have hil : i < us.length := by rw [rv.length]; exact (List.getElem?_eq_some_iff.mp hv2).1
  obtain ⟨u, hu, ru⟩ := rv.get (List.getElem?_eq_getElem hil)
  rw [hv2] at hu
  cases hu
  obtain ⟨dd, g1, g2⟩ := hr.get' (List.getElem?_eq_getElem hil)
  have hpd : dd.plain = true := PySem.W.plain_mem hp (List.mem_of_getElem? g1)
  obtain ⟨as, r2⟩ := Rep.reads I hF hpd g2 ru
  have := SeqAt.plain_unique dd d v _ _ hpd (PyProof.Rows.Reads.keeps hk r2) rd'
  subst this
  exact ⟨_, H, I.kept hk, ru, q.old hF g2⟩
theorem cr_minE (hc : X.calm = true) (hu : X.A.units + 64 < cLine) : CallR X (.builtin "min") (r1E X .min false) := by
  intro pins s σ H xs us Q I r ⟨x, hx, F, dx, d, hF, ox, e, q⟩
  subst hx
  obtain ⟨u, rfl, ru⟩ := r.one
  cases dx with
  | list ds => cases ds with
    | nil => cases e
    | cons y ys =>
      have e : (if (alikeA (y :: ys) && (y :: ys).all dOk1 && !isNone y) = true then R.ok (minD' y ys) else .bad) = .ok d := e
      split at e
      · rename_i hcnd
        simp only [Bool.and_eq_true, Bool.not_eq_true'] at hcnd
        cases e
        obtain ⟨hp, hal⟩ := alikeA_ok hcnd.1.1
        obtain ⟨a, its, n, as, vs, rfl, rfl, ho, rs, hz, rv, hr⟩ := list_obj I hF hp ox ru
        have hdep : PyData.depthAll (y :: ys) ≤ 49 := depth_all hcnd.1.2
        obtain ⟨m1, m2⟩ := minD_eq hal
        rw [m1] at q
        refine PySem.W.min_list_data (vs := its.toArray) (I.ok.hd hc) ⟨_, ho, rfl, n, rfl⟩ rs (alikeAll_of hal hcnd.2) (by omega) fun i v h' tk bs hv rd' hk => picked I hF hp rv hr (PySem.W.plain_mem hp (by rw [← m1]; exact m2)) hv rd' hk q
      · cases e
  | tuple ds => cases ds with
    | nil => cases e
    | cons y ys =>
      have e : (if (alikeA (y :: ys) && (y :: ys).all dOk1 && !isNone y) = true then R.ok (minD' y ys) else .bad) = .ok d := e
      split at e
      · rename_i hcnd
        simp only [Bool.and_eq_true, Bool.not_eq_true'] at hcnd
        cases e
        obtain ⟨hp, hal⟩ := alikeA_ok hcnd.1.1
        obtain ⟨a, its, as, vs, rfl, rfl, ho, rs, rv, hr⟩ := tup_obj I hF hp ox ru
        have hdep : PyData.depthAll (y :: ys) ≤ 49 := depth_all hcnd.1.2
        obtain ⟨m1, m2⟩ := minD_eq hal
        rw [m1] at q
        refine PySem.W.min_tuple_data (vs := its.toArray) (I.ok.hd hc) ho rs (alikeAll_of hal hcnd.2) (by omega) fun i v h' tk bs hv rd' hk => picked I hF hp rv hr (PySem.W.plain_mem hp (by rw [← m1]; exact m2)) hv rd' hk q
      · cases e
  | _ => cases e
theorem cr_maxE (hc : X.calm = true) (hu : X.A.units + 64 < cLine) : CallR X (.builtin "max") (r1E X .max false) := by
  intro pins s σ H xs us Q I r ⟨x, hx, F, dx, d, hF, ox, e, q⟩
  subst hx
  obtain ⟨u, rfl, ru⟩ := r.one
  cases dx with
  | list ds => cases ds with
    | nil => cases e
    | cons y ys =>
      have e : (if (alikeA (y :: ys) && (y :: ys).all dOk1 && !isNone y) = true then R.ok (maxD' y ys) else .bad) = .ok d := e
      split at e
      · rename_i hcnd
        simp only [Bool.and_eq_true, Bool.not_eq_true'] at hcnd
        cases e
        obtain ⟨hp, hal⟩ := alikeA_ok hcnd.1.1
        obtain ⟨a, its, n, as, vs, rfl, rfl, ho, rs, hz, rv, hr⟩ := list_obj I hF hp ox ru
        have hdep : PyData.depthAll (y :: ys) ≤ 49 := depth_all hcnd.1.2
        obtain ⟨m1, m2⟩ := maxD_eq hal
        rw [m1] at q
        refine PySem.W.max_list_data (vs := its.toArray) (I.ok.hd hc) ⟨_, ho, rfl, n, rfl⟩ rs (alikeAll_of hal hcnd.2) (by omega) fun i v h' tk bs hv rd' hk => picked I hF hp rv hr (PySem.W.plain_mem hp (by rw [← m1]; exact m2)) hv rd' hk q
      · cases e
  | tuple ds => cases ds with
    | nil => cases e
    | cons y ys =>
      have e : (if (alikeA (y :: ys) && (y :: ys).all dOk1 && !isNone y) = true then R.ok (maxD' y ys) else .bad) = .ok d := e
      split at e
      · rename_i hcnd
        simp only [Bool.and_eq_true, Bool.not_eq_true'] at hcnd
        cases e
        obtain ⟨hp, hal⟩ := alikeA_ok hcnd.1.1
        obtain ⟨a, its, as, vs, rfl, rfl, ho, rs, rv, hr⟩ := tup_obj I hF hp ox ru
        have hdep : PyData.depthAll (y :: ys) ≤ 49 := depth_all hcnd.1.2
        obtain ⟨m1, m2⟩ := maxD_eq hal
        rw [m1] at q
        refine PySem.W.max_tuple_data (vs := its.toArray) (I.ok.hd hc) ho rs (alikeAll_of hal hcnd.2) (by omega) fun i v h' tk bs hv rd' hk => picked I hF hp rv hr (PySem.W.plain_mem hp (by rw [← m1]; exact m2)) hv rd' hk q
      · cases e
  | _ => cases e
end
end Ev
end
section
set_option linter.all false
set_option autoImplicit false
set_option maxRecDepth 100000
set_option maxHeartbeats 2000000
/-! EvZ0: sorting tuples of which some have no item. -/
namespace Ev
open PySem PySem.Spec PySem.Calls PyProof.Rows PySem.SeqAt PySem.W
section
variable {prog : Program} {w : World} {A : Around} {E : Value → Shared → Prop} {s : Shared}
theorem tup_lt_call {Q : Value → Shared → Prop} {l b : Addr} {us vs : Array Value} {e r : Nat → Bool} (hl : s.heap.IsTuple l us) (hb : s.heap.IsTuple b vs)
    (he : ∀ j (h1 : j < us.size) (h2 : j < vs.size), EqAt A.in1 s us[j] vs[j] (e j)) (hr : ∀ j (h1 : j < us.size) (h2 : j < vs.size), e j = false → RcLt A.in1 s us[j] vs[j] (r j))
    (h : Q (.bool (firstLt e r (decide (us.size < vs.size)) (List.range (min us.size vs.size)))) s) : wpAny (model prog w) A (call (.builtin "tuple.__lt__") [.ref l, .ref b]) Q E s := by
  obtain ⟨⟨c1, d1, t1, x1⟩, ho, hc, n, hd⟩ := id hl
  obtain ⟨⟨c2, d2, t2, x2⟩, ho2, hc2, n2, hd2⟩ := id hb
  simp only at hc hd hc2 hd2
  subst hc hd hc2 hd2
  exact call_meets F.slot_tuple_lt ⟨_, ho, rfl⟩ F.entry_tuple_lt (F.args_tuple_lt_2 _ _) (tuple_ltAt l b us vs n n2 d1 d2 x1 x2 e r) ⟨ho, ho2, he, hr, h⟩
theorem oneLt_tup {xs ys : List PyData} {a b : Value} {as bs : List Addr} {Q : Bool → Shared → Prop} (ra : Reads s.heap a (.tuple xs) as) (rb : Reads s.heap b (.tuple ys) bs) (h : PySem.W.alikeAll xs ys = true)
    (hu : A.units + min (PyData.depth (.tuple xs)) (PyData.depth (.tuple ys)) < cLine) (hq : Q (PySem.W.dataLt (.tuple xs) (.tuple ys)) s) : wpAny (model prog w) A (oneLt' true a b) Q E s := by
  cases ra with
  | @tuple l o us n _ as₁ h1 h2 h3 h4 =>
    cases rb with
    | @tuple l' o' vs n' _ bs₁ k1 k2 k3 k4 =>
      have n1 : us.size = xs.length := by simpa using ReadsAll.length _ _ _ h4
      have n2 : vs.size = ys.length := by simpa using ReadsAll.length _ _ _ k4
      rw [PySem.W.dataLt_tuple, ← PySem.W.firstLt_toks xs ys h, ← n1, ← n2] at hq
      rw [oneLt'_eq]
      simp only [if_true]
      refine wpAny_bind (wpAny_cRoomFor (room_here hu) ?_)
      refine wpAny_bind (wpAny_callSpecialIfBound?_slot (T := "tuple") ⟨_, h1, h2⟩ F.slot_tuple_lt (tup_lt_call (e := pairEq xs ys) (r := fun j => PySem.W.dataLt (xs.getD j .none) (ys.getD j .none)) ⟨_, h1, h2, _, h3⟩ ⟨_, k1, k2, _, k3⟩ (fun j j1 j2 => ?_) (fun j j1 j2 hj => ?_) ?_))
      · have := PySem.W.eqAt_alikeAll xs ys A.in1 s us.toList vs.toList _ _ h4 k4 h (room_in hu) j (by simpa using j1) (by simpa using j2)
        simpa using this
      · have := PySem.W.rcLt_alikeAll xs ys A.in1 s us.toList vs.toList _ _ h4 k4 h (room_in hu) j (by simpa using j1) (by simpa using j2) hj
        simpa using this
      · exact wpAny_truthy_bool hq
/-- tuples and their first items, if any -/
inductive KMix (h : Heap) : List Value → List (Option Value) → Prop
  | nil : KMix h [] []
  | cons {a : Addr} {o : Obj} {xs : Array Value} {n : Nat} {vs : List Value} {fs : List (Option Value)} : h.get? a = some o → o.cls = .type "tuple" → o.data = .seq xs n → KMix h vs fs → KMix h (.ref a :: vs) (xs[0]? :: fs)
theorem KMix.firsts {M : Model} : ∀ {vs : List Value} {fs : List (Option Value)} {Q : List (Option Value) → Shared → Prop}, KMix s.heap vs fs → Q fs s → wpAny M A (vs.mapM firstOfTuple') Q E s
  | _, _, _, .nil, h => by rw [List.mapM_nil]; exact wpAny_pure h
  | _, _, Q, .cons (vs := vs) (fs := fs) (xs := xs) ho hc hd t, h => by
    rw [List.mapM_cons]
    refine wpAny_bind ?_
    rw [kas_first_eq]
    refine wpAny_bind (Looks.here ((Looks.ld ho).andThen .now) ?_)
    rw [hc, if_neg (by first | decide | simp)]
    refine wpAny_bind (listItems_at ho hd (wpAny_pure ?_))
    exact wpAny_bind (t.firsts (Q := fun bs s' => wpAny M A (pure (xs[0]? :: bs)) Q E s') (wpAny_pure h))
theorem KMix.ty {M : Model} : ∀ {vs : List Value} {fs : List (Option Value)}, KMix s.heap vs fs → ∀ v ∈ vs, Looks M s.heap (typeOf v) (.type "tuple")
  | _, _, .nil, v, hv => by cases hv
  | _, _, .cons ho hc hd t, v, hv => by
    rcases List.mem_cons.mp hv with rfl | hv
    · rw [← hc]
      exact (Looks.ld ho).andThen .now
    · exact t.ty v hv
theorem KMix.kind {M : Model} {vs : List Value} {f : Option Value} {fs : List (Option Value)} {Q : SortKind → Shared → Prop} (t : KMix s.heap vs (f :: fs)) (hn : ((f :: fs).all fun x => x.isSome) = false) (h : Q (if f.isSome then general' else oneType') s) :
    wpAny M A (keyKind' vs.toArray) Q E s := by
  rw [keyKind'_eq, List.mapM_toArray, map_eq_pure_bind]
  refine wpAny_bind (wpAny_bind (t.firsts (wpAny_pure ?_)))
  have h0 : ((f :: fs).toArray.all fun x => x.isSome) = false := by rw [List.all_toArray]; exact hn
  rw [h0, if_neg (by simp)]
  have h1 : (((f :: fs).toArray)[0]?.bind id) = f := by simp
  rw [h1]
  cases f with
  | some v => exact wpAny_pure h
  | none =>
    rw [if_neg (by simp)]
    rw [oneTypeOnly'_eq, List.mapM_toArray, map_eq_pure_bind]
    refine wpAny_bind (wpAny_bind (wpAny_bind (kas_mapM (r := Value.type "tuple") _ (fun v hv Q' hq => (t.ty v hv).here hq) (wpAny_pure ?_))))
    cases vs with
    | nil => cases t
    | cons v vs =>
      have hall : ((List.map (fun _ => Value.type "tuple") (v :: vs)).toArray.all fun x => x == Value.type "tuple") = true := by
        rw [List.all_toArray, List.all_map, List.all_eq_true]
        intro _ _
        exact beq_self_eq_true _
      have h2 : (List.map (fun _ => Value.type "tuple") (v :: vs)).toArray[0]? = some (Value.type "tuple") := by simp
      rw [h2]
      simp only [hall, if_true]
      exact wpAny_pure (wpAny_pure h)
theorem mix_of {h : Heap} : ∀ {vs : List Value} {ds : List PyData}, PySem.W.EachIs (fun v d => ∃ as, Reads h v d as) vs ds → (∀ d ∈ ds, ∃ xs, d = .tuple xs) → ∃ fs, KMix h vs fs ∧ fs.length = vs.length ∧ (PyData.tuple [] ∈ ds → (fs.all fun x => x.isSome) = false)
  | _, _, .nil, _ => ⟨[], .nil, rfl, fun z => by cases z⟩
  | _, _, .cons (b := d) ⟨as, r⟩ t, ht => by
    obtain ⟨fs, h1, h2, h3⟩ := mix_of t fun d hd => ht d (List.mem_cons_of_mem _ hd)
    obtain ⟨xs, rfl⟩ := ht d List.mem_cons_self
    cases r with
    | @tuple a o us n _ _ ho hc hd hr =>
      refine ⟨us[0]? :: fs, .cons ho hc hd h1, by rw [List.length_cons, List.length_cons, h2], fun z => ?_⟩
      rcases List.mem_cons.mp z with z | z
      · cases z
        have e : us.toList = [] := by
          cases q : us.toList with
          | nil => rfl
          | cons u l => rw [q] at hr; cases hr
        have e2 : us[0]? = none := by rw [← Array.getElem?_toList, e]; rfl
        rw [e2]
        rfl
      · rw [List.all_cons, h3 z, Bool.and_false]
theorem sorts_mix {vs : List Value} {ds : List PyData} (e : PySem.W.EachIs (fun v d => ∃ as, Reads s.heap v d as) vs ds) (hal : PySem.W.AllAlike ds) (ht : ∀ d ∈ ds, ∃ xs, d = .tuple xs) (he : PyData.tuple [] ∈ ds) (hu : ∀ d, d ∈ ds → A.units + d.depth < cLine) :
    PySem.W.SortsAt prog w A s (PySem.W.dataKind s.heap ds) vs := by
  have room : ∀ {d d' : PyData}, d ∈ ds → A.units + min d.depth d'.depth < cLine := fun {d d'} hd => Nat.lt_of_le_of_lt (Nat.add_le_add_left (Nat.min_le_left _ _) _) (hu d hd)
  obtain ⟨fs, k1, k2, k3⟩ := mix_of e ht
  refine ⟨fun v hv => ?_, ?_⟩
  · obtain ⟨d, hd, as, r⟩ := e.left v hv
    exact ⟨_, PySem.W.dataKind_some hal hd r⟩
  · cases fs with
    | nil => exact absurd (k3 he) (by simp)
    | cons f fs =>
      refine ⟨if f.isSome then general' else oneType', ?_, fun h2 E Q hq => k1.kind (k3 he) hq⟩
      intro E x y a b Q ha hb hq
      obtain ⟨d, as, hd, ra, rfl⟩ := PySem.W.dataKind_inv ha
      obtain ⟨d', as', hd', rb, rfl⟩ := PySem.W.dataKind_inv hb
      have hdd := hal d hd d' hd'
      obtain ⟨xs, rfl⟩ := ht d hd
      obtain ⟨ys, rfl⟩ := ht d' hd'
      cases f with
      | some v => exact PySem.W.oneLt_alike (f := false) (fun z => by cases z) ra rb hdd (by simp) (room hd) hq
      | none => exact oneLt_tup ra rb (by simpa [PySem.W.alike] using hdd) (room hd) hq
/-! ### sorted of a tuple -/
theorem coll_tup {l : Addr} {us : List Value} {Q : List Value → Shared → Prop} (tl : s.heap.IsTuple l us.toArray) (hz : us.length ≤ sizeLine)
    (q : Q us { s with heap := (s.heap.push (seqObj "list" #[] 0)).update s.heap.objs.size (Obj.mapSeq (· ++ us.toArray)) }) : wpAny (model prog w) A (collect (.ref l)) Q E s := by
  obtain ⟨ob, g1, g2, n, g3⟩ := id tl
  have g4 : (s.heap.push (seqObj "list" #[] 0)).get? l = some ob := Heap.get?_push_of_some _ g1
  unfold collect
  refine wpAny_bind (wpAny_runValue (codeAny_builtin (by exact entry_proto_collect') ?_))
  show wpAny _ _ (do again (.builtin "list.__iadd__" ⟨[← newList [], Value.ref l], []⟩)) _ _ s
  refine wpAny_bind (wpAny_newList (wpAny_pure (And.intro (Code.quiet_builtin _ (by decide +kernel)) (codeAny_builtin entry_list_iadd' ?_))))
  show wpAny _ _ (Builtin.List.listExtendWith (.ref s.heap.objs.size) (Value.ref l) (.ref s.heap.objs.size)) _ _ { s with heap := s.heap.push (seqObj "list" #[] 0) }
  unfold Builtin.List.listExtendWith
  refine wpAny_bind (wpAny_typeOf (T := "tuple") ⟨ob, g4, g2⟩ ?_)
  rw [if_pos (by rw [show (Value.type "tuple" == Value.type "tuple") = true from rfl]; simp)]
  refine wpAny_bind (listItems_at g4 g3 ?_)
  refine wpAny_bind (listItems_at (n := 0) (xs := #[]) (Heap.get?_push_size _ rfl) (by rfl) ?_)
  rw [if_neg (show ¬ (!(#[] : Array Value).isEmpty && Builtin.List.listTooLong ((#[] : Array Value).size + us.toArray.size)) = true by simp)]
  refine wpAny_bind (listUpdate_at (n := 0) (xs := #[]) (Heap.get?_push_size _ rfl) (by rfl) ?_ (Nat.zero_le _) (by show (#[] ++ us.toArray).size ≤ sizeLine + 1; rw [Array.size_append, List.size_toArray]; show 0 + us.length ≤ _; omega))
  refine wpAny_pure ?_
  refine (show wpAny (model prog w) A (do
      let ob ← load s.heap.objs.size
      match ob.data with
      | .seq ys _ => pure ys.toList
      | _ => unsupported "internal:collect") Q E { s with heap := (s.heap.push (seqObj "list" #[] 0)).update s.heap.objs.size (Obj.mapSeq (· ++ us.toArray)) } from ?_)
  refine wpAny_bind (wpAny_load (get?_update_seq (Heap.get?_push_size _ rfl) _) ?_)
  have e : ((#[] : Array Value) ++ us.toArray).toList = us := by simp
  show wpAny _ _ (pure ((#[] : Array Value) ++ us.toArray).toList) Q E _
  rw [e]
  exact wpAny_pure q
theorem sorted_tup {κ : PyProof.Rows.KeyKind} {l : Addr} {us : List Value} {Q : Value → Shared → Prop} (tl : s.heap.IsTuple l us.toArray) (S : PySem.W.SortsAt prog w A.in1.in1 { s with heap := PySem.W.sortingHeap (PySem.W.copyHeap s.heap us) (s.heap.objs.size + 1) us } κ us) (hz : us.length ≤ sizeLine)
    (q : Q (.ref (s.heap.objs.size + 1)) { s with heap := sortedAll s.heap us (PySem.W.sortVals κ false us us).toArray }) : wpAny (model prog w) A (call (.builtin "sorted") [.ref l]) Q E s := by
  refine call_function_entry_kw kind_sorted plain_sorted entry_sorted (by exact args_sorted1 _) ?_
  unfold Builtin.«sorted»
  refine wpAny_bind (m := checkCount "sorted" 1 1 _) (wpAny_pure (a := ()) ?_)
  refine wpAny_bind (coll_tup tl hz ?_)
  refine wpAny_bind (wpAny_newList ?_ hz)
  have e : ((s.heap.push (seqObj "list" #[] 0)).update s.heap.objs.size (Obj.mapSeq (· ++ us.toArray))).objs.size = s.heap.objs.size + 1 := (Heap.size_update ..).trans (size_push' ..)
  show wpAny _ _ _ _ _ { s with heap := PySem.W.copyHeap s.heap us }
  rw [e]
  refine wpAny_bind (wpAny_holding (wpAny_call_entry_kw slot_list_sort ⟨_, PySem.W.copyHeap_at s.heap us, rfl⟩ entry_list_sort ?body (by exact args_list_sort _)))
  case body =>
    show wpAny (model prog w) A.in1.in1 (Builtin.«list.sort» ⟨[.ref (s.heap.objs.size + 1)], []⟩) _ _ _
    exact PySem.W.list_sort_vals (s := { s with heap := PySem.W.copyHeap s.heap us }) (PySem.W.copyHeap_at s.heap us) S hz ⟨_, rfl, wpAny_pure ⟨_, rfl, q⟩⟩
theorem sorts_all {vs : List Value} {ds : List PyData} (e : PySem.W.EachIs (fun v d => ∃ as, Reads s.heap v d as) vs ds) (hal : PySem.W.AllAlike ds) (hk : PySem.W.Sortable ds ∨ ((∀ d ∈ ds, ∃ xs, d = .tuple xs) ∧ PyData.tuple [] ∈ ds)) (hu : ∀ d, d ∈ ds → A.units + d.depth < cLine) :
    PySem.W.SortsAt prog w A s (PySem.W.dataKind s.heap ds) vs := by
  rcases hk with h | ⟨h1, h2⟩
  · exact PySem.W.SortsAt.data e hal h hu
  · exact sorts_mix e hal h1 h2 hu
/-- sorted of a list or a tuple of alike data -/
theorem sorted_any {β : Type} {vs : List Value} {bs : List β} {enc : β → PyData} {R : Value → β → Prop} {l : Addr} {Q : Value → Shared → Prop} (hl : s.heap.IsList l vs.toArray ∨ s.heap.IsTuple l vs.toArray) (e : PySem.W.EachIs R vs bs) (er : PySem.W.EachIs (fun v b => ∃ as, Reads s.heap v (enc b) as) vs bs) (hal : PySem.W.AllAlike (bs.map enc))
    (hk : PySem.W.Sortable (bs.map enc) ∨ ((∀ d ∈ bs.map enc, ∃ xs, d = .tuple xs) ∧ PyData.tuple [] ∈ bs.map enc)) (hL : bs.length ≤ sizeLine)
    (hu : ∀ b, b ∈ bs → A.units + 2 + (enc b).depth < cLine) (h : ∀ out, out.length = bs.length → PySem.W.EachIs R out (bs.mergeSort (PySem.W.dataLe false enc)) → Q (.ref (s.heap.objs.size + 1)) { s with heap := sortedAll s.heap vs (List.toArray out) }) :
    wpAny (model prog w) A (call (.builtin "sorted") [.ref l]) Q E s := by
  have er' := er.mono (R' := fun v b => ∃ as, Reads (PySem.W.sortingHeap (PySem.W.copyHeap s.heap vs) (s.heap.objs.size + 1) vs) v (enc b) as) fun _ _ ⟨as, r⟩ => ⟨as, PyProof.Rows.Reads.keeps (fun _ _ => PySem.W.sorting_copy_old) r⟩
  have S := sorts_all (prog := prog) (w := w) (A := A.in1.in1) (s := { s with heap := PySem.W.sortingHeap (PySem.W.copyHeap s.heap vs) (s.heap.objs.size + 1) vs }) (PySem.W.each_map (R := fun v d => ∃ as, Reads (PySem.W.sortingHeap (PySem.W.copyHeap s.heap vs) (s.heap.objs.size + 1) vs) v d as) enc er') hal hk (PySem.W.bound_map hu)
  have fin := h _ (by rw [PySem.W.sortVals_length false rfl]; exact e.length) (PySem.W.sortVals_data false e er' hal)
  rcases hl with hl | hl
  · exact PySem.W.sorted_vals hl S (by rw [e.length]; exact hL) fin
  · exact sorted_tup hl S (by rw [e.length]; exact hL) fin
end
end Ev
end
section
set_option linter.all false
set_option autoImplicit false
set_option maxRecDepth 100000
set_option maxHeartbeats 2000000
/-! EvZ: sorted. -/
namespace Ev
open PySem PySem.Spec PyProof.Rows L2
def leD (a b : AV) : Bool := !PySem.W.dataLt b a
theorem leD_eq : leD = PySem.W.dataLe false fun b => b := by
  rw [PySem.W.dataLe_eq]
  rfl
theorem leD_total : PySem.W.TotalLe leD := by
  rw [leD_eq]
  exact PySem.W.sortLe_total _ _ _
def insK (x : AV) : List AV → List AV
  | [] => [x]
  | y :: ys => if PySem.W.dataLt y x then y :: insK x ys else x :: y :: ys
def isK : List AV → List AV
  | [] => []
  | x :: xs => insK x (isK xs)
theorem insK_mem {x z : AV} : ∀ {ys : List AV}, z ∈ insK x ys ↔ z = x ∨ z ∈ ys
  | [] => by simp [insK]
  | y :: ys => by
    unfold insK
    split
    · rw [List.mem_cons, insK_mem, List.mem_cons]
      constructor
      · rintro (h | h | h)
        · exact .inr (.inl h)
        · exact .inl h
        · exact .inr (.inr h)
      · rintro (h | h | h)
        · exact .inr (.inl h)
        · exact .inl h
        · exact .inr (.inr h)
    · simp
theorem isK_mem {z : AV} : ∀ {xs : List AV}, z ∈ isK xs ↔ z ∈ xs
  | [] => by simp [isK]
  | x :: xs => by rw [isK, insK_mem, isK_mem, List.mem_cons]
theorem insB_eq {x : AV} : ∀ {ys : List AV}, (∀ y ∈ ys, PySem.W.alike y x = true) → isort.insB x ys = insK x ys
  | [], _ => rfl
  | y :: ys, h => by
    unfold isort.insB insK
    rw [ltD_eq (h y List.mem_cons_self), insB_eq fun z hz => h z (List.mem_cons_of_mem _ hz)]
theorem isort_eq : ∀ {xs : List AV}, (∀ a ∈ xs, ∀ b ∈ xs, PySem.W.alike a b = true) → isort xs = isK xs
  | [], _ => rfl
  | x :: xs, h => by
    have e := isort_eq (xs := xs) fun a ha b hb => h a (List.mem_cons_of_mem _ ha) b (List.mem_cons_of_mem _ hb)
    unfold isort isK
    rw [e]
    exact insB_eq fun y hy => h y (List.mem_cons_of_mem _ (isK_mem.mp hy)) x List.mem_cons_self
theorem insK_sorted {x : AV} : ∀ {ys : List AV}, ys.Pairwise (fun a b => leD a b = true) → (insK x ys).Pairwise (fun a b => leD a b = true)
  | [], _ => List.pairwise_singleton _ _
  | y :: ys, h => by
    obtain ⟨h1, h2⟩ := List.pairwise_cons.mp h
    unfold insK
    split
    · rename_i hl
      refine List.pairwise_cons.mpr ⟨fun z hz => ?_, insK_sorted h2⟩
      rcases insK_mem.mp hz with rfl | hz
      · have := leD_total.total z y
        rcases this with t | t
        · unfold leD at t; rw [hl] at t; cases t
        · exact t
      · exact h1 z hz
    · rename_i hl
      have hxy : leD x y = true := by
        unfold leD
        simpa using hl
      refine List.pairwise_cons.mpr ⟨fun z hz => ?_, h⟩
      rcases List.mem_cons.mp hz with rfl | hz
      · exact hxy
      · exact leD_total.trans _ _ _ hxy (h1 z hz)
theorem isK_sorted : ∀ {xs : List AV}, (isK xs).Pairwise (fun a b => leD a b = true)
  | [] => List.Pairwise.nil
  | x :: xs => insK_sorted isK_sorted
theorem insK_filter {x c : AV} : ∀ {ys : List AV}, (insK x ys).filter (PySem.W.sameRank leD c) = (x :: ys).filter (PySem.W.sameRank leD c)
  | [] => rfl
  | y :: ys => by
    unfold insK
    split
    · rename_i hl
      have ih := insK_filter (x := x) (c := c) (ys := ys)
      rw [List.filter_cons, ih, List.filter_cons, List.filter_cons (x := x), List.filter_cons]
      cases hx : PySem.W.sameRank leD c x with
      | false => simp
      | true =>
        cases hy : PySem.W.sameRank leD c y with
        | false => simp
        | true =>
          exfalso
          unfold PySem.W.sameRank at hx hy
          rw [Bool.and_eq_true] at hx hy
          have := leD_total.trans _ _ _ hx.2 hy.1
          unfold leD at this
          rw [hl] at this
          cases this
    · rfl
theorem isK_filter {c : AV} : ∀ {xs : List AV}, (isK xs).filter (PySem.W.sameRank leD c) = xs.filter (PySem.W.sameRank leD c)
  | [] => rfl
  | x :: xs => by
    rw [isK, insK_filter, List.filter_cons, isK_filter, List.filter_cons]
theorem isK_merge (xs : List AV) : isK xs = xs.mergeSort leD := PySem.W.sort_unique leD_total isK_sorted fun c => isK_filter
section
variable {X : Cx}
theorem zip_each {K : PySem.W.Frag} {w : World} {F : Hp} : ∀ {us : List V} {its : List Value} {ds : List AV}, Vals us its → RepL K w F us ds → PySem.W.EachIs (fun (v : Value) (b : V × AV) => RelV b.1 v ∧ Rep K w F b.1 b.2) its (us.zip ds)
  | _, _, _, .nil, .nil => .nil
  | _, _, _, .cons r t, .cons h q => .cons ⟨r, h⟩ (zip_each t q)
theorem each_vals {K : PySem.W.Frag} {w : World} {F : Hp} : ∀ {out : List Value} {bs : List (V × AV)}, PySem.W.EachIs (fun (v : Value) (b : V × AV) => RelV b.1 v ∧ Rep K w F b.1 b.2) out bs → Vals (bs.map (·.1)) out ∧ RepL K w F (bs.map (·.1)) (bs.map (·.2))
  | _, _, .nil => ⟨.nil, .nil⟩
  | _, _, .cons h t => let ⟨g1, g2⟩ := each_vals t; ⟨.cons h.1 g1, .cons h.2 g2⟩
theorem zip_snd : ∀ {us : List V} {ds : List AV}, us.length = ds.length → (us.zip ds).map (·.2) = ds
  | [], [], _ => rfl
  | _ :: us, _ :: ds, h => by
    rw [List.zip_cons_cons, List.map_cons, zip_snd (by simpa using h)]
  | [], _ :: _, h => by cases h
  | _ :: _, [], h => by cases h
theorem each_reads {pins : List (Addr × Obj)} {σ : L2.St} {H F : Hp} {s : Shared} (I : Inv X pins σ H s) (hF : Same F H) : ∀ {us : List V} {its : List Value} {ds : List AV}, PyData.plainAll ds = true → Vals us its → RepL X.K X.w F us ds → PySem.W.EachIs (fun v (b : V × AV) => ∃ as, Reads s.heap v b.2 as) its (us.zip ds)
  | _, _, _, _, .nil, .nil => .nil
  | _, _, _, hp, .cons r t, .cons h q => by
    have hp' := by simpa [PyData.plainAll] using hp
    exact .cons (Rep.reads I hF hp'.1 h r) (each_reads I hF hp'.2 t q)
/-- a list or a tuple -/
def seqO : AV → Option (List AV)
  | .list ds => some ds
  | .tuple ds => some ds
  | _ => none
theorem seq_obj {pins : List (Addr × Obj)} {σ : L2.St} {H F : Hp} {s : Shared} {x : V} {v : Value} {dx : AV} {xs : List AV} (I : Inv X pins σ H s) (hF : Same F H) (hs : seqO dx = some xs) (o : Opd X.K X.w F H x dx) (rx : RelV x v) :
    ∃ (a : Addr) (its : List Value) (us : List V), x = .ref a ∧ v = .ref a ∧ (s.heap.IsList a its.toArray ∨ s.heap.IsTuple a its.toArray) ∧ its.length ≤ sizeLine ∧ Vals us its ∧ RepL X.K X.w F us xs := by
  cases dx with
  | list ds =>
    cases hs
    obtain ⟨a, us, rfl, hq, hr⟩ := o.listE
    cases rx
    obtain ⟨z, its, n, rv, hl, e⟩ := inv_lst I hq
    exact ⟨a, its, us, rfl, rfl, .inl ⟨_, e, rfl, n, rfl⟩, by omega, rv, hr⟩
  | tuple ds =>
    cases hs
    obtain ⟨a, us, rfl, hq, hr⟩ := o.tupE
    cases rx
    obtain ⟨its, rv, ht, hz⟩ := I.tuple (Same.tup hF hq)
    exact ⟨a, its, us, rfl, rfl, .inr ht, by rw [← rv.length]; exact hz, rv, hr⟩
  | _ => cases hs
theorem cr_sortedE {b : Bool} (hu : X.A.units + 64 < cLine) : CallR X (.builtin "sorted") (r1E X .sorted b) := by
  intro pins s σ H xs us Q I r ⟨x, hx, F, dx, d, hF, ox, e, q⟩
  subst hx
  obtain ⟨u, rfl, ru⟩ := r.one
  have hs : ∃ ds, seqO dx = some ds ∧ sortD ds = .ok d := by
    cases dx with
    | list ds => exact ⟨ds, rfl, e⟩
    | tuple ds => exact ⟨ds, rfl, e⟩
    | _ => cases e
  obtain ⟨ds, hs, e⟩ := hs
  have e : (if (alikeA ds && ds.all dOk1 && (ds.all isTup0 || ds.all notTup)) = true then R.ok (PyData.list (isort ds)) else .bad) = .ok d := e
  split at e
  · rename_i hc
    simp only [Bool.and_eq_true, Bool.or_eq_true] at hc
    cases e
    obtain ⟨hp, hal⟩ := alikeA_ok hc.1.1
    obtain ⟨a, its, vs, rfl, rfl, ho, hz, rv, hr⟩ := seq_obj I hF hs ox ru
    have hl : vs.length = ds.length := hr.length
    have hm := zip_snd hl
    have hE := zip_each rv hr
    have hu2 : ∀ p, p ∈ vs.zip ds → X.A.units + 2 + p.2.depth < cLine := fun p hp2 => by
      have : p.2 ∈ ds := by
        rw [← hm]
        exact List.mem_map_of_mem hp2
      have h1 := List.all_eq_true.mp hc.1.2 _ this
      have h2 : p.2.depth ≤ 48 := of_decide_eq_true h1
      omega
    have hz2 : (vs.zip ds).length ≤ sizeLine := by
      rw [List.length_zip, ← hl, Nat.min_self, rv.length]
      exact hz
    have hk : PySem.W.Sortable ds ∨ ((∀ d ∈ ds, ∃ xs, d = .tuple xs) ∧ PyData.tuple [] ∈ ds) := by
      by_cases hne : ds.all tupNE = true
      · refine .inl (.inl fun y hy => ?_)
        have := List.all_eq_true.mp hne y hy
        unfold tupNE at this
        split at this
        · exact ⟨_, _, rfl⟩
        · cases this
      · rcases hc.2 with h | h
        · have ht : ∀ d ∈ ds, ∃ xs, d = .tuple xs := fun d hd => by
            have := List.all_eq_true.mp h d hd
            unfold isTup0 at this
            split at this
            · exact ⟨_, rfl⟩
            · cases this
          refine .inr ⟨ht, ?_⟩
          rw [Bool.not_eq_true, List.all_eq_false] at hne
          obtain ⟨d, hd, h1⟩ := hne
          obtain ⟨xs, rfl⟩ := ht d hd
          cases xs with
          | nil => exact hd
          | cons x xs => exact absurd rfl h1
        · refine .inl (.inr fun y hy => ?_)
          have := List.all_eq_true.mp h y hy
          unfold notTup at this
          refine ⟨fun z => ?_, fun zs z => ?_⟩
          · subst z; cases this
          · subst z; cases this
    refine sorted_any (vs := its) (bs := vs.zip ds) (enc := fun b : V × AV => b.2) ho hE (each_reads I hF hp rv hr) (by rw [hm]; exact hal) (by rw [hm]; exact hk) hz2 hu2 fun out hlen ho2 => ?_
    obtain ⟨g1, g2⟩ := each_vals ho2
    have e1 : ((vs.zip ds).mergeSort (PySem.W.dataLe false fun b : V × AV => b.2)).map (·.2) = isort ds := by
      rw [PySem.W.sort_maps (s := leD) (fun b : V × AV => b.2) (fun a _ b _ => by rw [PySem.W.dataLe_eq]; rfl), hm, isort_eq hal, isK_merge]
    rw [e1] at g2
    obtain ⟨ep, he⟩ := PyProof.Rows.sortedAll_at s.heap its out.toArray
    have hlen2 : (((vs.zip ds).mergeSort (PySem.W.dataLe false fun b : V × AV => b.2)).map (·.1)).length ≤ sizeLine := by
      rw [g1.length, hlen]
      exact hz2
    have hfr := I.hok.fresh (Nat.le_succ s.heap.objs.size)
    exact ⟨.ref _, upd H (s.heap.objs.size + 1) (.lst _), I.laid (t' := s.toks) (fun _ _ => PyProof.Rows.sortedAll_old) (Nat.le_succ _) ⟨hlen2, out, ep, g1, he⟩, rfl, q.newL hF g2 hfr⟩
  · cases e
end
end Ev
end
section
set_option linter.all false
set_option autoImplicit false
set_option maxRecDepth 100000
set_option maxHeartbeats 2000000
/-! EvZi: sorted(d.items()). -/
namespace Ev
open PySem PySem.Spec PyProof.Rows L2
section
variable {X : Cx}
/-- tuples already laid are tracked, and kept as they are -/
theorem lay_pairs {pins : List (Addr × Obj)} {σ : L2.St} {H0 : Hp} {s : Shared} {h' : Heap} {tk : Nat} (I0 : Inv X pins σ H0 s) : ∀ (zs : List (Addr × Ent)) (F1 H1 : Hp), Same F1 H1 → Inv X pins σ H1 { s with heap := h', toks := tk } → (zs.map (·.1)).Nodup →
    (∀ z ∈ zs, s.heap.objs.size ≤ z.1 ∧ H1 z.1 = none ∧ ∀ H2, ObjOk X.prog X.w H2 h' z.1 (.tup [keyV z.2, z.2.2])) →
    ∃ F2 H2, Inv X pins σ H2 { s with heap := h', toks := tk } ∧ Ext F1 H1 F2 H2 ∧ ∀ z ∈ zs, F2 z.1 = some (.tup [keyV z.2, z.2.2])
  | [], F1, H1, hF, I1, _, _ => ⟨F1, H1, I1, .refl hF, fun _ h => nomatch h⟩
  | z :: zs, F1, H1, hF, I1, hn, h => by
    obtain ⟨hb, hnone, ok⟩ := h z (List.mem_cons_self ..)
    have I2 : Inv X pins σ (upd H1 z.1 (.tup [keyV z.2, z.2.2])) { s with heap := h', toks := tk } := I1.take (h' := h') (t' := tk) (fun b ob _ e => e) (I0.fpOk hb hnone) (ok _)
    have x1 := ext_new' (o := .tup [keyV z.2, z.2.2]) hF hnone
    rw [List.map_cons, List.nodup_cons] at hn
    obtain ⟨F2, H2, I3, x2, g⟩ := lay_pairs I0 zs _ _ x1.fh I2 hn.2 fun c hc => by
      obtain ⟨c1, c2, c3⟩ := h c (List.mem_cons_of_mem _ hc)
      exact ⟨c1, by rw [upd_ne (fun y => hn.1 (by rw [← y]; exact List.mem_map.mpr ⟨c, hc, rfl⟩))]; exact c2, c3⟩
    refine ⟨F2, H2, I3, x1.trans x2, fun c hc => ?_⟩
    rcases List.mem_cons.mp hc with rfl | hc
    · exact x2.ff _ _ upd_same
    · exact g c hc
/-- the pairs' data -/
def pairA (p : AV × AV) : AV := .tuple [p.1, p.2]
theorem rep_pairs {K : PySem.W.Frag} {w : World} {F F2 : Hp} (s : Same F F2) : ∀ {as : List Addr} {L : List Ent} {kvs : List (AV × AV)} {tk : Bool}, as.length = L.length → RepD K w F tk L kvs → (∀ z ∈ as.zip L, F2 z.1 = some (.tup [keyV z.2, z.2.2])) → RepL K w F2 (as.map V.ref) (kvs.map pairA) := by
  intro as L kvs tk hl hr ht
  have hk := hr.keysV
  have hv := hr.valsV
  clear hr
  induction L generalizing as kvs with
  | nil =>
    obtain rfl := List.eq_nil_of_length_eq_zero hl
    cases kvs with
    | nil => exact .nil
    | cons q kvs => cases hk
  | cons e L ih =>
    cases as with
    | nil => cases hl
    | cons a as =>
      cases kvs with
      | nil => cases hk
      | cons q kvs =>
        cases hk with
        | cons k1 k2 =>
          cases hv with
          | cons v1 v2 =>
            refine .cons (.tup (.inl (.inl (ht (a, e) List.mem_cons_self))) (.cons (k1.mono s) (.cons (v1.mono s) .nil))) (ih (by simpa using hl) (fun z hz => ht z (List.mem_cons_of_mem _ hz)) k2 v2)
theorem cr_sortedItemsE {b : Bool} (hc : X.calm = true) (hu : X.A.units + 64 < cLine) : CallR X (.builtin "sorted") (fun xs H Q => ∃ (p a : Addr) (ob : Obj) (L : List Ent) (F : Hp) (tk : Bool) (kvs : List (AV × AV)) (d : AV), xs = [.ref p] ∧ H p = some (.ext (ViewP "dict_items" p a)) ∧ H a = some (dictH X.w a ob L) ∧ Same F H ∧ RepD X.K X.w F tk L kvs ∧ sortD (kvs.map pairA) = .ok d ∧ Res X.K X.w b F H d Q) := by
  intro pins s σ H xs us Q I r h
  obtain ⟨p, a, ob, L, F, tk, kvs, d, rfl, hp, hd, hF, hr, e, q⟩ := h
  obtain ⟨u, rfl, rx⟩ := r.one
  cases rx
  have e : (if (alikeA (kvs.map pairA) && (kvs.map pairA).all dOk1 && ((kvs.map pairA).all isTup0 || (kvs.map pairA).all notTup)) = true then R.ok (PyData.list (isort (kvs.map pairA))) else .bad) = .ok d := e
  split at e
  · rename_i hcd
    simp only [Bool.and_eq_true, Bool.or_eq_true] at hcd
    cases e
    obtain ⟨hpl, hal⟩ := alikeA_ok hcd.1.1
    obtain ⟨hs, hx, ho, es, ep, hdt, hsz, z, ent⟩ := dic_ents (dic_at I.hok hd)
    have hv : ViewP "dict_items" p a s.heap := (show ObjOk X.prog X.w H s.heap p (.ext (ViewP "dict_items" p a)) from I.hok p _ hp).1
    have hkl : kvs.length = L.length := hr.length.symm
    generalize hds : kvs.map pairA = ds at hcd hpl hal q
    have hdl : ds.length = L.length := by rw [← hds, List.length_map]; exact hkl
    refine call_function_entry_kw kind_sorted plain_sorted entry_sorted (by exact args_sorted1 _) ?_
    unfold Builtin.«sorted»
    refine wpAny_bind (m := checkCount "sorted" 1 1 _) (wpAny_pure (a := ()) ?_)
    refine wpAny_bind (PySem.W.dil_collect (A := X.A.in1) (es := es) (ep := ep) (I.ok.hd hc) ⟨_, hv, rfl, rfl⟩ ⟨ob, ho, hx, hdt⟩ (by omega) fun h' tk' as hk hl hG => ?_)
    have hasL : as.length = L.length := by omega
    -- the pairs are tracked
    have I1 : Inv X pins σ H { s with heap := h', toks := tk' } := I.kept (t' := tk') hk
    obtain ⟨F2, H2, I2, x2, tups⟩ := lay_pairs (h' := h') (tk := tk') I (as.zip L) F H hF I1 (by
      rw [List.map_fst_zip (by omega)]
      exact hG.rise.imp fun h => Nat.ne_of_lt h) fun y hy => by
        obtain ⟨j, hj⟩ := List.mem_iff_getElem?.mp hy
        obtain ⟨hj1, hj2⟩ := List.getElem?_zip_eq_some.mp hj
        have hab := hG.above _ (List.mem_of_getElem? hj1)
        refine ⟨Nat.le_of_lt hab, I.hok.fresh (Nat.le_of_lt hab), fun H2 => ?_⟩
        obtain ⟨hlt, hg⟩ := hG.pairs j _ hj1
        obtain ⟨en, h1, rk, rv⟩ := ent j _ hj2
        rw [Array.getElem?_eq_getElem hlt] at h1
        have h1 := Option.some.inj h1
        exact ⟨by show 2 ≤ sizeLine; decide, [es[j].key, es[j].val], .cons (by rw [h1]; exact rk) (.cons (by rw [h1]; exact rv) .nil), ⟨_, hg, rfl, _, rfl⟩⟩
    have hrep : RepL X.K X.w F2 (as.map V.ref) ds := by rw [← hds]; exact rep_pairs x2.ff hasL hr tups
    have rvs : Vals (as.map V.ref) (as.map Value.ref) := by
      clear hG hasL tups hrep hl
      induction as with
      | nil => exact .nil
      | cons c as ih => exact .cons rfl ih
    have hz : (as.map Value.ref).length ≤ sizeLine := by rw [List.length_map]; omega
    have er := each_reads I2 x2.fh hpl rvs hrep
    have hE := zip_each rvs hrep
    have hm := zip_snd hrep.length
    generalize hvs : as.map V.ref = vs at hrep rvs er hE hm
    generalize hits : as.map Value.ref = its at rvs hz er hE
    refine wpAny_bind (wpAny_newList ?_ hz)
    have hob : (h'.push (seqObj "list" its.toArray 0)).get? h'.objs.size = some (seqObj "list" its.toArray 0) := Heap.get?_push_size _ rfl
    have ka : ∀ b o, h'.get? b = some o → b ≠ h'.objs.size ∧ (h'.push (seqObj "list" its.toArray 0)).get? b = some o := fun b o e => ⟨Nat.ne_of_lt (Heap.lt_size e), Heap.get?_push_of_some _ e⟩
    show wpAny _ _ _ _ _ { s with heap := h'.push (seqObj "list" its.toArray 0), toks := tk' }
    generalize hh2 : h'.push (seqObj "list" its.toArray 0) = h2 at hob ka ⊢
    have hu2 : ∀ p, p ∈ vs.zip ds → X.A.units + 2 + p.2.depth < cLine := fun p hp2 => by
      have : p.2 ∈ ds := by
        rw [← hm]
        exact List.mem_map_of_mem hp2
      have h1 := List.all_eq_true.mp hcd.1.2 _ this
      have h2 : p.2.depth ≤ 48 := of_decide_eq_true h1
      omega
    have hk : PySem.W.Sortable ds ∨ ((∀ d ∈ ds, ∃ xs, d = .tuple xs) ∧ PyData.tuple [] ∈ ds) := by
      refine .inl (.inl fun y hy => ?_)
      rw [← hds] at hy
      obtain ⟨q, _, rfl⟩ := List.mem_map.mp hy
      exact ⟨_, _, rfl⟩
    have er' := er.mono (R' := fun v (b : V × AV) => ∃ as, Reads (PySem.W.sortingHeap h2 h'.objs.size its) v b.2 as) fun _ _ ⟨as, r⟩ => ⟨as, PyProof.Rows.Reads.keeps (fun b o => fun e => let z := ka _ _ e; PySem.W.sortingHeap_old z.1 z.2) r⟩
    have S := sorts_all (prog := X.prog) (w := X.w) (A := X.A.in1.in1) (s := { s with heap := PySem.W.sortingHeap h2 h'.objs.size its, toks := tk' }) (PySem.W.each_map (R := fun v d => ∃ as, Reads (PySem.W.sortingHeap h2 h'.objs.size its) v d as) (fun b : V × AV => b.2) er') (by rw [hm]; exact hal) (by rw [hm]; exact hk) (PySem.W.bound_map hu2)
    have hz2 : its.length ≤ sizeLine := hz
    have ho2 := PySem.W.sortVals_data false hE er' (by rw [hm]; exact hal)
    obtain ⟨g1, g2⟩ := each_vals ho2
    have e1 : ((vs.zip ds).mergeSort (PySem.W.dataLe false fun b : V × AV => b.2)).map (·.2) = isort ds := by
      rw [PySem.W.sort_maps (s := leD) (fun b : V × AV => b.2) (fun a _ b _ => by rw [PySem.W.dataLe_eq]; rfl), hm, isort_eq hal, isK_merge]
    rw [e1] at g2
    refine wpAny_bind (wpAny_holding (wpAny_call_entry_kw slot_list_sort ⟨_, hob, rfl⟩ entry_list_sort ?body (by exact args_list_sort _)))
    case body =>
      show wpAny (model X.prog X.w) X.A.in1.in1 (Builtin.«list.sort» ⟨[.ref h'.objs.size], []⟩) _ _ _
      refine PySem.W.list_sort_vals (s := { s with heap := h2, toks := tk' }) hob S hz2 ⟨_, rfl, wpAny_pure ⟨_, rfl, ?_⟩⟩
      obtain ⟨eF, heF⟩ := PyProof.Rows.sortedHeap_at (vs := its) (out := _) hob
      have hlen2 : (((vs.zip ds).mergeSort (PySem.W.dataLe false fun b : V × AV => b.2)).map (·.1)).length ≤ sizeLine := by
        rw [List.length_map, List.length_mergeSort, List.length_zip]
        have := rvs.length
        omega
      have hfr := I2.hok.fresh (Nat.le_refl h'.objs.size)
      exact ⟨.ref _, upd H2 h'.objs.size (.lst _), I2.laid (t' := tk') (fun b o e => let z := ka b o e; (PyProof.Rows.sortedHeap_old z.1 (Heap.lt_size z.2)).trans z.2) (Nat.le_refl _) ⟨hlen2, _, eF, g1, heF⟩, rfl, (q.step x2).newL x2.fh g2 hfr⟩
  · cases e
section
variable {e : Expr} {td : TE} {apos cpos : Pos}
theorem pe_itemsV (he : PE X e td) (hbase : attributeBase e "items" X.env (eval e X.env) = eval e X.env) (hline : (apos.endLine == cpos.line) = true) : PE X (.Call (.Attribute e "items" apos) [] [] cpos) (tView X "dict_items" td) := by
  refine ⟨fun pins s σ H Q I h => ?_⟩
  refine wpAny_Call_method (T := "dict") (id := "dict.items") hbase rfl hline F.plainAttrs_dict F.slot_dict_items F.type_dict_items (thn (he.run pins s σ H _ I h) fun u s1 ⟨x, H1, I1, rx, a, ob, L, ex, hd, q⟩ => ?_)
  subst ex
  obtain rfl : u = Value.ref a := rx
  obtain ⟨hs, hx, hgd, es, ep, hdt, hsz, z, ent⟩ := dic_ents (dic_at I1.hok hd)
  have ht : s1.TypeIs (.ref a) "dict" := ⟨ob, hgd, hx.1⟩
  refine ⟨ht, fun b q => ?_, ?_⟩
  · cases q
    exact ⟨ob, hgd, hx.2.1⟩
  have I2 := I1.laid (a := s1.heap.objs.size) (o := .ext (ViewP "dict_items" s1.heap.objs.size a)) (h' := s1.heap.push { cls := .type "dict_items", data := .fields #[.ref a] }) (t' := s1.toks) (fun _ _ q => Heap.get?_push_of_some _ q) (Nat.le_refl _)
    ⟨Heap.get?_push_size _ rfl, ⟨_, Heap.get?_push_size _ rfl⟩, fun h1 h2 e k => k _ e⟩
  show wpAny _ _ (callWith cpos (.builtin "dict.items") [.ref a] [] []) _ X.xe s1
  exact method_meetsIn F.slot_dict_items F.entry_dict_items rfl (PySem.evalArgs_none ⟨rfl, ht, F.args_dict_items_1 _, _, meets_dict_items_raw a hs, ⟨es, ep, ob, hgd, hx, hdt⟩, ⟨.ref s1.heap.objs.size, _, I2, rfl, q _ (I1.hok.fresh (Nat.le_refl _))⟩⟩)
end
theorem sitems_ok {b : Bool} {l : Expr} {t : TE} {p apos pos2 pos : Pos} (hc : X.calm = true) (hu : X.A.units + 64 < cLine) (hl : PE X l t) (hg : Gl X "sorted") (hm : X.mg "sorted" = none) (hbase : attributeBase l "items" X.env (eval l X.env) = eval l X.env) (hline : (apos.endLine == pos2.line) = true) :
    PE X (.Call (.Name "sorted" p) [.Call (.Attribute l "items" apos) [] [] pos2] [] pos) (tUn (rUn X.K X.w (fun x => bltop .sitems [x]) b) t) :=
  (pe_callB (cr_sortedItemsE (b := b) hc hu) hg hm PyProof.Rows.boot_sorted (pa_cons (pe_itemsV (pe_up hl) hbase hline) pa_nil (by rfl)) (by decide) (by decide) (by rfl) rfl).imp fun σ H Q h => by
    refine ⟨_, h, fun v H1 ⟨F, dx, d, hF, ox, e, q⟩ => ?_⟩
    cases dx with
    | dict kvs =>
      obtain ⟨a, ob, L, tk, rfl, hq, hr⟩ := ox
      refine ⟨a, ob, L, rfl, hq, fun p hp => ?_⟩
      have hne : a ≠ p := fun z => by rw [z, hp] at hq; cases hq
      have x1 := ext_new (o := .ext (ViewP "dict_items" p a)) hF hp
      exact ⟨p, a, ob, L, F, tk, kvs, d, rfl, upd_same, by rw [upd_ne hne]; exact hq, x1.fh, hr, e, q.step x1⟩
    | _ => cases e
end
end Ev
end
section
set_option linter.all false
set_option autoImplicit false
set_option maxRecDepth 100000
set_option maxHeartbeats 2000000
/-! EvT: enumerate. -/
namespace Ev
open PySem PySem.Spec PyProof.Rows L2
set_option maxHeartbeats 4000000 in
/-- enumerate(v), v told by what it begins -/
theorem enumNewB {v : Value} {o : Obj} {Hq : Heap → Prop} (B : Begins v o Hq) : Meets (Builtin.«enumerate.__new__» ⟨[.type "enumerate", v], []⟩)
    (fun _ R s => Hq s.heap ∧ R (.ok (.ret (.ref (s.heap.push o).objs.size))) { s with heap := (s.heap.push o).push { cls := .type "enumerate", data := .fields #[.none, .bool false, .ref s.heap.objs.size, rawInt 0, .none, .none] } }) := by
  refine .of_wp fun prog w A R s h => ?_
  obtain ⟨hp, g, dd, tk, os⟩ := s
  obtain ⟨h1, h⟩ := h
  have sub0 := sub_enumerate
  have q1 : ∀ {A' : Around} {E : Value → Shared → Prop} {Q : Value → Shared → Prop}, Q (.ref hp.objs.size) ⟨hp.push o, g, dd, tk, os⟩ → wpAny (model prog w) A' (pyIter v) Q E ⟨hp, g, dd, tk, os⟩ := fun q => B.iter prog w _ _ ⟨hp, g, dd, tk, os⟩ _ h1 q
  wp_walk using q1
  refine wpAny_stack_any fun st => wpAny_pure ?_
  split
  · rename_i cc _ _ _ _ _
    cases (cc == Value.type "enumerate") <;> (wp_walk using q1; exact ⟨_, rfl, h⟩)
  · (wp_walk using q1); exact ⟨_, rfl, h⟩
section
variable {prog : Program} {w : World} {A : Around} {E : Value → Shared → Prop} {s : Shared}
theorem enumBeg {v : Value} {o : Obj} {Hq : Heap → Prop} {Q : Value → Shared → Prop} (B : Begins v o Hq) (h1 : Hq s.heap)
    (h : ∀ h', IsEnum h' (s.heap.objs.size + 1) s.heap.objs.size 0 .none → h'.get? s.heap.objs.size = some o → (∀ b o, s.heap.get? b = some o → h'.get? b = some o) → Q (.ref (s.heap.objs.size + 1)) { s with heap := h' }) :
    wpAny (model prog w) A (call (.type "enumerate") [v]) Q E s := by
  refine callType_new F.called_enumerate (by decide) (F.typeCall_enumerate_1 _) (F.newCall_enumerate_1 _) (fun obj => F.args_object_init_2 obj _) F.entry_enumerate_new (enumNewB B) ⟨h1, ?_⟩
  have hz : (s.heap.push o).objs.size = s.heap.objs.size + 1 := Heap.size_push ..
  show _ ∧ _
  rw [hz]
  have he : IsEnum ((s.heap.push o).push { cls := .type "enumerate", data := .fields #[.none, .bool false, .ref s.heap.objs.size, rawInt 0, .none, .none] }) (s.heap.objs.size + 1) s.heap.objs.size 0 .none := by
    have q := Heap.get?_push_size (s.heap.push o) (o := { cls := .type "enumerate", data := .fields #[.none, .bool false, .ref s.heap.objs.size, rawInt 0, .none, .none] }) rfl
    rw [hz] at q
    exact q
  exact ⟨⟨_, he, rfl⟩, h _ he (Heap.get?_push_of_some _ (Heap.get?_push_size _ B.free)) fun b o x => Heap.get?_push_of_some _ (Heap.get?_push_of_some _ x)⟩
end
/-- the tuple at a, each item in a new pair -/
def Iet (K : PySem.W.Frag) (a : Addr) : L2.It :=
  ⟨fun i H => ∃ (xs : List V) (x : V), SqT K H a xs ∧ xs[i]? = some x, fun i H v H' => ∃ T x, v = .ref T ∧ H T = none ∧ H' = upd H T (.tup [.int (i : Nat), x]) ∧ ∀ xs, SqT K H a xs → xs[i]? = some x, fun i H => ∃ xs : List V, SqT K H a xs ∧ i = xs.length⟩
theorem turn_enumT {P : Program} {w : World} {K : PySem.W.Frag} {elts : List Expr} {kk : Nat} {tpos : Pos} (a e it : Addr) :
    Turn P w K (.Tuple elts kk tpos) (Iet K a) [e, it] e (fun i h => (∃ old, IsEnum h e it ((i : Nat) : Int) old) ∧ h.IsTupleIter it a i ∧ e ≠ it ∧ a ≠ it ∧ a ≠ e) where
  mem := by simp
  obj := fun i h st b hb => by
    obtain ⟨⟨old, he⟩, ⟨o, ho, hc, hd⟩, _⟩ := st
    rcases (by simpa using hb : b = e ∨ b = it) with z | z
    · rw [z]
      exact ⟨_, he, fun v q => nomatch q⟩
    · rw [z]
      exact ⟨o, ho, fun v q => by rw [hd] at q; cases q⟩
  keep := fun i h h' st k => by
    obtain ⟨⟨old, he⟩, hi, hne⟩ := st
    exact ⟨⟨old, k e (by simp) _ he⟩, hi.at fun o q => k it (by simp) o q, hne⟩
  item := by
    intro X hP hw hK hc i pins s σ H E I hf st hg
    subst hP hw hK
    obtain ⟨⟨old, he⟩, hit, hne, hai, hae⟩ := st
    obtain ⟨xs, x, hq, hx⟩ := hg
    obtain ⟨its, rv, p, hz⟩ := I.tuple hq
    obtain ⟨u, hu, ru⟩ := rv.get hx
    have hel : e < s.heap.objs.size := Heap.lt_size he
    have hil : it < s.heap.objs.size := by obtain ⟨_, q, _⟩ := hit; exact Heap.lt_size q
    have pt : s.heap.IsTuple a its.toArray := p
    have D := Draws.tuple (prog := X.prog) (w := X.w) (A := X.A.in1) (by exact I.ok.hd hc) it a hai its.toArray
    refine wpAny_pyNext_enum_itemD D he ⟨hit, pt⟩ (by simpa using (List.getElem?_eq_some_iff.mp hu).1) hne (by simp; exact ⟨hne, Ne.symm hae⟩) fun u2 h' tk hP ho hit' hT hsz hk => ?_
    obtain rfl : u2 = u := by
      have z : its.toArray[i]? = some u2 := hP
      rw [List.getElem?_toArray, hu] at z
      exact (Option.some.inj z).symm
    refine ⟨_, rfl, wpAny_letOwnedTupleGo_enum (s := { s with heap := h', toks := tk + 1 }) ho fun h'' he' sb => ?_⟩
    have hT2 : h''.get? s.heap.objs.size = some { cls := .type "tuple", data := .seq #[.int i tk, u2] } := (sb.2 _ (Nat.ne_of_gt hel)).trans hT
    have new : ObjOk X.prog X.w (upd H s.heap.objs.size (.tup [.int (i : Nat), x])) h'' s.heap.objs.size (.tup [.int (i : Nat), x]) :=
      ⟨by show 2 ≤ sizeLine; decide, [.int i tk, u2], .cons ⟨_, rfl⟩ (.cons ru .nil), ⟨_, hT2, rfl, _, rfl⟩⟩
    have I1 : Inv X pins σ (upd H s.heap.objs.size (.tup [.int (i : Nat), x])) { s with heap := h'', toks := tk + 1 } :=
      I.turnedNew (ch := [e, it]) (fun b ob hb q => (sb.2 b (fun z => hb (by simp [z]))).trans (hk b ob (fun z => hb (by simp [z])) (fun z => hb (by simp [z])) q)) hf (Nat.le_refl _) new
    refine ⟨.ref s.heap.objs.size, _, I1, rfl, ⟨_, x, rfl, I.hok.fresh (Nat.le_refl _), rfl, fun ys hy => ?_⟩, ⟨⟨u2, ?_⟩, hit'.1.at fun o q => (sb.2 it (Ne.symm hne)).trans q, hne, hai, hae⟩, fun b hb => ?_⟩
    · rw [I.tuple_inj hy hq]; exact hx
    · rw [show ((i + 1 : Nat) : Int) = (i : Int) + 1 by omega]
      exact he'
    · have hb' : b < s.heap.objs.size := by
        rcases (by simpa using hb : b = e ∨ b = it) with z | z
        · rw [z]; exact hel
        · rw [z]; exact hil
      exact (upd_ne (Nat.ne_of_lt hb')).trans (hf b hb).1
  done := by
    intro X hP hw hK hc i pins s σ H E I hf st hg
    subst hP hw hK
    obtain ⟨⟨old, he⟩, hit, hne, hai, hae⟩ := st
    obtain ⟨xs, hq, hx⟩ := hg
    obtain ⟨its, rv, p, hz⟩ := I.tuple hq
    obtain ⟨f0, f1, f2, f3, f4, f5⟩ := hf it (by simp)
    have hl := rv.length
    have pt : s.heap.IsTuple a its.toArray := p
    have D := Draws.tuple (prog := X.prog) (w := X.w) (A := X.A.in1) (by exact I.ok.hd hc) it a hai its.toArray
    have hi : i = its.toArray.size := by rw [hx]; simp; omega
    rw [hi] at hit
    exact wpAny_pyNext_enum_endD D he ⟨hit, pt⟩ fun h' eb => ⟨rfl, I.turned (t' := s.toks) (fun b o hb q => eb b o hb q) f0 f1 f3 f4 f5⟩
  self := fun A i s Q E st h => by
    obtain ⟨⟨_, he⟩, _⟩ := st
    exact wpAny_pyIter_enum he h
theorem enum_y {xs : List V} {i : Nat} {H H' : Hp} {v : V} (h : YPair (fun i => some (.int (i : Nat))) (fun i => xs[i]?) i H v H') : ∃ T x, v = .ref T ∧ H T = none ∧ H' = upd H T (.tup [.int (i : Nat), x]) ∧ xs[i]? = some x := by
  obtain ⟨T, n, x, h1, h2, h3, h4, h5⟩ := h
  cases h4
  exact ⟨T, x, h1, h2, h3, h5⟩
/-- enumerate of a list or a tuple -/
def iEnums (K : PySem.W.Frag) (tl : TE) : TI := fun σ H R => tCons tl tNil σ H fun vs H1 => ∃ p, vs = [.ref p] ∧ ((∃ xs, SqL K H1 p xs) ∧ R (Ite K p) H1 ∨ (∃ xs, SqT K H1 p xs) ∧ R (Iet K p) H1)
theorem pi_enums {X : Cx} {e : Expr} {tl : TE} {p pos tpos : Pos} {elts : List Expr} {kk : Nat} (hg : Gl X "enumerate") (hm : X.mg "enumerate" = none) (hl : PE X e tl) (hs : stE e = false) : PI X (.Tuple elts kk tpos) (.Call (.Name "enumerate" p) [e] [] pos) (iEnums X.K tl) := by
  refine ⟨fun pins s σ H R I h => ?_⟩
  refine Call_ (ld_blt I hg hm boot_enumerate (PyProof.Rows.callWith_type1 (thn ((pa_cons hl pa_nil (star_plain hs)).run pos pins s σ H (fun vs H1 => ∃ p, vs = [.ref p] ∧ ((∃ xs, SqL X.K H1 p xs) ∧ R (Ite X.K p) H1 ∨ (∃ xs, SqT X.K H1 p xs) ∧ R (Iet X.K p) H1)) I h) fun us s1 ⟨vs, H1, I1, r1, q1⟩ => ?_) (star_plain hs) rfl))
  · obtain ⟨a, ex, q⟩ := q1
    subst ex
    cases r1 with
    | cons r rr =>
      cases rr
      cases r
      have fp : ∀ h' : Heap, (∀ b o, s1.heap.get? b = some o → h'.get? b = some o) → ∀ b ∈ [s1.heap.objs.size + 1, s1.heap.objs.size], FpOk X pins H1 b := fun h' hk b hb => by
        have hle : s1.heap.objs.size ≤ b := by
          rcases (by simpa using hb : b = s1.heap.objs.size + 1 ∨ b = s1.heap.objs.size) with z | z
          · rw [z]; exact Nat.le_add_right _ _
          · rw [z]; exact Nat.le_refl _
        exact I1.fpOk hle (I1.hok.fresh hle)
      rcases q with ⟨⟨xs, hq⟩, q⟩ | ⟨⟨xs, hq⟩, q⟩
      · obtain ⟨its, rv, p', hz⟩ := I1.list hq
        refine call_enumerate_list p'.isList fun h' he hit hsz hk => wpAny_pyIter_enum he ?_
        have I2 : Inv X pins σ H1 { s1 with heap := h' } := I1.kept (t' := s1.toks) hk
        exact ⟨s1.heap.objs.size + 1, [s1.heap.objs.size + 1, s1.heap.objs.size], _, _, H1, rfl, I2, turn_enum a (s1.heap.objs.size + 1) s1.heap.objs.size, ⟨⟨.none, he⟩, hit, Nat.succ_ne_self _⟩, fp h' hk, q⟩
      · obtain ⟨its, rv, p', hz⟩ := I1.tuple hq
        have pt : s1.heap.IsTuple a its.toArray := p'
        have hlt : a < s1.heap.objs.size := by obtain ⟨_, q, _⟩ := pt; exact Heap.lt_size q
        refine enumBeg (begins_tuple a its.toArray) pt fun h' he hit hk => wpAny_pyIter_enum he ?_
        have I2 : Inv X pins σ H1 { s1 with heap := h' } := I1.kept (t' := s1.toks) hk
        exact ⟨s1.heap.objs.size + 1, [s1.heap.objs.size + 1, s1.heap.objs.size], _, _, H1, rfl, I2, turn_enumT a (s1.heap.objs.size + 1) s1.heap.objs.size, ⟨⟨.none, he⟩, ⟨_, hit, rfl, rfl⟩, Nat.succ_ne_self _, Nat.ne_of_lt hlt, Nat.ne_of_lt (Nat.lt_succ_of_lt hlt)⟩, fp h' hk, q⟩
theorem enumD_get : ∀ (ds : List AV) (k i : Nat), (enumD k ds)[i]? = ds[i]?.map fun d => PyData.tuple [.int ((k + i : Nat) : Int), d]
  | [], _, _ => rfl
  | d :: ds, k, 0 => rfl
  | d :: ds, k, i + 1 => by
    show (enumD (k + 1) ds)[i]? = ds[i]?.map _
    rw [enumD_get ds (k + 1) i, show k + 1 + i = k + (i + 1) by omega]
theorem enumD_len : ∀ (ds : List AV) (k : Nat), (enumD k ds).length = ds.length
  | [], _ => rfl
  | d :: ds, k => congrArg (· + 1) (enumD_len ds (k + 1))
section
variable {c : Cx} {cal : Cal} {tg l : Expr} {a : X}
theorem new_yld {K : PySem.W.Frag} {w : World} {F1 : Hp} {ds : List AV} {xs : List V} (r : RepL K w F1 xs ds) {i : Nat} {H H' : Hp} {v : V} (h : ∃ T x, v = .ref T ∧ H T = none ∧ H' = upd H T (.tup [.int (i : Nat), x]) ∧ xs[i]? = some x) : YEv K w F1 (enumD 0 ds) i H v H' := fun F s1 s2 => by
  obtain ⟨T, x, rfl, h1, rfl, h2⟩ := h
  obtain ⟨d, g1, g2⟩ := r.get' h2
  have hX := ext_new' (o := .tup [V.int (i : Nat), x]) s2 h1
  refine ⟨.tuple [.int ((0 + i : Nat) : Int), d], _, ?_, hX, ?_⟩
  · rw [enumD_get, g1]; rfl
  · exact .tup (.inl (.inl upd_same)) (.cons (by rw [Nat.zero_add]; exact .int _) (.cons (Rep.mono (s1.trans hX.ff) g2) .nil))
theorem it_enum {es : List Expr} {n : Nat} {tp p pos : Pos} (b : Bool) (hg : Gl c "enumerate") (hm : c.mg "enumerate" = none) (hs : stE l = false) (ha : OkE cal c l a) : PI c (.Tuple es n tp) (.Call (.Name "enumerate" p) [l] [] pos) (rdIt c.K c.w cal b (.enum a)) := PI.imp' (pi_enums hg hm (ha.pe (opM b)) hs) fun σ H RR h => by
  obtain ⟨IO, F0, F, B, O, env, ds, env', O', S, e, o, q⟩ := h
  obtain ⟨⟨da, e1⟩, ea, e⟩ := R.bind_eq_ok (show (evE cal a env >>= fun p => match items? p.1 with
    | some xs => R.ok (enumD 0 xs, p.2)
    | none => .bad) = .ok (ds, env') from e)
  refine ⟨IO, F0, F, B, O, env, da, e1, O', S, ea, by revert o; unfold owIt opM; cases b <;> exact fun z => z, fun va F1 H1 p1 r1 => ?_⟩
  have hh : Same F1 H1 := p1.sr.fh
  cases da with
  | list xs =>
    cases e
    cases b with
    | true =>
      obtain ⟨r1, ob⟩ := r1
      obtain ⟨x, us, rfl, hq, hr⟩ := Opd.listE (show Opd c.K c.w F1 H1 va (.list xs) from r1)
      have key : ∃ Bs us, Same Bs H1 ∧ (∀ a o, Bs a = some o → F1 a = some o ∨ B a = none) ∧ LstX c.K Bs x us ∧ LstX c.K H1 x us ∧ RepL c.K c.w F1 us xs := by
        rcases ob rfl with ⟨a, u, ea, hb, hu⟩ | hr2
        · cases ea
          rcases hq with hq | hq
          · by_cases hf : F1 x = none
            · refine ⟨upd F1 x u, us, fun b u2 e => ?_, fun b u2 e => ?_, .inl ?_, .inl hq, hr⟩
              · by_cases hbx : b = x
                · subst hbx; rw [upd_same] at e; cases e; exact hu
                · rw [upd_ne hbx] at e; exact hh _ _ e
              · by_cases hbx : b = x
                · subst hbx; exact .inr hb
                · rw [upd_ne hbx] at e; exact .inl e
              · rcases hq with q | ⟨o, q⟩
                · rw [hu] at q; cases q; exact .inl upd_same
                · rw [hu] at q; cases q; exact .inr ⟨o, upd_same⟩
            · obtain ⟨o, ho⟩ := Option.ne_none_iff_exists'.mp hf
              refine ⟨F1, us, hh, fun b u e => .inl e, .inl ?_, .inl hq, hr⟩
              have h1 := hh _ _ ho
              rcases hq with q | ⟨o2, q⟩
              · rw [h1] at q; cases q; exact .inl ho
              · rw [h1] at q; cases q; exact .inr ⟨o2, ho⟩
          · exact ⟨F1, us, hh, fun b u e => .inl e, .inr hq, .inr hq, hr⟩
        · cases hr2 with
          | lst hq2 hr3 => exact ⟨F1, _, hh, fun b u e => .inl e, hq2, hq2.mono hh, hr3⟩
      obtain ⟨Bs, us, b1, b2, b3, b4, hr⟩ := key
      refine ⟨x, rfl, .inl ⟨⟨us, b4.sql⟩, q _ F1 H1 Bs p1 b1 (fun z => by cases z) b2 ?_⟩⟩
      rw [enumD_len, ← hr.length]
      exact walk_enum.mono (fun H2 s2 => (b3.mono s2).sql) fun i H2 x H3 _ s2 y => new_yld hr (enum_y y)
    | false =>
      cases (show Rep c.K c.w F1 va (.list xs) from r1) with
      | lst hq hr =>
        refine ⟨_, rfl, .inl ⟨⟨_, (hq.mono hh).sql⟩, q _ F1 H1 F1 p1 hh (fun _ => rfl) (fun _ _ e => .inl e) ?_⟩⟩
        rw [enumD_len, ← hr.length]
        exact walk_enum.mono (fun H2 s2 => (hq.mono s2).sql) fun i H2 x H3 _ s2 y => new_yld hr (enum_y y)
  | tuple xs =>
    cases e
    have r2 : Rep c.K c.w F1 va (.tuple xs) := by
      cases b with
      | true => exact r1.1
      | false => exact r1
    cases r2 with
    | tup hq hr =>
      have key : ∀ Bs, Same F1 Bs → Walk (Iet c.K _) (enumD 0 xs).length (Same Bs) (YEv c.K c.w F1 (enumD 0 xs)) := fun Bs sb => by
        rw [enumD_len, ← hr.length]
        refine ⟨fun i H hi g => ?_, fun H g => ⟨_, Same.tup (sb.trans g) hq, rfl⟩, fun i H v H' hi g y => ?_⟩
        · exact ⟨_, _, Same.tup (sb.trans g) hq, List.getElem?_eq_getElem hi⟩
        · obtain ⟨T, x, z1, z2, z3, z4⟩ := y
          exact new_yld hr ⟨T, x, z1, z2, z3, z4 _ (Same.tup (sb.trans g) hq)⟩
      cases b with
      | true => exact ⟨_, rfl, .inr ⟨⟨_, Same.tup hh hq⟩, q _ F1 H1 F1 p1 hh (fun z => by cases z) (fun _ _ e => .inl e) (key F1 (Same.refl _))⟩⟩
      | false => exact ⟨_, rfl, .inr ⟨⟨_, Same.tup hh hq⟩, q _ F1 H1 F1 p1 hh (fun _ => rfl) (fun _ _ e => .inl e) (key F1 (Same.refl _))⟩⟩
  | _ => cases e
end
end Ev
end
section
set_option linter.all false
set_option autoImplicit false
set_option maxRecDepth 100000
set_option maxHeartbeats 4000000
/-! EvU: sets of ints. -/
namespace Ev
open PySem PySem.Spec PyProof.Rows L2
/-- a new set, with nothing in it -/
abbrev nS (w : World) : Obj := { cls := .type "set", dict := none, data := .set #[] 0 (.fresh 0 0 (!w.params.followText "set-order")) }
abbrev pS (w : World) (h : Heap) : Heap := h.push (nS w)
section
variable {P : Program} {w : World} {A : Around} {E : Value → Shared → Prop} {s : Shared}
set_option maxHeartbeats 8000000 in
theorem call_set_listI {l : Addr} {items : Array Value} (ns : List Int) {Q : Value → Shared → Prop} (hh : A.handled = none) (gl : s.heap.IsList l items) (gi : IntsAre items.toList ns) (gb : ns.length + 1 < scanBound)
    (h : ∀ (h' : Heap) (tk c : Nat), SetR w h' s.heap.objs.size (fun j => decide (j ∈ ns)) c → c ≤ ns.length → (∀ b o, s.heap.get? b = some o → h'.get? b = some o) → Q (.ref s.heap.objs.size) { s with heap := h', toks := tk }) :
    wpAny (model P w) A (call (.type "set") [.ref l]) Q E s := by
  have sizeIs : items.size = ns.length := by
    have q := IntsAre.length gi
    rw [Array.length_toList] at q
    exact q
  obtain ⟨c, tl, mroS⟩ := F.called_set.mro
  have madeS := F.called_set.made
  have subM := F.called_set.sub
  refine wpAny_call (codeAny_of_tree ?_)
  show wpAny _ _ (callAny (.type "set") _) _ _ _
  refine wpAny_pure ⟨Code.quiet_builtin _ (by decide +kernel), codeAny_builtin F.entry_type_call ?_⟩
  rw [Around.under_plain (weight_type_call_type "set" [.ref l] []) rfl]
  have noT := F.called_set.notType
  have makes := F.called_set.canCreate
  have callT := F.typeCall_set_1 (.ref l)
  repeat (any_goals (first | assumption | wp_step))

  refine codeAny_mono (code_set_led1 (.ref l) (E := E) (Q₁ := fun obj s₁ => obj = .ref s.heap.objs.size ∧ s₁ = { s with heap := pS w s.heap }) ⟨rfl, rfl⟩) fun r s₁ res => ?_
  cases r with
  | error e => exact res
  | ok fl =>
    cases fl with
    | ret obj =>
      obtain ⟨rfl, rfl⟩ := res
      have gS : (pS w s.heap).get? s.heap.objs.size = some (nS w) := Heap.get?_push_size _ rfl
      have tS : Shared.TypeIs { s with heap := pS w s.heap } (.ref s.heap.objs.size) "set" := ⟨_, gS, rfl⟩
      have initL := F.called_set.init.lookup
      have initB := F.called_set.init.bind (.ref s.heap.objs.size)
      repeat (any_goals (first | assumption | wp_step))

      refine codeAny_mono (codeAny_call_builtin (R := wants (fun r s₂ => r = .none ∧ ∃ h' tk c, s₂ = { s with heap := h', toks := tk } ∧ SetR w h' s.heap.objs.size (fun j => decide (j ∈ ns)) c ∧ c ≤ ns.length ∧
          (∀ b o, s.heap.get? b = some o → h'.get? b = some o)) E) F.called_set.init.plain F.entry_set_init (check_set_init_1 tS ?_)) fun r₂ s₂ res₂ => ?_
      · obtain ⟨ol, gotL, clsL, nl, datL⟩ := gl
        obtain ⟨lc, ld, lt, ls⟩ := ol
        simp only at clsL datL
        subst clsL; subst datL
        have gotL' : (pS w s.heap).get? l = some { cls := .type "list", dict := ld, data := .seq items nl, slots := ls } := Heap.get?_push_of_some _ gotL
        have subS := F.sub_list_set
        have subF := F.sub_list_frozenset
        have neD : (Value.type "list" == Value.type "dict") = false := by decide
        have listL : (pS w s.heap).IsList l items := ⟨_, gotL', rfl, nl, rfl⟩
        unfold Builtin.«set.__init__» noKeywords Builtin.Frozenset.updateFrom
        generalize ePI : pyIter = PI
        wp_walk
        subst ePI

        refine wpAny_pyIter_list listL ?_
        refine wpAny_bind (wpAny_runValue ?_)
        have belowS : l < s.heap.objs.size := Heap.lt_size gotL
        have quiet3 : A.in1.in1.in1.handled = none := by simp [hh]
        have hz1 : (pS w s.heap).objs.size = s.heap.objs.size + 1 := Heap.size_push ..
        have apartI : l ≠ (pS w s.heap).objs.size := by
          rw [Heap.size_push]; exact Nat.ne_of_lt (Nat.lt_succ_of_lt belowS)
        have apartS : s.heap.objs.size ∉ [(pS w s.heap).objs.size, l] := by
          rw [Heap.size_push]; simp only [List.mem_cons, List.mem_singleton, List.not_mem_nil, or_false, not_or]
          exact ⟨Nat.ne_of_lt (Nat.lt_succ_self _), Nat.ne_of_gt belowS⟩
        have valsAre : ∀ (i : Nat) (v : Value), items[i]? = some v → ∃ k t, ns[i]? = some k ∧ v = .int k t := fun i v hv => by
          have hi : i < ns.length := by rw [← sizeIs]; exact (Array.getElem?_eq_some_iff.mp hv).1
          obtain ⟨t, e⟩ := PyProof.Rows.IntsAre.int_at gi i v (by rw [Array.getElem?_toList]; exact hv)
          refine ⟨ns[i], t, List.getElem?_eq_getElem hi, ?_⟩
          rw [e, List.getD_eq_getElem?_getD, List.getElem?_eq_getElem hi] <;> rfl
        refine set_update_ints ((Walks.list quiet3 _ l apartI items).toS) s.heap.objs.size
          apartS ns sizeIs gb valsAre (items.size - 0) 0 _ (by omega) (Nat.zero_le _)
          ⟨⟨_, Heap.get?_push_size _ rfl, rfl, rfl⟩, (listL.push _)⟩ ?hS0 ?hR
        case hS0 =>
          have gotS : ((pS w s.heap).push { cls := .type "list_iterator", data := .fields #[.ref l, .int 0 0] }).get? s.heap.objs.size
              = some (nS w) := Heap.get?_push_of_some _ gS
          exact ⟨0, Nat.le_refl 0, setR_new_at gotS⟩
        case hR =>
          intro s' c' mv hc' gS'
          obtain ⟨h', g2, d', tk', os'⟩ := s'
          have e₁ : g2 = s.gens := mv.gens
          have e₂ : d' = s.drawn := mv.drawn
          have e₃ : os' = s.os := mv.os
          subst e₁; subst e₂; subst e₃
          show wpAny _ _ _ _ _ _
          refine wpAny_pure ?_
          show wpAny _ _ (ret Value.none) _ _ _
          rw [sizeIs] at hc'
          refine wpAny_pure ⟨rfl, h', tk', c', rfl, gS', hc', fun b o e => ?_⟩
          have lt0 : b < s.heap.objs.size := Heap.lt_size e
          have ne1 : b ≠ s.heap.objs.size := Nat.ne_of_lt lt0
          have ne2 : b ≠ (pS w s.heap).objs.size := by
            rw [Heap.size_push]; exact Nat.ne_of_lt (Nat.lt_succ_of_lt lt0)
          exact mv.heap b o (by simp only [List.mem_cons, List.mem_singleton, List.not_mem_nil, or_false, not_or]; exact ⟨ne1, ne2⟩) (Heap.get?_push_of_some _ (Heap.get?_push_of_some _ e))

      · cases r₂ with
        | error e => exact res₂
        | ok fl₂ =>
          cases fl₂ with
          | ret r =>
            obtain ⟨rfl, h', tk, c', rfl, gS', hc', hk'⟩ := res₂
            repeat (any_goals (first | assumption | wp_step))
            exact h _ _ _ gS' hc' hk'
          | _ => exact res₂.elim
    | _ => exact res.elim
end
/-! ### the members of a list of ints, rising -/
theorem insI_mem {x : Int} : ∀ {l : List Int} {y : Int}, y ∈ insI x l ↔ y = x ∨ y ∈ l
  | [], y => by simp [insI]
  | z :: l, y => by
    unfold insI
    split
    · rw [List.mem_cons, insI_mem, List.mem_cons]
      exact ⟨fun h => h.elim (fun q => .inr (.inl q)) fun q => q.elim .inl fun q => .inr (.inr q), fun h => h.elim (fun q => .inr (.inl q)) fun q => q.elim .inl fun q => .inr (.inr q)⟩
    · split
      · rename_i h
        subst h
        rw [List.mem_cons]
        exact ⟨.inr, fun h => h.elim .inl id⟩
      · rw [List.mem_cons]
theorem insI_up {x : Int} : ∀ {l : List Int}, l.Pairwise (· < ·) → (insI x l).Pairwise (· < ·)
  | [], _ => List.pairwise_singleton ..
  | z :: l, h => by
    obtain ⟨h1, h2⟩ := List.pairwise_cons.mp h
    unfold insI
    split
    · rename_i hz
      refine List.pairwise_cons.mpr ⟨fun y hy => ?_, insI_up h2⟩
      rcases insI_mem.mp hy with q | q
      · rw [q]; exact hz
      · exact h1 y q
    · split
      · exact h
      · rename_i h3 h4
        refine List.pairwise_cons.mpr ⟨fun y hy => ?_, h⟩
        rcases List.mem_cons.mp hy with q | q
        · rw [q]; omega
        · have := h1 y q; omega
theorem isetI_mem : ∀ {l : List Int} {y : Int}, y ∈ isetI l ↔ y ∈ l
  | [], y => Iff.rfl
  | x :: l, y => by
    show y ∈ insI x (isetI l) ↔ _
    rw [insI_mem, isetI_mem, List.mem_cons]
theorem isetI_up : ∀ l : List Int, (isetI l).Pairwise (· < ·)
  | [] => List.Pairwise.nil
  | x :: l => insI_up (isetI_up l)
theorem up_nodup {l : List Int} (h : l.Pairwise (· < ·)) : l.Nodup := h.imp fun h q => by omega
theorem up_eq : ∀ {l l2 : List Int}, l.Pairwise (· < ·) → l2.Pairwise (· < ·) → (∀ k, k ∈ l ↔ k ∈ l2) → l = l2
  | [], [], _, _, _ => rfl
  | [], y :: l2, _, _, h => absurd ((h y).mpr List.mem_cons_self) (by simp)
  | x :: l, [], _, _, h => absurd ((h x).mp List.mem_cons_self) (by simp)
  | x :: l, y :: l2, h1, h2, h => by
    obtain ⟨a1, a2⟩ := List.pairwise_cons.mp h1
    obtain ⟨b1, b2⟩ := List.pairwise_cons.mp h2
    have e : x = y := by
      rcases List.mem_cons.mp ((h x).mp List.mem_cons_self) with q | q
      · exact q
      · rcases List.mem_cons.mp ((h y).mpr List.mem_cons_self) with q2 | q2
        · exact q2.symm
        · have c1 := b1 x q
          have c2 := a1 y q2
          omega
    subst e
    refine congrArg (x :: ·) (up_eq a2 b2 fun k => ⟨fun q => ?_, fun q => ?_⟩)
    · rcases List.mem_cons.mp ((h k).mp (List.mem_cons_of_mem _ q)) with z | z
      · exact absurd (a1 k q) (by rw [z]; omega)
      · exact z
    · rcases List.mem_cons.mp ((h k).mpr (List.mem_cons_of_mem _ q)) with z | z
      · exact absurd (b1 k q) (by rw [z]; omega)
      · exact z
theorem sub_len : ∀ (l d : List Int), l.Nodup → (∀ x ∈ l, x ∈ d) → l.length ≤ d.length
  | [], _, _, _ => Nat.zero_le _
  | x :: l, d, hn, hs => by
    have hx := hs x List.mem_cons_self
    have e := List.length_erase_of_mem hx
    have p := List.length_pos_of_mem hx
    have ih := sub_len l (d.erase x) (List.nodup_cons.mp hn).2 fun y hy =>
      (List.mem_erase_of_ne (fun q : y = x => (List.nodup_cons.mp hn).1 (q ▸ hy))).mpr (hs y (List.mem_cons_of_mem _ hy))
    simp only [List.length_cons]
    omega
theorem setR_num {w : World} {h : Heap} {a : Addr} {c : Nat} {ns : List Int} (r : SetR w h a (fun j => decide (j ∈ ns)) c) : c = (isetI ns).length := by
  obtain ⟨o, es, ep, t, _, _, _, _, nd, mem, _, _, hn, _⟩ := r
  have e : ∀ k, k ∈ es.toList.map L2.keyOf ↔ k ∈ isetI ns := fun k => by rw [← mem k, decide_eq_true_eq, isetI_mem]
  have l1 := sub_len _ _ nd fun x hx => (e x).mp hx
  have l2 := sub_len _ _ (up_nodup (isetI_up ns)) fun x hx => (e x).mpr hx
  rw [List.length_map] at l1 l2
  have e3 : es.toList.length = es.size := Array.length_toList
  omega
section
variable {X : Cx}
/-- set(xs), xs a list or a tuple of ints -/
def rSetL (X : Cx) : List V → Hp → VK → Prop := fun xs H Q => ∃ (p : Addr) (ns : List Int), xs = [.ref p] ∧ (SqL X.K H p (ns.map V.int) ∨ SqT X.K H p (ns.map V.int)) ∧ ns.length ≤ 1000 ∧ ∀ q, H q = none → Q (.ref q) (upd H q (SetO X.w q (fun j => decide (j ∈ ns)) (isetI ns).length))
theorem cr_setL (hc : X.calm = true) : CallR X (.type "set") (rSetL X) := by
  intro pins s σ H xs us Q I r h
  obtain ⟨p, ns, rfl, hq, hl, q⟩ := h
  rw [Vals.ref1 r]
  have fin : ∀ (h' : Heap) (tk c : Nat), SetR X.w h' s.heap.objs.size (fun j => decide (j ∈ ns)) c → (∀ b o, s.heap.get? b = some o → h'.get? b = some o) → EP X pins σ Q (.ref s.heap.objs.size) { s with heap := h', toks := tk } := fun h' tk c R k => by
    have e := setR_num R
    subst e
    exact ⟨.ref _, _, I.laid (t' := tk) k (Nat.le_refl _) (setO_new R), rfl, q _ (I.hok.fresh (Nat.le_refl _))⟩
  rcases hq with hq | hq
  · obtain ⟨its, rv, pt, hz⟩ := I.list hq
    exact call_set_listI ns (I.ok.hd hc) pt.isList (ints_of_vals rv) (by unfold scanBound; omega) fun h' tk c R _ k => fin h' tk c R k
  · obtain ⟨its, rv, pt, hz⟩ := I.tuple hq
    exact call_set_tupI ns (I.ok.hd hc) (show s.heap.IsTuple p its.toArray from pt) (ints_of_vals rv) (by unfold scanBound; omega) fun h' tk c R _ k => fin h' tk c R k
/-- len(found) -/
def rLenS (w : World) : List V → Hp → VK → Prop := fun vs H Q => ∃ (a : Addr) (S : Int → Bool) (n : Nat), vs = [V.ref a] ∧ H a = some (SetO w a S n) ∧ n ≤ 1000 ∧ Q (.int (n : Nat)) H
theorem cr_lenS : CallR X (.builtin "len") (rLenS X.w) := by
  intro pins s σ H xs us Q I r h
  obtain ⟨a, S, n, rfl, ha, hn, q⟩ := h
  obtain ⟨o, es, ep, t, ho, hex, hd, _, _, _, _, hf, e, _⟩ := setO_get I ha
  rw [Vals.ref1 r]
  exact call_len_set ho hex hd hf (by omega) ⟨.int (n : Nat), H, I.tok _, ⟨_, by rw [e]⟩, q⟩
theorem isetI_len (ns : List Int) : (isetI ns).length ≤ ns.length := sub_len _ _ (up_nodup (isetI_up ns)) fun x hx => isetI_mem.mp hx
end
end Ev
end
section
set_option linter.all false
set_option autoImplicit false
set_option maxRecDepth 100000
set_option maxHeartbeats 4000000
/-! EvU2: sorted(set(..)) of ints and of tuples of small ints. -/
namespace Ev
open PySem PySem.Spec PyProof.Rows L2
/-! ### tuples of small numbers, in order -/
theorem insR_mem {x y : List Int} : ∀ {l : List (List Int)}, y ∈ insR x l ↔ y = x ∨ y ∈ l
  | [] => by simp [insR]
  | z :: l => by
    unfold insR
    split
    · rw [List.mem_cons, insR_mem (l := l), List.mem_cons]
      constructor
      · rintro (h | h | h)
        · exact .inr (.inl h)
        · exact .inl h
        · exact .inr (.inr h)
      · rintro (h | h | h)
        · exact .inr (.inl h)
        · exact .inl h
        · exact .inr (.inr h)
    · split
      · rename_i h
        subst h
        simp
      · simp
theorem isetR_mem {y : List Int} : ∀ {l : List (List Int)}, y ∈ isetR l ↔ y ∈ l
  | [] => Iff.rfl
  | x :: l => by
    show y ∈ insR x (isetR l) ↔ _
    rw [insR_mem, isetR_mem, List.mem_cons]
theorem code_lexR : ∀ {a b : List Int}, a.length = b.length → TS.Bd 64 a → TS.Bd 64 b → a < b → TS.code 64 a < TS.code 64 b
  | [], [], _, _, _, h => absurd h (List.lt_irrefl _)
  | [], _ :: _, h, _, _, _ => by simp at h
  | _ :: _, [], h, _, _, _ => by simp at h
  | x :: a, y :: b, hl, ha, hb, h => by
    have hl' : a.length = b.length := by simpa using hl
    rcases List.cons_lt_cons_iff.mp h with h | ⟨h, h2⟩
    · exact TS.code_lt hl' ha.tail hb.tail h
    · subst h
      exact (TS.code_same hl').mpr (code_lexR hl' ha.tail hb.tail h2)
theorem lex_tri {a b : List Int} (hl : a.length = b.length) (hn : a ≠ b) : a < b ∨ b < a := by
  induction a generalizing b with
  | nil => cases b with
    | nil => exact absurd rfl hn
    | cons y b => simp at hl
  | cons x a ih => cases b with
    | nil => simp at hl
    | cons y b =>
      rcases Int.lt_trichotomy x y with h | h | h
      · exact .inl (List.cons_lt_cons_iff.mpr (.inl h))
      · subst h
        rcases ih (by simpa using hl) (fun e => hn (by rw [e])) with h | h
        · exact .inl (List.cons_lt_cons_iff.mpr (.inr ⟨rfl, h⟩))
        · exact .inr (List.cons_lt_cons_iff.mpr (.inr ⟨rfl, h⟩))
      · exact .inr (List.cons_lt_cons_iff.mpr (.inl h))
theorem code_inj {a b : List Int} (hl : a.length = b.length) (ha : TS.Bd 64 a) (hb : TS.Bd 64 b) (h : TS.code 64 a = TS.code 64 b) : a = b := Classical.byContradiction fun hn => by
  rcases lex_tri hl hn with q | q
  · have := code_lexR hl ha hb q; omega
  · have := code_lexR hl.symm hb ha q; omega
/-- all as many, small -/
def Rws (d : Nat) (l : List (List Int)) : Prop := ∀ r ∈ l, r.length = d ∧ TS.Bd 64 r
theorem insR_up {d : Nat} {x : List Int} : ∀ {l : List (List Int)}, Rws d (x :: l) → l.Pairwise (fun a b => TS.code 64 a < TS.code 64 b) → (insR x l).Pairwise (fun a b => TS.code 64 a < TS.code 64 b)
  | [], _, _ => List.pairwise_singleton _ _
  | y :: l, hr, h => by
    obtain ⟨h1, h2⟩ := List.pairwise_cons.mp h
    have hx := hr x List.mem_cons_self
    have hy := hr y (List.mem_cons_of_mem _ List.mem_cons_self)
    unfold insR
    split
    · rename_i hlt
      refine List.pairwise_cons.mpr ⟨fun z hz => ?_, insR_up (fun r hr2 => hr r (by rcases List.mem_cons.mp hr2 with q | q; exact q ▸ List.mem_cons_self; exact List.mem_cons_of_mem _ (List.mem_cons_of_mem _ q))) h2⟩
      rcases insR_mem.mp hz with q | q
      · rw [q]; exact code_lexR (by rw [hx.1, hy.1]) hy.2 hx.2 hlt
      · exact h1 z q
    · split
      · exact h
      · rename_i h3 h4
        refine List.pairwise_cons.mpr ⟨fun z hz => ?_, h⟩
        have c : TS.code 64 x < TS.code 64 y := by
          rcases lex_tri (by rw [hx.1, hy.1]) h4 with q | q
          · exact code_lexR (by rw [hx.1, hy.1]) hx.2 hy.2 q
          · exact absurd q h3
        rcases List.mem_cons.mp hz with q | q
        · rw [q]; exact c
        · exact Int.lt_trans c (h1 z q)
theorem isetR_up {d : Nat} : ∀ {l : List (List Int)}, Rws d l → (isetR l).Pairwise (fun a b => TS.code 64 a < TS.code 64 b)
  | [], _ => List.Pairwise.nil
  | x :: l, h => insR_up (fun r hr => by rcases List.mem_cons.mp hr with q | q; exact h r (q ▸ List.mem_cons_self); exact h r (List.mem_cons_of_mem _ (isetR_mem.mp q))) (isetR_up fun r hr => h r (List.mem_cons_of_mem _ hr))
theorem upR_eq : ∀ {l l2 : List (List Int)}, l.Pairwise (fun a b => TS.code 64 a < TS.code 64 b) → l2.Pairwise (fun a b => TS.code 64 a < TS.code 64 b) → (∀ k, k ∈ l ↔ k ∈ l2) → l = l2
  | [], [], _, _, _ => rfl
  | [], y :: l2, _, _, h => absurd ((h y).mpr List.mem_cons_self) (by simp)
  | x :: l, [], _, _, h => absurd ((h x).mp List.mem_cons_self) (by simp)
  | x :: l, y :: l2, h1, h2, h => by
    obtain ⟨a1, a2⟩ := List.pairwise_cons.mp h1
    obtain ⟨b1, b2⟩ := List.pairwise_cons.mp h2
    have e : x = y := by
      rcases List.mem_cons.mp ((h x).mp List.mem_cons_self) with q | q
      · exact q
      · rcases List.mem_cons.mp ((h y).mpr List.mem_cons_self) with q2 | q2
        · exact q2.symm
        · have c1 := b1 x q
          have c2 := a1 y q2
          omega
    subst e
    refine congrArg (x :: ·) (upR_eq a2 b2 fun k => ⟨fun q => ?_, fun q => ?_⟩)
    · rcases List.mem_cons.mp ((h k).mp (List.mem_cons_of_mem _ q)) with z | z
      · exact absurd (a1 k q) (by rw [z]; omega)
      · exact z
    · rcases List.mem_cons.mp ((h k).mpr (List.mem_cons_of_mem _ q)) with z | z
      · exact absurd (b1 k q) (by rw [z]; omega)
      · exact z
def tupI (r : List Int) : AV := .tuple (r.map .int)
section
variable {K : PySem.W.Frag} {w : World} {F H : Hp}
theorem ints_map : ∀ {xs : List AV} {is : List Int}, ints? xs = some is → xs = is.map .int
  | [], is, h => by cases h; rfl
  | .int i :: r, is, h => by
    rw [ints?] at h
    obtain ⟨js, h1, rfl⟩ := Option.map_eq_some_iff.mp h
    rw [List.map_cons, ← ints_map h1]
  | .bool _ :: _, _, h => by cases h
  | .none :: _, _, h => by cases h
  | .str _ :: _, _, h => by cases h
  | .tuple _ :: _, _, h => by cases h
  | .list _ :: _, _, h => by cases h
  | .dict _ :: _, _, h => by cases h
theorem rows_rep : ∀ {xs : List AV} {rs : List (List Int)} {us : List V}, rows? xs = some rs → RepL K w F us xs → ∃ ks : List (Addr × List Int), us = ks.map (fun p => V.ref p.1) ∧ ks.map (·.2) = rs ∧ ∀ p ∈ ks, SqT K F p.1 (p.2.map V.int) ∧ Rep K w F (.ref p.1) (tupI p.2)
  | [], rs, us, h, r => by
    cases h
    cases r
    exact ⟨[], rfl, rfl, fun _ h => nomatch h⟩
  | .tuple t :: r, rs, us, h, q => by
    rw [rows?] at h
    split at h
    · rename_i x xs h1 h2
      cases h
      cases q with
      | cons q1 q2 =>
        obtain ⟨ks, rfl, e, hk⟩ := rows_rep h2 q2
        have hm := ints_map h1
        subst hm
        cases q1 with
        | tup ht hr =>
          rename_i a us1
          have e1 := ints_rep h1 hr
          subst e1
          refine ⟨(a, x) :: ks, rfl, by rw [List.map_cons, e], fun p hp => ?_⟩
          rcases List.mem_cons.mp hp with z | z
          · rw [z]; exact ⟨ht, .tup ht hr⟩
          · exact hk p z
    · cases h
  | .bool _ :: _, _, _, h, _ => by cases h
  | .none :: _, _, _, h, _ => by cases h
  | .str _ :: _, _, _, h, _ => by cases h
  | .int _ :: _, _, _, h, _ => by cases h
  | .list _ :: _, _, _, h, _ => by cases h
  | .dict _ :: _, _, _, h, _ => by cases h
theorem rep_rows : ∀ {L : List (Addr × List Int)}, (∀ p ∈ L, Rep K w F (.ref p.1) (tupI p.2)) → RepL K w F (L.map fun q => V.ref q.1) ((L.map (·.2)).map tupI)
  | [], _ => .nil
  | p :: L, h => .cons (h p List.mem_cons_self) (rep_rows fun q hq => h q (List.mem_cons_of_mem _ hq))
end
section
variable {X : Cx}
theorem callR_or {id : Value} {r1 r2 : List V → Hp → VK → Prop} (h1 : CallR X id r1) (h2 : CallR X id r2) : CallR X id (fun vs H Q => r1 vs H Q ∨ r2 vs H Q) := fun pins s σ H xs us Q I r h => h.elim (fun h => h1 pins s σ H xs us Q I r h) fun h => h2 pins s σ H xs us Q I r h
variable {l : Expr} {t : TE} {p p2 pos pos2 : Pos} {b : Bool}
theorem sset_in {F H : Hp} {x : V} {dx d : AV} (hF : Same F H) (o : Opd X.K X.w F H x dx) (e : bltop .sset [dx] = .ok d) : (∃ p ns, x = .ref p ∧ (SqL X.K H p (ns.map V.int) ∨ SqT X.K H p (ns.map V.int)) ∧ ns.length ≤ 1000 ∧ (isetI ns).length < 64 ∧ d = .list ((isetI ns).map .int)) ∨
    ∃ (l : Addr) (ks : List (Addr × List Int)) (dd : Nat), x = .ref l ∧ SqL X.K H l (ks.map fun p => V.ref p.1) ∧ (∀ p ∈ ks, SqT X.K F p.1 (p.2.map V.int) ∧ Rep X.K X.w F (.ref p.1) (tupI p.2)) ∧ ks.length < 64 ∧ 1 ≤ dd ∧ Rws dd (ks.map (·.2)) ∧ d = .list ((isetR (ks.map (·.2))).map tupI) := by
  have key : ∀ (xs : List AV) (us : List V) (is : List Int), RepL X.K X.w F us xs → ints? xs = some is → ssetD xs = .ok d → ∃ ns : List Int, us = ns.map V.int ∧ ns.length ≤ 1000 ∧ (isetI ns).length < 64 ∧ d = .list ((isetI ns).map .int) := fun xs us is r hi e => by
    unfold ssetD at e
    rw [hi] at e
    have e : (if (decide (is.length ≤ 1000) && decide ((isetI is).length < 64)) = true then R.ok (PyData.list ((isetI is).map .int)) else .bad) = .ok d := e
    split at e
    · rename_i hc
      rw [Bool.and_eq_true, decide_eq_true_eq, decide_eq_true_eq] at hc
      cases e
      exact ⟨is, ints_rep hi r, hc.1, hc.2, rfl⟩
    · cases e
  cases dx with
  | list xs =>
    obtain ⟨a, us, rfl, hq, hr⟩ := o.listE
    have e : ssetD xs = .ok d := e
    cases hi : ints? xs with
    | some is =>
      obtain ⟨ns, rfl, h1, h2, h3⟩ := key xs us is hr hi e
      exact .inl ⟨a, ns, rfl, .inl hq.sql, h1, h2, h3⟩
    | none =>
      unfold ssetD at e
      rw [hi] at e
      have e : ssetR xs = .ok d := e
      unfold ssetR at e
      split at e
      · rename_i r rs hrs
        split at e
        · rename_i hc
          simp only [Bool.and_eq_true, decide_eq_true_eq] at hc
          cases e
          obtain ⟨ks, rfl, e2, hk⟩ := rows_rep hrs hr
          refine .inr ⟨a, ks, r.length, rfl, hq.sql, hk, ?_, hc.1.2, fun q hq2 => ?_, by rw [e2]; rfl⟩
          · have := congrArg List.length e2
            rw [List.length_map, List.length_cons] at this
            omega
          · rw [e2] at hq2
            have := List.all_eq_true.mp hc.2 q hq2
            unfold rowOk at this
            rw [Bool.and_eq_true, decide_eq_true_eq] at this
            refine ⟨this.1, fun m hm => ?_⟩
            have h := List.all_eq_true.mp this.2 m hm
            rw [Bool.and_eq_true, decide_eq_true_eq, decide_eq_true_eq] at h
            exact h
        · cases e
      · cases e
  | tuple xs =>
    obtain ⟨a, us, rfl, hq, hr⟩ := o.tupE
    have e : (if (ints? xs).isSome = true then ssetD xs else .bad) = .ok d := e
    cases hi : ints? xs with
    | some is =>
      rw [hi] at e
      obtain ⟨ns, rfl, h1, h2, h3⟩ := key xs us is hr hi e
      exact .inl ⟨a, ns, rfl, .inr (Same.tup hF hq), h1, h2, h3⟩
    | none => rw [hi] at e; cases e
  | _ => cases e
theorem sset_ok (hc : X.calm = true) (hu : X.A.units + 64 < cLine) (hl : PE X l t) (hs : stE l = false) (hg : Gl X "sorted") (hm : X.mg "sorted" = none) (hg2 : Gl X "set") (hm2 : X.mg "set" = none) :
    PE X (.Call (.Name "sorted" p) [.Call (.Name "set" p2) [l] [] pos2] [] pos) (tUn (rUn X.K X.w (fun x => bltop .sset [x]) b) t) :=
  (pe_callB (callR_or (cr_sortedSet hc) (cr_sortedT hc)) hg hm PyProof.Rows.boot_sorted (pa_cons (pe_callTy (callR_or (cr_setL hc) (cr_setOfT hc hu)) hg2 hm2 PyProof.Rows.boot_set (pa_cons (pe_up hl) pa_nil (star_plain hs)) (by decide) (by decide) (star_plain hs) rfl) pa_nil) (by decide) (by decide)).imp fun σ H Q h => ⟨_, h, fun v H1 ⟨F, dx, d, hF, ox, e, q⟩ => by
    rcases sset_in hF ox e with ⟨a, ns, rfl, hq, h1, h2, rfl⟩ | ⟨a, ks, dd, rfl, hq, hk, h64, hd, hr, rfl⟩
    · refine .inl ⟨a, ns, rfl, hq, h1, fun s hs2 => .inl ⟨s, _, _, rfl, upd_same, h2, fun ms p2 up mem _ hp2 => ?_⟩⟩
      obtain rfl : ms = isetI ns := up_eq up (isetI_up ns) fun k => by rw [mem, decide_eq_true_eq, isetI_mem]
      have hX := ext_new (o := SetO X.w s (fun j => decide (j ∈ ns)) (isetI ns).length) hF hs2
      exact Res.newL hX.fh (rep_ints _) (fun v F2 H2 x1 x2 x3 => q v F2 H2 (hX.trans x1) (fun z => by obtain ⟨a2, xs, e1, e2, e3, e4⟩ := x2 z; exact ⟨a2, xs, e1, e2, hX.hh.free e3, e4⟩) x3) hp2
    · refine .inr ⟨a, ks, rfl, hq, fun p hp => Same.tup hF (hk p hp).1, h64, fun s L hs2 hsub hall => .inr ⟨s, L, dd, 64, rfl, upd_same, fun p hp => Same.tup (same_upd' hs2) (Same.tup hF (hk p (hsub p hp)).1), hd, fun p hp => hr p.2 (List.mem_map_of_mem (hsub p hp)), fun L' p2 pm nd _ pw hp2 => ?_⟩⟩
      have hmem : ∀ k, k ∈ L'.map (·.2) ↔ k ∈ ks.map (·.2) := fun k => by
        rw [(pm.map (·.2)).mem_iff]
        constructor
        · intro h
          obtain ⟨z, hz, rfl⟩ := List.mem_map.mp h
          exact List.mem_map_of_mem (hsub z hz)
        · intro h
          obtain ⟨z, hz, rfl⟩ := List.mem_map.mp h
          exact hall z hz
      have hR' : Rws dd (L'.map (·.2)) := fun k hk2 => hr k ((hmem k).mp hk2)
      have hup : (L'.map (·.2)).Pairwise fun a b => TS.code 64 a < TS.code 64 b := by
        have pw2 : (L'.map (·.2)).Pairwise fun a b => TS.code 64 a ≤ TS.code 64 b := List.pairwise_map.mpr pw
        refine (List.Pairwise.and pw2 nd).imp_of_mem fun {a b} ha hb z => ?_
        have e : TS.code 64 a ≠ TS.code 64 b := fun z2 => z.2 (code_inj (by rw [(hR' a ha).1, (hR' b hb).1]) (hR' a ha).2 (hR' b hb).2 z2)
        have := z.1
        omega
      have e2 : L'.map (·.2) = isetR (ks.map (·.2)) := upR_eq hup (isetR_up hr) fun k => by rw [hmem, isetR_mem]
      have hX := ext_new (o := SetTO X.prog X.w s L) hF hs2
      rw [← e2] at q
      exact Res.newL hX.fh (rep_rows fun p hp => (hk p (hsub p (pm.mem_iff.mp hp))).2) (fun v F2 H2 x1 x2 x3 => q v F2 H2 (hX.trans x1) (fun z => by obtain ⟨a2, xs, e1, e2, e3, e4⟩ := x2 z; exact ⟨a2, xs, e1, e2, hX.hh.free e3, e4⟩) x3) hp2⟩
end
end Ev
end
section
set_option linter.all false
set_option autoImplicit false
set_option maxRecDepth 100000
set_option maxHeartbeats 4000000
/-! EvX: len(set(..)); all rules. -/
namespace Ev
open PySem PySem.Spec PyProof.Rows L2
section
variable {X : Cx} {l : Expr} {t : TE} {p p2 pos pos2 : Pos} {b : Bool}
theorem lset_in {F H : Hp} {x : V} {dx d : AV} (hF : Same F H) (o : Opd X.K X.w F H x dx) (e : bltop .lset [dx] = .ok d) : ∃ p ns, x = .ref p ∧ (SqL X.K H p (ns.map V.int) ∨ SqT X.K H p (ns.map V.int)) ∧ ns.length ≤ 1000 ∧ d = .int (isetI ns).length := by
  cases dx with
  | list xs =>
    obtain ⟨a, us, rfl, hq, hr⟩ := o.listE
    have e : (match ints? xs with
      | some is => if decide (is.length ≤ 1000) = true then R.ok (PyData.int (isetI is).length) else .bad
      | none => .bad) = .ok d := e
    cases hi : ints? xs with
    | none => rw [hi] at e; cases e
    | some is =>
      rw [hi] at e
      have e : (if decide (is.length ≤ 1000) = true then R.ok (PyData.int (isetI is).length) else .bad) = .ok d := e
      split at e
      · rename_i hc
        cases e
        obtain rfl := ints_rep hi hr
        exact ⟨a, is, rfl, .inl hq.sql, by simpa using hc, rfl⟩
      · cases e
  | _ => cases e
theorem lset_ok (hc : X.calm = true) (hl : PE X l t) (hs : stE l = false) (hg : Gl X "len") (hm : X.mg "len" = none) (hg2 : Gl X "set") (hm2 : X.mg "set" = none) :
    PE X (.Call (.Name "len" p) [.Call (.Name "set" p2) [l] [] pos2] [] pos) (tUn (rUn X.K X.w (fun x => bltop .lset [x]) b) t) :=
  (pe_callB cr_lenS hg hm PySem.boot_len (pa_cons (pe_callTy (cr_setL hc) hg2 hm2 PyProof.Rows.boot_set (pa_cons (pe_up hl) pa_nil (star_plain hs)) (by decide) (by decide) (star_plain hs) rfl) pa_nil) (by decide) (by decide)).imp fun σ H Q h => ⟨_, h, fun v H1 ⟨F, dx, d, hF, ox, e, q⟩ => by
    obtain ⟨a, ns, rfl, hq, h1, rfl⟩ := lset_in hF ox e
    refine ⟨a, ns, rfl, hq, h1, fun s hs2 => ⟨s, _, _, rfl, upd_same, Nat.le_trans (isetI_len ns) h1, ?_⟩⟩
    have hX := ext_new (o := SetO X.w s (fun j => decide (j ∈ ns)) (isetI ns).length) hF hs2
    exact q _ F _ hX (fun _ => NewV.of_rep rfl (.int _)) fun _ => .int _⟩
end
end Ev
end
section
set_option linter.all false
set_option autoImplicit false
set_option maxRecDepth 100000
set_option maxHeartbeats 4000000
/-! EvX2: all rules. -/
namespace Ev
open PySem PySem.Spec PyProof.Rows L2
theorem isi_ok {sc : Scope} {T : Str} {e l : Expr} (h : isi sc T e = some l) : ∃ p q pos, e = .Call (.Name "isinstance" p) [l, .Name T q] [] pos ∧ glB sc "isinstance" = true ∧ glB sc T = true ∧ stE l = false := by
  unfold isi at h
  split at h
  · split at h
    · rename_i hc
      simp only [Bool.and_eq_true, decide_eq_true_eq, Bool.not_eq_true'] at hc
      obtain ⟨⟨⟨⟨h1, h2⟩, h3⟩, h4⟩, h5⟩ := hc
      cases h
      subst h1 h3
      exact ⟨_, _, _, rfl, h2, h4, h5⟩
    · cases h
  · cases h
theorem isi2_ok {sc : Scope} {e l : Expr} (h : isi2 sc e = some l) : ∃ p q1 q2 k q3 pos, e = .Call (.Name "isinstance" p) [l, .Tuple [.Name "tuple" q1, .Name "list" q2] k q3] [] pos ∧ glB sc "isinstance" = true ∧ glB sc "tuple" = true ∧ glB sc "list" = true ∧ stE l = false := by
  unfold isi2 at h
  split at h
  · split at h
    · rename_i hc
      simp only [Bool.and_eq_true, decide_eq_true_eq, Bool.not_eq_true'] at hc
      obtain ⟨⟨⟨⟨⟨⟨h1, h2⟩, h3⟩, h4⟩, h5⟩, h6⟩, h8⟩ := hc
      cases h
      subst h1 h3 h5
      exact ⟨_, _, _, _, _, _, rfl, h2, h4, h6, h8⟩
    · cases h
  · cases h
theorem revE_ok {e l : Expr} (h : revE e = some l) : ∃ k p1 p2 p3 pos, e = .Subscript l (.Slice none none (some (.UnaryOp .USub (.Constant (.int 1) k p1) p2)) p3) pos := by
  unfold revE at h
  split at h
  · cases h
    exact ⟨_, _, _, _, _, rfl⟩
  · cases h
theorem bind1_ok {sc : Scope} {nm nm2 : Str} {e l : Expr} (h : (call1 sc nm e).bind (call1 sc nm2) = some l) : ∃ p pos p2 pos2, e = .Call (.Name nm p) [.Call (.Name nm2 p2) [l] [] pos2] [] pos ∧ glB sc nm = true ∧ glB sc nm2 = true ∧ stE l = false := by
  cases h1 : call1 sc nm e with
  | none => rw [h1] at h; cases h
  | some l1 =>
    rw [h1] at h
    obtain ⟨p, pos, rfl, g1, s1⟩ := call1_ok h1
    obtain ⟨p2, pos2, rfl, g2, s2⟩ := call1_ok h
    exact ⟨p, pos, p2, pos2, rfl, g1, g2, s2⟩
theorem bind2_ok {sc : Scope} {nm nm2 : Str} {e l r : Expr} (h : (call1 sc nm e).bind (call2 sc nm2) = some (l, r)) : ∃ p pos p2 pos2, e = .Call (.Name nm p) [.Call (.Name nm2 p2) [l, r] [] pos2] [] pos ∧ glB sc nm = true ∧ glB sc nm2 = true ∧ stE l = false ∧ stE r = false := by
  cases h1 : call1 sc nm e with
  | none => rw [h1] at h; cases h
  | some l1 =>
    rw [h1] at h
    obtain ⟨p, pos, rfl, g1, s1⟩ := call1_ok h1
    obtain ⟨p2, pos2, rfl, g2, s2, s3⟩ := call2_ok h
    exact ⟨p, pos, p2, pos2, rfl, g1, g2, s2, s3⟩
theorem bindm_ok {sc : Scope} {nm nm2 : Str} {e l : Expr} (h : (call1 sc nm e).bind (mth0 nm2) = some l) : ∃ p pos apos pos2, e = .Call (.Name nm p) [.Call (.Attribute l nm2 apos) [] [] pos2] [] pos ∧ glB sc nm = true ∧ (apos.endLine == pos2.line) = true ∧ abE l = true := by
  cases h1 : call1 sc nm e with
  | none => rw [h1] at h; cases h
  | some l1 =>
    rw [h1] at h
    obtain ⟨p, pos, rfl, g1, s1⟩ := call1_ok h1
    obtain ⟨apos, pos2, rfl, g2, s2⟩ := mth0_ok h
    exact ⟨p, pos, apos, pos2, rfl, g1, g2, s2⟩
section
variable {P : Tab} {k : Nat} {c : Cx}
theorem rules_ok (G : Good P k c) : Rls c := by
  have fre : ∀ x ∈ bnames, c.mg x = none := G.fre
  have u64 : c.A.units + 64 < cLine := by have := G.room.un; omega
  have u65 : c.A.units + 65 < cLine := by have := G.room.un; omega
  refine ⟨⟨fun op b => ?_, fun op b => ?_, ix_E u64, fun b => sl_E⟩, fun f e l h => ?_, fun f e l r h => ?_, fun cal a b m e l r h ha hb => ?_, fun cal a b d m e l r t h ha hb hd => ?_, fun es n tp l p pos cal b a hg hs ha => ?_, fre _ (by decide), by omega⟩
  · cases op
    · exact op_addE
    · exact op_subE
    · exact op_mulE
    · exact op_fdivE
    · exact op_modE
    · exact op_powE
  · cases op
    · exact op_eqE u64
    · exact op_neE u64
    · exact op_ltE u64
    · exact op_leE u64
    · exact op_gtE u64
    · exact op_geE u64
    · exact op_isE
    · exact op_isnotE
    · exact op_inE u65
    · exact op_ninE u65
    · exact op_isBE
  · cases f <;> first
      | (cases h; done)
      | (obtain ⟨p, pos, rfl, g, hs⟩ := call1_ok h
         refine ⟨rfl, fun nb t hf hl => ?_⟩
         first
           | exact callB1 cr_lenE (glB_ok g) (fre _ (by decide)) PySem.boot_len hl hs (by decide) (by decide)
           | exact callB1 (cr_sumE G.calm) (glB_ok g) (fre _ (by decide)) PyProof.Rows.boot_sum hl hs (by decide) (by decide)
           | exact callB1 (cr_allE G.calm) (glB_ok g) (fre _ (by decide)) PyProof.Rows.boot_all hl hs (by decide) (by decide)
           | exact callB1 (cr_anyE G.calm) (glB_ok g) (fre _ (by decide)) PyProof.Rows.boot_any hl hs (by decide) (by decide)
           | exact callB1 (cr_sortedE u64) (glB_ok g) (fre _ (by decide)) PyProof.Rows.boot_sorted hl hs (by decide) (by decide)
           | exact callB1 cr_absE (glB_ok g) (fre _ (by decide)) PyProof.Rows.boot_abs hl hs (by decide) (by decide)
           | exact callT1 (cr_listE G.calm) (glB_ok g) (fre _ (by decide)) PyProof.Rows.boot_list hl hs (by decide) (by decide)
           | exact callT1 cr_tupleE (glB_ok g) (fre _ (by decide)) PyProof.Rows.boot_tuple hl hs (by decide) (by decide)
           | exact callT1 cr_intE (glB_ok g) (fre _ (by decide)) PyProof.Rows.boot_int hl hs (by decide) (by decide)
           | exact callT1 cr_strE (glB_ok g) (fre _ (by decide)) PyProof.Rows.boot_str hl hs (by decide) (by decide)
           | (cases nb with
              | true => exact absurd (hf rfl) (by decide)
              | false => first
                | exact callB1 (cr_minE G.calm u64) (glB_ok g) (fre _ (by decide)) PyProof.Rows.boot_min hl hs (by decide) (by decide)
                | exact callB1 (cr_maxE G.calm u64) (glB_ok g) (fre _ (by decide)) PyProof.Rows.boot_max hl hs (by decide) (by decide)))
      | (obtain ⟨p, q, pos, rfl, g1, g2, hs⟩ := isi_ok h
         refine ⟨rfl, fun nb t hf hl => ?_⟩
         first
           | exact isi1_ok (c := "int") rfl hl hs (glB_ok g1) (fre _ (by decide)) (glB_ok g2) (fre _ (by decide)) PyProof.Rows.boot_int (by decide) (by decide)
           | exact isi1_ok (c := "bool") rfl hl hs (glB_ok g1) (fre _ (by decide)) (glB_ok g2) (fre _ (by decide)) PyProof.Rows.boot_bool (by decide) (by decide)
           | exact isi1_ok (c := "tuple") rfl hl hs (glB_ok g1) (fre _ (by decide)) (glB_ok g2) (fre _ (by decide)) PyProof.Rows.boot_tuple (by decide) (by decide)
           | exact isi1_ok (c := "str") rfl hl hs (glB_ok g1) (fre _ (by decide)) (glB_ok g2) (fre _ (by decide)) PyProof.Rows.boot_str (by decide) (by decide)
           | exact isi1_ok (c := "list") rfl hl hs (glB_ok g1) (fre _ (by decide)) (glB_ok g2) (fre _ (by decide)) PyProof.Rows.boot_list (by decide) (by decide))
      | (obtain ⟨p, q1, q2, k, q3, pos, rfl, g1, g2, g3, hs⟩ := isi2_ok h
         exact ⟨rfl, fun nb t hf hl => isTL_ok hl hs (glB_ok g1) (fre _ (by decide)) (glB_ok g2) (fre _ (by decide)) (glB_ok g3) (fre _ (by decide))⟩)
      | (obtain ⟨k, p1, p2, p3, pos, rfl⟩ := revE_ok h
         exact ⟨rfl, fun nb t hf hl => rev_ok hl⟩)
      | (obtain ⟨p, pos, apos, pos2, rfl, g1, g2, hb⟩ := bindm_ok h
         refine ⟨rfl, fun nb t hf hl => ?_⟩
         first
           | exact lvals_ok G.calm hl (glB_ok g1) (fre _ (by decide)) (ab_base hb _ _) g2
           | exact sitems_ok G.calm u64 hl (glB_ok g1) (fre _ (by decide)) (ab_base hb _ _) g2)
      | (obtain ⟨p, pos, p2, pos2, rfl, g1, g2, hs⟩ := bind1_ok h
         refine ⟨rfl, fun nb t hf hl => ?_⟩
         first
           | exact lrng1_ok G.calm hl hs (glB_ok g1) (fre _ (by decide)) (glB_ok g2) (fre _ (by decide))
           | exact trng1_ok G.calm hl hs (glB_ok g1) (fre _ (by decide)) (glB_ok g2) (fre _ (by decide))
           | exact sset_ok G.calm u64 hl hs (glB_ok g1) (fre _ (by decide)) (glB_ok g2) (fre _ (by decide))
           | exact lset_ok G.calm hl hs (glB_ok g1) (fre _ (by decide)) (glB_ok g2) (fre _ (by decide)))
  · cases f <;> first
      | (cases h; done)
      | (obtain ⟨p, pos, rfl, g, hs, hs2⟩ := call2_ok h
         refine ⟨rfl, fun nb t u hf hl hr => ?_⟩
         first
           | exact (mm2_ok (mx := false) G.calm hl hr hs hs2).1 rfl (glB_ok g) (fre _ (by decide))
           | exact (mm2_ok (mx := true) G.calm hl hr hs hs2).2 rfl (glB_ok g) (fre _ (by decide)))
      | (obtain ⟨p, pos, p2, pos2, rfl, g1, g2, hs, hs2⟩ := bind2_ok h
         refine ⟨rfl, fun nb t u hf hl hr => ?_⟩
         first
           | exact lrng2_ok G.calm hl hr hs hs2 (glB_ok g1) (fre _ (by decide)) (glB_ok g2) (fre _ (by decide))
           | exact trng2_ok G.calm hl hr hs hs2 (glB_ok g1) (fre _ (by decide)) (glB_ok g2) (fre _ (by decide)))
  · unfold shm1 at h
    split at h
    · split at h
      · rename_i hc
        simp only [Bool.and_eq_true, decide_eq_true_eq, Bool.not_eq_true'] at hc
        obtain ⟨⟨⟨h1, h2⟩, h3⟩, h4⟩ := hc
        cases h
        cases m <;> first
          | (cases h1; done)
          | (cases h1; exact ok_meth1 .index rfl (mth_list (.inl rfl)) (fun t u hl hr => meth_pe PySem.F.slot_list_index PySem.F.type_list_index (mt_indexE u65) hl hr h4 (ab_base h3 _ _) h2) ha hb)
          | (cases h1; exact ok_meth1 .count rfl (mth_list (.inr rfl)) (fun t u hl hr => meth_pe PySem.F.slot_list_count PySem.F.type_list_count (mt_countE u65) hl hr h4 (ab_base h3 _ _) h2) ha hb)
          | (cases h1; exact ok_get1 u64 ⟨ab_base h3 _ _, stE_few h4, h2, by rw [star_plain h4]; rfl⟩ ha hb)
      · cases h
    · cases h
  · unfold shm2 at h
    split at h
    · split at h
      · rename_i hc
        simp only [Bool.and_eq_true, decide_eq_true_eq, Bool.not_eq_true'] at hc
        obtain ⟨⟨⟨⟨h1, h2⟩, h3⟩, h4⟩, h5⟩ := hc
        cases h
        subst h1
        exact ok_get2 u64 ⟨ab_base h3 _ _, by rw [star_plain h4, star_plain h5]; rfl, h2, by rw [star_plain h4, star_plain h5]; rfl⟩ ha hb hd
      · cases h
    · cases h
  · exact it_enum b (glB_ok hg) (fre _ (by decide)) hs ha
end
end Ev
end
section
set_option linter.all false
set_option autoImplicit false
set_option maxRecDepth 100000
set_option maxHeartbeats 4000000
/-! EvQ: the head's facts; a law's end over a list of defs. -/
namespace Ev
open PySem PySem.Spec PyProof.Rows L2
def Bnd (e : Src) : Prop := ∀ (kV doc pm : Value) (an : Option Addr) (cdv ct : Value) (us : List Value), us.length = e.ps.length → bindArgs (PySem.W.fnOf e.x e.x e.params e.body e.scope .none kV doc pm an cdv ct) ⟨us, []⟩ = pure (e.ps.zip us)
def AllB : List Src → Prop
  | [] => True
  | e :: r => Bnd e ∧ AllB r
theorem AllB.at : ∀ {l : List Src} {e : Src}, AllB l → e ∈ l → Bnd e
  | [], _, _, h => by cases h
  | x :: l, e, hb, h => by
    rcases List.mem_cons.mp h with rfl | h
    · exact hb.1
    · exact AllB.at hb.2 h
def tabOf (srcs : List Src) (gs : List (Str × AV)) : Tab := ⟨fun f => (srcs.find? fun e => Nat.beq e.id f).map (·.D), fun f => ((srcs.find? fun e => Nat.beq e.id f).map (·.x)).getD "", fun y => (gs.find? fun p => decide (p.1 = y)).map (·.2)⟩
def dOf (e : Src) : He.DefD := ⟨(e.x, none), e.x, e.x, e.params, e.body, e.scope, [], []⟩
def dvOf : AV → He.Dv
  | .int i => .int i
  | .str x => .str x
  | _ => .non
def atomB : AV → Bool
  | .int _ => true
  | .str _ => true
  | _ => false
/-- a constant of the module stands there -/
def gB (K : PySem.W.Frag) : Str × AV → Bool
  | (y, .int i) => (He.Fa.int y i).ok K
  | (y, .str z) => (He.Fa.str y z).ok K
  | (y, .tuple ds) => (He.Fa.glo y).ok K && (He.tupB K y (ds.map dvOf) && ds.all atomB)
  | _ => false
def fasOf (srcs : List Src) : List He.Fa := (srcs.map fun e => He.Fa.glo e.x) ++ bnames.map He.Fa.free
def obsX (srcs : List Src) (gs : List (Str × AV)) (K : PySem.W.Frag) : He.AlD :=
  ((((fasOf srcs).all fun f => f.ok K) && (srcs.all fun e => (dOf e).ok K)) && gs.all (gB K), srcs.map fun e => He.fnW K (dOf e).at_)
def valX (srcs : List Src) : He.AlD := (true, srcs.map fun e => (dOf e).val)
/-- an address told before? a number's digits keep what was told -/
def seenX (v a : Nat) : Bool := Nat.beq (Nat.land (Nat.shiftRight v a) 1) 1
def dedX : List Addr → Nat → List Addr
  | [], _ => []
  | a :: r, v => match seenX v a with
    | true => dedX r v
    | false => match Nat.lor v (Nat.shiftLeft 1 a) with
      | 0 => []
      | n + 1 => a :: dedX r (n + 1)
def growX (g : Addr → Option Obj) (as : List Addr) : List Addr := dedX (as ++ as.flatMap fun a => match g a with
  | some o => He.refsD o
  | none => []) 0
/-- what the module's names reach in n steps -/
def asX (g : Addr → Option Obj) : Nat → List Addr
  | 0 => [mainGlobals]
  | n + 1 => growX g (asX g n)
def obsXG (n : Nat) (srcs : List Src) (gs : List (Str × AV)) (g : Addr → Option Obj) : He.AlD := obsX srcs gs (He.frG g (asX g n))
def hookX (n : Nat) (srcs : List Src) (gs : List (Str × AV)) : PySem.W.Hook where
  α := He.AlD
  obs s := obsXG n srcs gs s.heap.get?
  val _ := valX srcs
  says _ h := ∃ K : PySem.W.Frag, K.In h ∧ obsX srcs gs K = valX srcs
  of _ _ e := ⟨_, He.frG_in, e⟩
  keeps _ _ _ x k := x.elim fun K y => ⟨K, PySem.W.Frag.In.keeps y.1 k, y.2⟩
theorem obsXG_eq {n : Nat} {srcs : List Src} {gs : List (Str × AV)} {g : Addr → Option Obj} {s : Shared} (h : ∀ a, g a = s.heap.get? a) : obsXG n srcs gs g = (hookX n srcs gs).obs s := by
  have e : g = s.heap.get? := funext h
  subst e
  rfl
theorem rep_atoms {K : PySem.W.Frag} {w : World} {F : Hp} : ∀ {ds : List AV}, ds.all atomB = true → RepL K w F ((ds.map dvOf).map (He.Dv.v K)) ds
  | [], _ => .nil
  | d :: ds, h => by
    simp only [List.all_cons, Bool.and_eq_true] at h
    refine .cons ?_ (rep_atoms h.2)
    cases d with
    | int i => exact .int i
    | str x => exact .str x
    | _ => cases h.1
theorem gB_ok {K : PySem.W.Frag} {w : World} {h : Heap} {mg : Str → Option Value} (X : K.In h) (G : h.Ns mainGlobals mg) {y : Str} {a : AV} (c : gB K (y, a) = true) : ∃ v u, mg y = some u ∧ RelV v u ∧ ∀ F, Rep K w F v a := by
  cases a with
  | int i => obtain ⟨t, e⟩ := He.int_ok X G c; exact ⟨.int i, _, e, ⟨t, rfl⟩, fun _ => .int i⟩
  | str z => obtain ⟨t, e⟩ := He.str_ok X G c; exact ⟨.str z, _, e, ⟨t, rfl⟩, fun _ => .str z⟩
  | tuple ds =>
    have c : ((He.Fa.glo y).ok K && (He.tupB K y (ds.map dvOf) && ds.all atomB)) = true := c
    simp only [Bool.and_eq_true] at c
    exact ⟨.ref (He.ga K y), _, He.glo_ok X G c.1, rfl, fun F => .tup (He.tupB_ok c.2.1 F) (rep_atoms c.2.2)⟩
  | _ => cases c
theorem find_src {srcs : List Src} {gs : List (Str × AV)} {f : Nat} {D : Def} (h : (tabOf srcs gs) f = some D) : ∃ e ∈ srcs, e.id = f ∧ e.D = D ∧ (tabOf srcs gs).nm f = e.x := by
  obtain ⟨e, h1, h2⟩ := Option.map_eq_some_iff.mp (show ((srcs.find? fun e => Nat.beq e.id f).map (·.D)) = some D from h)
  refine ⟨e, List.mem_of_find?_eq_some h1, Nat.eq_of_beq_eq_true (List.find?_some (p := fun e : Src => Nat.beq e.id f) h1), h2, ?_⟩
  show ((srcs.find? fun e => Nat.beq e.id f).map (·.x)).getD ("" : Str) = e.x
  rw [h1]
  rfl
theorem find_con {srcs : List Src} {gs : List (Str × AV)} {y : Str} {a : AV} (h : (tabOf srcs gs).g y = some a) : (y, a) ∈ gs := by
  obtain ⟨e, h1, h2⟩ := Option.map_eq_some_iff.mp (show ((gs.find? fun p => decide (p.1 = y)).map (·.2)) = some a from h)
  have h3 := List.mem_of_find?_eq_some h1
  have h4 : e.1 = y := by simpa using List.find?_some h1
  obtain ⟨e1, e2⟩ := e
  cases h4
  cases h2
  exact h3
theorem src_at {srcs : List Src} {gs : List (Str × AV)} {K : PySem.W.Frag} (c : obsX srcs gs K = valX srcs) {e : Src} (he : e ∈ srcs) : ∃ fd, FunD K e.x e.x e.params e.body e.scope [] [] (He.ga K e.x) fd := by
  obtain ⟨i, hi, rfl⟩ := List.getElem_of_mem he
  have h1 : ((((fasOf srcs).all fun f => f.ok K) && (srcs.all fun e => (dOf e).ok K)) && gs.all (gB K)) = true := congrArg (fun z : He.AlD => z.1) c
  simp only [Bool.and_eq_true] at h1
  have h2 : (srcs.map fun e => He.fnW K (dOf e).at_) = srcs.map fun e => (dOf e).val := congrArg (fun z : He.AlD => z.2) c
  have h3 : (srcs.map fun e => He.fnW K (dOf e).at_)[i]? = (srcs.map fun e => (dOf e).val)[i]? := by rw [h2]
  rw [List.getElem?_map, List.getElem?_map, List.getElem?_eq_getElem hi] at h3
  exact He.DefD.funD (Option.some.inj h3) (List.all_eq_true.mp h1.1.2 _ he)
/-- a law whose own evaluation ends with True keeps it on the machine -/
theorem law_facts {srcs : List Src} {gs : List (Str × AV)} {prog : Program} {w : World} {K : PySem.W.Frag} {h : Heap} {mg : Str → Option Value} {x : Str} {e0 : Src} {fa : Addr} {k : Nat} (X : K.In h) (G : h.Ns mainGlobals mg) (c : obsX srcs gs K = valX srcs)
    (hb : AllB srcs) (hs : srcs.all (srcB (tabOf srcs gs)) = true) (h0 : (tabOf srcs gs) e0.id = some e0.D) (hp : e0.ps = [x]) (hio : e0.D.io = []) (he0 : e0 ∈ srcs) (hfa : mg e0.x = some (.ref fa)) :
    ∃ fd : FuncData, (∀ (s : Shared) (u : Value), BindsTo s fd ⟨[u], []⟩ [(x, u)]) ∧ ∀ base : Heap, K.In base → base.Ns mainGlobals mg → FnOk prog w K mg base CX0 (k + 1) fa fd [x] (spD K w (callD (tabOf srcs gs) (k + 1) e0.id) []) := by
  have h1 : ((((fasOf srcs).all fun f => f.ok K) && (srcs.all fun e => (dOf e).ok K)) && gs.all (gB K)) = true := congrArg (fun z : He.AlD => z.1) c
  simp only [Bool.and_eq_true] at h1
  have glo : ∀ e ∈ srcs, mg e.x = some (.ref (He.ga K e.x)) := fun e he => He.glo_ok X G (List.all_eq_true.mp h1.1.1 (.glo e.x) (List.mem_append_left _ (List.mem_map_of_mem he)))
  have fre : ∀ b ∈ bnames, mg b = none := fun b hb => He.free_ok X G (List.all_eq_true.mp h1.1.1 (.free b) (List.mem_append_right _ (List.mem_map_of_mem hb)))
  have con : ∀ y a, (tabOf srcs gs).g y = some a → ∃ v u, mg y = some u ∧ RelV v u ∧ ∀ F, Rep K w F v a := fun y a hy => gB_ok X G (List.all_eq_true.mp h1.2 _ (find_con hy))
  obtain ⟨fd, F⟩ := src_at c he0
  have e := hfa.symm.trans (glo e0 he0)
  cases e
  have bnd : ∀ e ∈ srcs, ∀ {fa : Addr} {fd : FuncData}, FunD K e.x e.x e.params e.body e.scope [] [] fa fd → Binds K fd e.ps [] := fun e he _ _ F => FunD.bindsN F (hb.at he)
  have b := FunD.bindsA (ps := e0.ps) F (hb.at he0)
  rw [hp] at b
  refine ⟨fd, fun s u => b s [u] rfl, fun base _ _ => ?_⟩
  have hT : ∀ f D, (tabOf srcs gs) f = some D → ∃ (e : Src) (fa : Addr) (fd : FuncData), e.id = f ∧ e.D = D ∧ srcB (tabOf srcs gs) e = true ∧ FunD K e.x e.x e.params e.body e.scope [] [] fa fd ∧ mg ((tabOf srcs gs).nm f) = some (.ref fa) ∧ Binds K fd e.ps [] := fun f D hf => by
    obtain ⟨e, he, rfl, rfl, en⟩ := find_src hf
    obtain ⟨fd, F⟩ := src_at c he
    exact ⟨e, _, fd, rfl, rfl, List.all_eq_true.mp hs e he, F, en ▸ glo e he, bnd e he F⟩
  have A := all_ok (prog := prog) (base := base) (fun k c => rules_ok) fre con hT
  have R := def_ok (prog := prog) (base := base) (fun c => rules_ok) h0 (List.all_eq_true.mp hs e0 he0) F fre con (A k)
  rw [hp, hio] at R
  exact R
end Ev
end
section
set_option linter.all false
set_option autoImplicit false
/-! Wk0: a value evaluator for pure expressions. -/
namespace Ev
open PySem (Str PyData)
def loopV (f : AV → R (List AV)) : List AV → R (List AV)
  | [] => .ok []
  | x :: xs => do
    let a ← f x
    let b ← loopV f xs
    .ok (a ++ b)
/-- by a test -/
def R.tf {α : Type} (b : Bool) (x y : R α) : R α := match b with
  | true => x
  | false => y
/-- of a list or a tuple -/
def itL : AV → R (List AV)
  | .list xs => .ok xs
  | .tuple xs => .ok xs
  | .dict kvs => .ok (kvs.map (·.1))
  | _ => .bad
def rng1 : AV → R (List AV)
  | .int n => if okRng n then .ok (rangeD 0 n) else .bad
  | _ => .bad
def rng2 : AV → AV → R (List AV)
  | .int m, .int n => if okRng m && okRng n then .ok (rangeD m n) else .bad
  | _, _ => .bad
def enuL (v : AV) : R (List AV) := match items? v with
  | some xs => .ok (enumD 0 xs)
  | none => .bad
def starL (v : AV) (vs : List AV) : R (List AV) := match items? v with
  | some xs => if xs.length ≤ line then .ok (xs ++ vs) else .bad
  | none => .bad
def tmpL (v : AV) (vs : List AV) : R (List AV) := if mutA v then .ok (v :: vs) else .bad
def dItems : AV → R (List AV)
  | .dict kvs => .ok (kvs.map (fun p => .tuple [p.1, p.2]))
  | _ => .bad
def dVals : AV → R (List AV)
  | .dict kvs => .ok (kvs.map (·.2))
  | _ => .bad
def negV : AV → R AV
  | .int i => .ok (.int (-i))
  | _ => .bad
def sliV (x : AV) (l h : Option AV) : R AV := match l, h with
  | none, none => slcop x none none
  | some (.int i), none => slcop x (some i) none
  | none, some (.int j) => slcop x none (some j)
  | some (.int i), some (.int j) => slcop x (some i) (some j)
  | _, _ => .bad
def dispD (vs : List AV) : R AV := dispL vs >>= fun kvs => .ok (.dict kvs)
def outN (p : AV × List AV) : R AV := match p.2 with
  | [] => .ok p.1
  | _ => .bad
/-- a comprehension's condition -/
def R.cond (b : Option AV) (x : R (List AV)) : R (List AV) := match b with
  | none => x
  | some b => do R.tf (← asB b) x (.ok [])
def dMerge (acc : List (AV × AV)) : AV → R (List (AV × AV))
  | .dict kvs => if acc.isEmpty && kvs.all (fun p => leafK p.1) then .ok kvs else .bad
  | _ => .bad
def leafD (kvs : List (AV × AV)) : R (List (AV × AV)) := if kvs.all (fun p => leafK p.1) then .ok kvs else .bad
section
variable (cal : Cal)
mutual
def vE : X → Env → R AV
  | .var i, env => look env i
  | .con a, _ => .ok a
  | .bin op a b, env => do binop op (← vE a env) (← vE b env)
  | .neg a, env => do negV (← vE a env)
  | .not a, env => do .ok (.bool (!(← asB (← vE a env))))
  | .and a b, env => do
    R.tf (← asB (← vE a env)) (do .ok (.bool (← asB (← vE b env)))) (.ok (.bool false))
  | .or a b, env => do
    R.tf (← asB (← vE a env)) (.ok (.bool true)) (do .ok (.bool (← asB (← vE b env))))
  | .cmp op a b, env => do cmpop op (← vE a env) (← vE b env)
  | .chain op op' a b c, env => do
    let x ← vE a env
    let y ← vE b env
    R.tf (← asB (← cmpop op x y)) (do .ok (.bool (← asB (← cmpop op' y (← vE c env))))) (.ok (.bool false))
  | .ite c a b, env => do
    R.tf (← asB (← vE c env)) (vE a env) (vE b env)
  | .tup es, env => do tupR (← vXs es env)
  | .lst es, env => do lstR (← vXs es env)
  | .dict es, env => do .ok (.dict (← vDs es [] env))
  | .idx a i, env => do idxop (← vE a env) (← vE i env)
  | .slc a lo hi, env => do
    let x ← vE a env
    let l ← vOx lo env
    let h ← vOx hi env
    sliV x l h
  | .comp _ cs e, env => do lstR (← vCs cs (fun env => do .ok [← vE e env]) env)
  | .dcomp _ cs k v, env => do dispD (← vCs cs (fun env => do .ok [.tuple [← vE k env, ← vE v env]]) env)
  | .call f es, env => do
    outN (← cal f (← vXs es env))
  | .blt f es, env => do bltop f (← vXs es env)
  | .meth m o es, env => do mthop m (← vE o env) (← vXs es env)
  | .pop _ _, _ => .bad
def vXs : Xs → Env → R (List AV)
  | .nil, _ => .ok []
  | .cons e r, env => do
    let v ← vE e env
    let vs ← vXs r env
    .ok (v :: vs)
  | .star e r, env => do
    let v ← vE e env
    let vs ← vXs r env
    starL v vs
  | .tmp e r, env => do
    let v ← vE e env
    let vs ← vXs r env
    tmpL v vs
  | .io _ _, _ => .bad
def vOx : Ox → Env → R (Option AV)
  | .none, _ => .ok none
  | .some e, env => do .ok (some (← vE e env))
def vDs : Ds → List (AV × AV) → Env → R (List (AV × AV))
  | .nil, acc, _ => .ok acc
  | .kv k v r, acc, env => do
    let a ← vE k env
    let b ← vE v env
    vDs r (← dput' acc a b) env
  | .star d r, acc, env => do
    leafD (← vDs r (← dMerge acc (← vE d env)) env)
def vCs : Cs → (Env → R (List AV)) → Env → R (List AV)
  | .nil, last, env => last env
  | .cons ws tg it c r, last, env => do
    let xs ← vIt it env
    loopV (fun x => do
      let env2 ← bindTg tg x (wipeE env ws)
      R.cond (← vOx c env2) (vCs r last env2)) xs
def vIt : It → Env → R (List AV)
  | .expr e, env => do itL (← vE e env)
  | .rng1 a, env => do rng1 (← vE a env)
  | .rng2 a b, env => do rng2 (← vE a env) (← vE b env)
  | .enum e, env => do enuL (← vE e env)
  | .items e, env => do dItems (← vE e env)
  | .vals e, env => do dVals (← vE e env)
end
end
/-! ### pure, names of comprehensions their own -/
def plXs : Xs → Bool
  | .nil => true
  | .cons _ r => plXs r
  | .star _ r => plXs r
  | .tmp _ _ => false
  | .io _ _ => false
mutual
def puE : X → Bool
  | .var _ => true
  | .con _ => true
  | .bin _ a b => puE a && puE b
  | .neg a => puE a
  | .not a => puE a
  | .and a b => puE a && puE b
  | .or a b => puE a && puE b
  | .cmp _ a b => puE a && puE b
  | .chain _ _ a b c => puE a && puE b && puE c
  | .ite c a b => puE c && puE a && puE b
  | .tup es => puXs es
  | .lst es => puXs es
  | .dict es => puDs es
  | .idx a i => puE a && puE i
  | .slc a lo hi => puE a && puOx lo && puOx hi
  | .comp own cs e => puCs own cs && puE e
  | .dcomp own cs k v => puCs own cs && puE k && puE v
  | .call _ es => puXs es && plXs es
  | .blt _ es => puXs es
  | .meth _ o es => puE o && puXs es
  | .pop _ _ => false
def puXs : Xs → Bool
  | .nil => true
  | .cons e r => puE e && puXs r
  | .star e r => puE e && puXs r
  | .tmp e r => puE e && puXs r
  | .io _ _ => false
def puOx : Ox → Bool
  | .none => true
  | .some e => puE e
def puDs : Ds → Bool
  | .nil => true
  | .kv k v r => puE k && puE v && puDs r
  | .star d r => puE d && puDs r
def puCs : Sl → Cs → Bool
  | _, .nil => true
  | S, .cons ws tg it c r => sub ws S && sub (tgsOf tg) ws && puIt it && puOx c && puCs ws r
def puIt : It → Bool
  | .expr e => puE e
  | .rng1 a => puE a
  | .rng2 a b => puE a && puE b
  | .enum e => puE e
  | .items e => puE e
  | .vals e => puE e
end
/-- alike but at some slots -/
def Ag (S : Sl) (e e' : Env) : Prop := e.length = e'.length ∧ ∀ i, i ∉ S → e[i]? = e'[i]?
theorem Ag.refl (S : Sl) (e : Env) : Ag S e e := ⟨rfl, fun _ _ => rfl⟩
theorem Ag.trans {S : Sl} {a b c : Env} (h : Ag S a b) (g : Ag S b c) : Ag S a c := ⟨h.1.trans g.1, fun i hi => (h.2 i hi).trans (g.2 i hi)⟩
theorem Ag.symm {S : Sl} {a b : Env} (h : Ag S a b) : Ag S b a := ⟨h.1.symm, fun i hi => (h.2 i hi).symm⟩
theorem Ag.mono {S T : Sl} {a b : Env} (h : Ag S a b) (q : ∀ i ∈ S, i ∈ T) : Ag T a b := ⟨h.1, fun i hi => h.2 i fun z => hi (q i z)⟩
theorem ag_set {S : Sl} (e : Env) {i : Nat} (v : Option AV) (h : i ∈ S) : Ag S e (e.set i v) := ⟨by rw [List.length_set], fun j hj => by
  rw [List.getElem?_set_ne]
  intro z
  subst z
  exact hj h⟩
theorem wipe_len (e : Env) : ∀ ws : List Nat, (wipeE e ws).length = e.length
  | [] => rfl
  | i :: is => by rw [wipeE, List.length_set, wipe_len e is]
theorem wipe_get (e : Env) (j : Nat) : ∀ ws : List Nat, (wipeE e ws)[j]? = if j ∈ ws then (if j < e.length then some none else none) else e[j]?
  | [] => by rw [wipeE, if_neg (by simp)]
  | i :: is => by
    rw [wipeE, List.getElem?_set, wipe_get e j is, wipe_len]
    by_cases h : i = j
    · subst h
      rw [if_pos rfl, if_pos List.mem_cons_self]
    · rw [if_neg h]
      by_cases h2 : j ∈ is
      · rw [if_pos h2, if_pos (List.mem_cons_of_mem _ h2)]
      · rw [if_neg h2, if_neg (fun z => (List.mem_cons.mp z).elim (fun z => h z.symm) h2)]
theorem wipe_ag (e : Env) (ws : Sl) : Ag ws e (wipeE e ws) := ⟨(wipe_len e ws).symm, fun i hi => by rw [wipe_get, if_neg hi]⟩
theorem wipe_same {e e' : Env} {ws : Sl} (h : Ag ws e e') : wipeE e ws = wipeE e' ws := List.ext_getElem? fun i => by
  rw [wipe_get, wipe_get]
  by_cases hi : i ∈ ws
  · rw [if_pos hi, if_pos hi, h.1]
  · rw [if_neg hi, if_neg hi, h.2 i hi]
theorem back_len (e0 e : Env) : ∀ ws : List Nat, (back e0 e ws).length = e.length
  | [] => rfl
  | i :: is => by rw [back, List.length_set, back_len e0 e is]
theorem back_get (e0 e : Env) (j : Nat) : ∀ ws : List Nat, (back e0 e ws)[j]? = if j ∈ ws then (if j < e.length then some (e0[j]?.getD none) else none) else e[j]?
  | [] => by rw [back, if_neg (by simp)]
  | i :: is => by
    rw [back, List.getElem?_set, back_get e0 e j is, back_len]
    by_cases h : i = j
    · subst h
      rw [if_pos rfl, if_pos List.mem_cons_self]
    · rw [if_neg h]
      by_cases h2 : j ∈ is
      · rw [if_pos h2, if_pos (List.mem_cons_of_mem _ h2)]
      · rw [if_neg h2, if_neg (fun z => (List.mem_cons.mp z).elim (fun z => h z.symm) h2)]
theorem back_same {e e' : Env} {ws : Sl} (h : Ag ws e e') : back e e' ws = e := List.ext_getElem? fun i => by
  rw [back_get]
  by_cases hi : i ∈ ws
  · rw [if_pos hi, ← h.1]
    by_cases hl : i < e.length
    · rw [if_pos hl, List.getElem?_eq_getElem hl]; rfl
    · rw [if_neg hl, List.getElem?_eq_none (by omega)]
  · rw [if_neg hi, h.2 i hi]
/-- what the machine does with names, and without -/
inductive Sm {α : Type} (S : Sl) (env : Env) : R (α × Env) → R α → Prop
  | ok (a : α) (env' : Env) : Ag S env env' → Sm S env (.ok (a, env')) (.ok a)
  | exc (c : Str) (as : List AV) : Sm S env (.exc c as) (.exc c as)
  | bad : Sm S env .bad .bad
/-- names as they were -/
def Eqv {α : Type} (env : Env) (r : R (α × Env)) (v : R α) : Prop := r = (v >>= fun a => .ok (a, env))
theorem Eqv.sm {α : Type} {S : Sl} {env : Env} {r : R (α × Env)} {v : R α} (h : Eqv env r v) : Sm S env r v := by
  unfold Eqv at h
  subst h
  cases v with
  | ok a => exact .ok a env (Ag.refl _ _)
  | exc c as => exact .exc c as
  | bad => exact .bad
theorem Eqv.bind {α β : Type} {env : Env} {r : R (α × Env)} {v : R α} {f : α × Env → R (β × Env)} {g : α → R β} (h : Eqv env r v) (k : ∀ a, Eqv env (f (a, env)) (g a)) : Eqv env (r >>= f) (v >>= g) := by
  unfold Eqv at h
  subst h
  cases v with
  | ok a => exact k a
  | exc c as => rfl
  | bad => rfl
theorem Eqv.map {α β : Type} {env : Env} {r : R (α × Env)} {v : R α} {g : α → R β} (h : Eqv env r v) : Eqv env (r >>= fun p => g p.1 >>= fun b => .ok (b, p.2)) (v >>= g) := h.bind fun a => rfl
theorem Eqv.pure {α : Type} {env : Env} (a : α) : Eqv env (.ok (a, env)) (.ok a) := rfl
theorem setAll_ag {S : Sl} : ∀ {is : List Nat} {vs : List AV} {e e' : Env}, sub is S = true → setAll is vs e = some e' → Ag S e e'
  | [], [], e, e', _, h => by cases h; exact Ag.refl _ _
  | [], _ :: _, e, e', _, h => by cases h
  | _ :: _, [], e, e', _, h => by cases h
  | i :: is, v :: vs, e, e', hs, h => by
    simp only [sub, List.all_cons, Bool.and_eq_true] at hs
    exact (ag_set e (some v) (by simpa using hs.1)).trans (setAll_ag (is := is) (by simpa [sub] using hs.2) h)
theorem bind_ag {S : Sl} {tg : Tg} {x : AV} {e e' : Env} (hs : sub (tgsOf tg) S = true) (h : bindTg tg x e = .ok e') : Ag S e e' := by
  cases tg with
  | var i =>
    cases h
    exact ag_set e _ (by simpa [sub, tgsOf] using hs)
  | tup is =>
    cases x with
    | tuple vs =>
      have h : (match setAll is vs e with | some e => R.ok e | none => .bad) = .ok e' := h
      cases q : setAll is vs e with
      | none => rw [q] at h; cases h
      | some e1 => rw [q] at h; cases h; exact setAll_ag hs q
    | _ => cases h
theorem loop_sm {S : Sl} {f : AV → Env → R (List AV × Env)} {g : AV → R (List AV)} {e0 : Env} (h : ∀ x e, Ag S e0 e → Sm S e0 (f x e) (g x)) : ∀ (xs : List AV) {e : Env}, Ag S e0 e → Sm S e0 (loopC f xs e) (loopV g xs)
  | [], e, he => .ok [] e he
  | x :: xs, e, he => by
    rw [loopC, loopV]
    have h1 := h x e he
    generalize f x e = r at h1 ⊢
    generalize g x = r' at h1 ⊢
    cases h1 with
    | ok a e1 h1 =>
      have h2 := loop_sm h xs h1
      rw [R.ok_bind, R.ok_bind]
      dsimp only
      generalize loopC f xs e1 = q at h2 ⊢
      generalize loopV g xs = q' at h2 ⊢
      cases h2 with
      | ok b e2 h2 => exact .ok _ _ h2
      | exc c as => exact .exc c as
      | bad => exact .bad
    | exc c as => exact .exc c as
    | bad => exact .bad
theorem Sm.mono {α : Type} {S T : Sl} {env : Env} {r : R (α × Env)} {v : R α} (h : Sm S env r v) (q : ∀ i ∈ S, i ∈ T) : Sm T env r v := by
  cases h with
  | ok a e h => exact .ok a e (h.mono q)
  | exc c as => exact .exc c as
  | bad => exact .bad
theorem Sm.from {α : Type} {S : Sl} {e0 env : Env} {r : R (α × Env)} {v : R α} (h : Sm S env r v) (g : Ag S e0 env) : Sm S e0 r v := by
  cases h with
  | ok a e h => exact .ok a e (g.trans h)
  | exc c as => exact .exc c as
  | bad => exact .bad
theorem mem_of_sub {A B : Sl} (h : sub A B = true) : ∀ i ∈ A, i ∈ B := fun i hi => by
  have := List.all_eq_true.mp h i hi
  simpa using this
theorem comp_eqv {S : Sl} {env : Env} {α : Type} {r : R (List AV × Env)} {v : R (List AV)} (h : Sm S env r v) (k : List AV → R α) : Eqv env (r >>= fun p => k p.1 >>= fun d => R.ok (d, back env p.2 S)) (v >>= k) := by
  cases h with
  | ok a e h =>
    rw [R.ok_bind, R.ok_bind]
    dsimp only
    rw [back_same h]
    rfl
  | exc c as => rfl
  | bad => rfl
theorem Eqv.opt {α β : Type} {env : Env} {r : R α} {f : α → R (β × Env)} {g : α → R β} (k : ∀ a, Eqv env (f a) (g a)) : Eqv env (r >>= f) (r >>= g) := by
  cases r with
  | ok a => exact k a
  | exc c as => rfl
  | bad => rfl
theorem Eqv.fin {β : Type} {env : Env} {r : R β} : Eqv env (r >>= fun b => R.ok (b, env)) r := rfl
theorem putIos_pure : ∀ (es : Xs) {outs : List AV} {env : Env}, plXs es = true → putIos es outs env = match outs with
    | [] => .ok env
    | _ => .bad
  | .nil, [], env, _ => rfl
  | .nil, _ :: _, env, _ => rfl
  | .cons e r, outs, env, h => by
    rw [putIos]
    exact putIos_pure r h
  | .star e r, outs, env, h => by
    rw [putIos]
    exact putIos_pure r h
section
variable (cal : Cal)
mutual
theorem pE : ∀ (x : X) (env : Env), puE x = true → Eqv env (evE cal x env) (vE cal x env)
  | .var i, env, _ => by rw [evE, vE]; exact .fin
  | .con a, env, _ => rfl
  | .bin op a b, env, h => by
    simp only [puE, Bool.and_eq_true] at h
    rw [evE, vE]
    exact (pE a env h.1).bind fun x => (pE b env h.2).bind fun y => .fin
  | .neg a, env, h => by
    simp only [puE] at h
    rw [evE, vE]
    refine (pE a env h).bind fun x => ?_
    cases x <;> rfl
  | .not a, env, h => by
    simp only [puE] at h
    rw [evE, vE]
    refine (pE a env h).bind fun x => ?_
    exact .opt fun b => rfl
  | .and a b, env, h => by
    simp only [puE, Bool.and_eq_true] at h
    rw [evE, vE]
    refine (pE a env h.1).bind fun x => .opt fun k => ?_
    cases k with
    | true => exact (pE b env h.2).bind fun y => .opt fun j => rfl
    | false => rfl
  | .or a b, env, h => by
    simp only [puE, Bool.and_eq_true] at h
    rw [evE, vE]
    refine (pE a env h.1).bind fun x => .opt fun k => ?_
    cases k with
    | true => rfl
    | false => exact (pE b env h.2).bind fun y => .opt fun j => rfl
  | .cmp op a b, env, h => by
    simp only [puE, Bool.and_eq_true] at h
    rw [evE, vE]
    exact (pE a env h.1).bind fun x => (pE b env h.2).bind fun y => .fin
  | .chain op op' a b d, env, h => by
    simp only [puE, Bool.and_eq_true] at h
    rw [evE, vE]
    refine (pE a env h.1.1).bind fun x => (pE b env h.1.2).bind fun y => .opt fun z => .opt fun k => ?_
    cases k with
    | true => exact (pE d env h.2).bind fun y => .opt fun j => .opt fun j => rfl
    | false => rfl
  | .ite d a b, env, h => by
    simp only [puE, Bool.and_eq_true] at h
    rw [evE, vE]
    refine (pE d env h.1.1).bind fun x => .opt fun k => ?_
    cases k with
    | true => exact pE a env h.1.2
    | false => exact pE b env h.2
  | .tup es, env, h => by
    simp only [puE] at h
    rw [evE, vE]
    exact (pXs es env h).bind fun x => .fin
  | .lst es, env, h => by
    simp only [puE] at h
    rw [evE, vE]
    exact (pXs es env h).bind fun x => .fin
  | .dict es, env, h => by
    simp only [puE] at h
    rw [evE, vE]
    exact (pDs es [] env h).bind fun x => rfl
  | .idx a i, env, h => by
    simp only [puE, Bool.and_eq_true] at h
    rw [evE, vE]
    exact (pE a env h.1).bind fun x => (pE i env h.2).bind fun y => .fin
  | .slc a lo hi, env, h => by
    simp only [puE, Bool.and_eq_true] at h
    rw [evE, vE]
    refine (pE a env h.1.1).bind fun x => (pOx lo env h.1.2).bind fun l => (pOx hi env h.2).bind fun u => ?_
    rcases l with _ | (_ | _ | i | _ | _ | _ | _) <;> rcases u with _ | (_ | _ | j | _ | _ | _ | _) <;> first
      | exact .fin
      | rfl
  | .comp own cs e, env, h => by
    simp only [puE, Bool.and_eq_true] at h
    rw [evE, vE]
    exact comp_eqv (pCs cs own _ (fun env => vE cal e env >>= fun v => R.ok [v]) env h.1 fun env => (pE e env h.2).bind (f := fun p : AV × Env => R.ok ([p.1], p.2)) (g := fun v => R.ok [v]) fun v => rfl) lstR
  | .dcomp own cs k v, env, h => by
    simp only [puE, Bool.and_eq_true] at h
    rw [evE, vE]
    have hs := pCs cs own _ _ env h.1.1 fun env => (pE k env h.1.2).bind (f := fun p : AV × Env => evE cal v p.2 >>= fun q => R.ok ([PyData.tuple [p.1, q.1]], q.2)) (g := fun a => vE cal v env >>= fun b => R.ok [PyData.tuple [a, b]]) fun a => (pE v env h.2).bind fun b => rfl
    refine Eq.trans ?_ (comp_eqv hs dispD)
    congr 1
    funext p
    obtain ⟨p1, p2⟩ := p
    unfold dispD
    dsimp only
    cases dispL p1 <;> rfl
  | .call f es, env, h => by
    simp only [puE, Bool.and_eq_true] at h
    rw [evE, vE]
    refine (pXs es env h.1).bind fun x => ?_
    dsimp only
    refine .opt fun p => ?_
    rw [putIos_pure es h.2]
    obtain ⟨p1, p2⟩ := p
    cases p2 <;> rfl
  | .blt f es, env, h => by
    simp only [puE] at h
    rw [evE, vE]
    exact (pXs es env h).bind fun x => .fin
  | .meth m o es, env, h => by
    simp only [puE, Bool.and_eq_true] at h
    rw [evE, vE]
    exact (pE o env h.1).bind fun x => (pXs es env h.2).bind fun x => .fin
  | .pop _ _, env, h => by simp [puE] at h
theorem pXs : ∀ (x : Xs) (env : Env), puXs x = true → Eqv env (evXs cal x env) (vXs cal x env)
  | .nil, env, _ => rfl
  | .cons e r, env, h => by
    simp only [puXs, Bool.and_eq_true] at h
    rw [evXs, vXs]
    exact (pE e env h.1).bind fun x => (pXs r env h.2).bind fun y => rfl
  | .star e r, env, h => by
    simp only [puXs, Bool.and_eq_true] at h
    rw [evXs, vXs]
    refine (pE e env h.1).bind fun x => (pXs r env h.2).bind fun y => ?_
    dsimp only
    unfold starL
    cases items? x with
    | none => rfl
    | some xs => dsimp only; split <;> rfl
  | .tmp e r, env, h => by
    simp only [puXs, Bool.and_eq_true] at h
    rw [evXs, vXs]
    refine (pE e env h.1).bind fun x => (pXs r env h.2).bind fun y => ?_
    dsimp only
    unfold tmpL
    split <;> rfl
  | .io _ _, env, h => by simp [puXs] at h
theorem pOx : ∀ (x : Ox) (env : Env), puOx x = true → Eqv env (evOx cal x env) (vOx cal x env)
  | .none, env, _ => rfl
  | .some e, env, h => by
    simp only [puOx] at h
    rw [evOx, vOx]
    exact (pE e env h).bind fun x => rfl
theorem pDs : ∀ (x : Ds) (acc : List (AV × AV)) (env : Env), puDs x = true → Eqv env (evDs cal x acc env) (vDs cal x acc env)
  | .nil, acc, env, _ => rfl
  | .kv k v r, acc, env, h => by
    simp only [puDs, Bool.and_eq_true] at h
    rw [evDs, vDs]
    exact (pE k env h.1.1).bind fun x => (pE v env h.1.2).bind fun y => .opt fun acc => pDs r acc env h.2
  | .star d r, acc, env, h => by
    simp only [puDs, Bool.and_eq_true] at h
    rw [evDs, vDs]
    refine (pE d env h.1).bind fun x => ?_
    unfold dMerge
    cases x <;> first
      | rfl
      | (dsimp only; split <;> first
          | (refine (pDs r _ env h.2).bind fun y => ?_
             dsimp only
             unfold leafD
             split <;> rfl)
          | rfl)
theorem pCs : ∀ (cs : Cs) (S : Sl) (last : Env → R (List AV × Env)) (lastV : Env → R (List AV)) (env : Env), puCs S cs = true → (∀ env, Eqv env (last env) (lastV env)) → Sm S env (evCs cal cs last env) (vCs cal cs lastV env)
  | .nil, S, last, lastV, env, _, hl => by
    rw [evCs, vCs]
    exact (hl env).sm
  | .cons ws tg it c r, S, last, lastV, env, h, hl => by
    simp only [puCs, Bool.and_eq_true] at h
    obtain ⟨⟨⟨⟨h1, h2⟩, h3⟩, h4⟩, h5⟩ := h
    rw [evCs, vCs]
    refine Sm.mono ?_ (mem_of_sub h1)
    have hi := pIt it env h3
    unfold Eqv at hi
    rw [hi]
    cases vIt cal it env with
    | exc c as => exact .exc c as
    | bad => exact .bad
    | ok xs =>
      rw [R.ok_bind, R.ok_bind, R.ok_bind]
      dsimp only
      refine loop_sm (fun x e he => ?_) xs (Ag.refl _ _)
      rw [← wipe_same he]
      cases q : bindTg tg x (wipeE env ws) with
      | exc c as => exact .exc c as
      | bad => exact .bad
      | ok env2 =>
        rw [R.ok_bind, R.ok_bind]
        have a2 : Ag ws env env2 := (wipe_ag env ws).trans (bind_ag h2 q)
        have hc := pOx c env2 h4
        unfold Eqv at hc
        rw [hc]
        cases vOx cal c env2 with
        | exc c as => exact .exc c as
        | bad => exact .bad
        | ok b =>
          rw [R.ok_bind, R.ok_bind, R.ok_bind]
          dsimp only
          cases b with
          | none => exact (pCs r ws last lastV env2 h5 hl).from a2
          | some b =>
            dsimp only
            unfold R.cond
            dsimp only
            cases asB b with
            | exc c as => exact .exc c as
            | bad => exact .bad
            | ok k =>
              cases k with
              | true => exact (pCs r ws last lastV env2 h5 hl).from a2
              | false => exact .ok _ _ a2
theorem pIt : ∀ (x : It) (env : Env), puIt x = true → Eqv env (evIt cal x env) (vIt cal x env)
  | .expr e, env, h => by
    simp only [puIt] at h
    rw [evIt, vIt]
    refine (pE e env h).bind fun x => ?_
    cases x <;> rfl
  | .rng1 a, env, h => by
    simp only [puIt] at h
    rw [evIt, vIt]
    refine (pE a env h).bind fun x => ?_
    unfold rng1
    cases x <;> first
      | rfl
      | (dsimp only; split <;> rfl)
  | .rng2 a b, env, h => by
    simp only [puIt, Bool.and_eq_true] at h
    rw [evIt, vIt]
    refine (pE a env h.1).bind fun x => (pE b env h.2).bind fun y => ?_
    unfold rng2
    cases x <;> cases y <;> first
      | rfl
      | (dsimp only; split <;> rfl)
  | .enum e, env, h => by
    simp only [puIt] at h
    rw [evIt, vIt]
    refine (pE e env h).bind fun x => ?_
    dsimp only
    unfold enuL
    cases items? x <;> rfl
  | .items e, env, h => by
    simp only [puIt] at h
    rw [evIt, vIt]
    refine (pE e env h).bind fun x => ?_
    cases x <;> rfl
  | .vals e, env, h => by
    simp only [puIt] at h
    rw [evIt, vIt]
    refine (pE e env h).bind fun x => ?_
    cases x <;> rfl
end
theorem evE_pure {x : X} {env : Env} (h : puE x = true) : evE cal x env = (vE cal x env >>= fun v => .ok (v, env)) := pE cal x env h
theorem evXs_pure {x : Xs} {env : Env} (h : puXs x = true) : evXs cal x env = (vXs cal x env >>= fun v => .ok (v, env)) := pXs cal x env h
theorem evIt_pure {x : It} {env : Env} (h : puIt x = true) : evIt cal x env = (vIt cal x env >>= fun v => .ok (v, env)) := pIt cal x env h
end
end Ev
end
section
set_option linter.all false
set_option autoImplicit false
/-! Wk1: how an own text is evaluated by simp; values of Lean's types. -/
namespace Ev
open PySem (Str PyData)
/-- no step by reckoning -/
theorem nrfl {α : Sort _} {a b : α} (h : a = b) : a = b := h
/-! ### the monad -/
@[simp] theorem R.tf_true {α : Type} (x y : R α) : R.tf true x y = x := nrfl rfl
@[simp] theorem R.tf_false {α : Type} (x y : R α) : R.tf false x y = y := nrfl rfl
@[simp] theorem R.tf_ok {α : Type} (b : Bool) (x y : α) : R.tf b (.ok x) (.ok y) = .ok (if b = true then x else y) := by cases b <;> rfl
@[simp] theorem R.tf_bind {α β : Type} (b : Bool) (x y : R α) (f : α → R β) : (R.tf b x y >>= f) = R.tf b (x >>= f) (y >>= f) := by cases b <;> rfl
@[simp] theorem R.assoc {α β γ : Type} (x : R α) (f : α → R β) (g : β → R γ) : ((x >>= f) >>= g) = (x >>= fun a => f a >>= g) := by cases x <;> rfl
@[simp] theorem asB_bool (b : Bool) : asB (.bool b) = .ok b := nrfl rfl
@[simp] theorem outN_nil (v : AV) : outN (v, []) = .ok v := nrfl rfl
/-! ### names -/
@[simp] theorem look_0 (v : AV) (env : Env) : look (some v :: env) 0 = .ok v := nrfl rfl
@[simp] theorem look_s (v : Option AV) (env : Env) (i : Nat) : look (v :: env) (i + 1) = look env i := nrfl rfl
@[simp] theorem wipeE_nil (env : Env) : wipeE env [] = env := nrfl rfl
@[simp] theorem wipeE_cons (env : Env) (i : Nat) (is : List Nat) : wipeE env (i :: is) = (wipeE env is).set i none := nrfl rfl
@[simp] theorem bindTg_var (i : Nat) (v : AV) (env : Env) : bindTg (.var i) v env = .ok (env.set i (some v)) := nrfl rfl
@[simp] theorem bindTg_tup1 (i : Nat) (v : AV) (env : Env) : bindTg (.tup [i]) (.tuple [v]) env = .ok (env.set i (some v)) := nrfl rfl
@[simp] theorem bindTg_tup2 (i j : Nat) (v u : AV) (env : Env) : bindTg (.tup [i, j]) (.tuple [v, u]) env = .ok ((env.set i (some v)).set j (some u)) := nrfl rfl
@[simp] theorem bindTg_tup3 (i j k : Nat) (v u w : AV) (env : Env) : bindTg (.tup [i, j, k]) (.tuple [v, u, w]) env = .ok (((env.set i (some v)).set j (some u)).set k (some w)) := nrfl rfl
@[simp] theorem bindTg_tup4 (i j k l : Nat) (v u w x : AV) (env : Env) : bindTg (.tup [i, j, k, l]) (.tuple [v, u, w, x]) env = .ok ((((env.set i (some v)).set j (some u)).set k (some w)).set l (some x)) := nrfl rfl
/-! ### expressions -/
section
variable (cal : Cal) (env : Env) (a b c : X) (es : Xs)
@[simp] theorem vE_var (i : Nat) : vE cal (.var i) env = look env i := nrfl rfl
@[simp] theorem vE_con (v : AV) : vE cal (.con v) env = .ok v := nrfl rfl
@[simp] theorem vE_bin (op : Bop) : vE cal (.bin op a b) env = (vE cal a env >>= fun x => vE cal b env >>= fun y => binop op x y) := nrfl rfl
@[simp] theorem vE_neg : vE cal (.neg a) env = (vE cal a env >>= negV) := nrfl rfl
@[simp] theorem vE_not : vE cal (.not a) env = (vE cal a env >>= fun x => asB x >>= fun k => .ok (.bool (!k))) := nrfl rfl
@[simp] theorem vE_and : vE cal (.and a b) env = (vE cal a env >>= fun x => asB x >>= fun k => R.tf k (vE cal b env >>= fun y => asB y >>= fun j => .ok (.bool j)) (.ok (.bool false))) := nrfl rfl
@[simp] theorem vE_or : vE cal (.or a b) env = (vE cal a env >>= fun x => asB x >>= fun k => R.tf k (.ok (.bool true)) (vE cal b env >>= fun y => asB y >>= fun j => .ok (.bool j))) := nrfl rfl
@[simp] theorem vE_cmp (op : Cop) : vE cal (.cmp op a b) env = (vE cal a env >>= fun x => vE cal b env >>= fun y => cmpop op x y) := nrfl rfl
@[simp] theorem vE_chain (op op' : Cop) : vE cal (.chain op op' a b c) env = (vE cal a env >>= fun x => vE cal b env >>= fun y => cmpop op x y >>= fun z => asB z >>= fun k =>
    R.tf k (vE cal c env >>= fun u => cmpop op' y u >>= fun z => asB z >>= fun j => .ok (.bool j)) (.ok (.bool false))) := nrfl rfl
@[simp] theorem vE_ite : vE cal (.ite c a b) env = (vE cal c env >>= fun x => asB x >>= fun k => R.tf k (vE cal a env) (vE cal b env)) := nrfl rfl
@[simp] theorem vE_tup : vE cal (.tup es) env = (vXs cal es env >>= tupR) := nrfl rfl
@[simp] theorem vE_lst : vE cal (.lst es) env = (vXs cal es env >>= lstR) := nrfl rfl
@[simp] theorem vE_dict (ds : Ds) : vE cal (.dict ds) env = (vDs cal ds [] env >>= fun kvs => .ok (.dict kvs)) := nrfl rfl
@[simp] theorem vE_idx : vE cal (.idx a b) env = (vE cal a env >>= fun x => vE cal b env >>= fun y => idxop x y) := nrfl rfl
@[simp] theorem vE_slc (lo hi : Ox) : vE cal (.slc a lo hi) env = (vE cal a env >>= fun x => vOx cal lo env >>= fun l => vOx cal hi env >>= fun h => sliV x l h) := nrfl rfl
@[simp] theorem vE_comp (own : List Nat) (cs : Cs) : vE cal (.comp own cs a) env = (vCs cal cs (fun env => vE cal a env >>= fun v => .ok [v]) env >>= lstR) := nrfl rfl
@[simp] theorem vE_dcomp (own : List Nat) (cs : Cs) : vE cal (.dcomp own cs a b) env = (vCs cal cs (fun env => vE cal a env >>= fun k => vE cal b env >>= fun v => .ok [.tuple [k, v]]) env >>= dispD) := nrfl rfl
@[simp] theorem vE_call (f : Nat) : vE cal (.call f es) env = (vXs cal es env >>= fun vs => cal f vs >>= outN) := nrfl rfl
@[simp] theorem vE_blt (f : Blt) : vE cal (.blt f es) env = (vXs cal es env >>= bltop f) := nrfl rfl
@[simp] theorem vE_meth (m : Mth) : vE cal (.meth m a es) env = (vE cal a env >>= fun x => vXs cal es env >>= mthop m x) := nrfl rfl
@[simp] theorem vXs_nil : vXs cal .nil env = .ok [] := nrfl rfl
@[simp] theorem vXs_cons : vXs cal (.cons a es) env = (vE cal a env >>= fun v => vXs cal es env >>= fun vs => .ok (v :: vs)) := nrfl rfl
@[simp] theorem vXs_star : vXs cal (.star a es) env = (vE cal a env >>= fun v => vXs cal es env >>= starL v) := nrfl rfl
@[simp] theorem vXs_tmp : vXs cal (.tmp a es) env = (vE cal a env >>= fun v => vXs cal es env >>= tmpL v) := nrfl rfl
@[simp] theorem vOx_none : vOx cal .none env = .ok none := nrfl rfl
@[simp] theorem vOx_some : vOx cal (.some a) env = (vE cal a env >>= fun v => .ok (some v)) := nrfl rfl
@[simp] theorem vDs_nil (acc : List (AV × AV)) : vDs cal .nil acc env = .ok acc := nrfl rfl
@[simp] theorem vDs_kv (acc : List (AV × AV)) (r : Ds) : vDs cal (.kv a b r) acc env = (vE cal a env >>= fun k => vE cal b env >>= fun v => dput' acc k v >>= fun acc => vDs cal r acc env) := nrfl rfl
@[simp] theorem vDs_star (acc : List (AV × AV)) (r : Ds) : vDs cal (.star a r) acc env = (vE cal a env >>= fun d => dMerge acc d >>= fun acc => vDs cal r acc env >>= leafD) := nrfl rfl
@[simp] theorem vCs_nil (last : Env → R (List AV)) : vCs cal .nil last env = last env := nrfl rfl
@[simp] theorem vCs_cons (ws : List Nat) (tg : Tg) (it : It) (d : Ox) (r : Cs) (last : Env → R (List AV)) : vCs cal (.cons ws tg it d r) last env = (vIt cal it env >>= loopV fun x =>
    bindTg tg x (wipeE env ws) >>= fun env2 => vOx cal d env2 >>= fun b => R.cond b (vCs cal r last env2)) := nrfl rfl
@[simp] theorem cond_none (x : R (List AV)) : R.cond none x = x := nrfl rfl
@[simp] theorem cond_some (b : AV) (x : R (List AV)) : R.cond (some b) x = (asB b >>= fun k => R.tf k x (.ok [])) := nrfl rfl
@[simp] theorem vIt_expr : vIt cal (.expr a) env = (vE cal a env >>= itL) := nrfl rfl
@[simp] theorem vIt_rng1 : vIt cal (.rng1 a) env = (vE cal a env >>= rng1) := nrfl rfl
@[simp] theorem vIt_rng2 : vIt cal (.rng2 a b) env = (vE cal a env >>= fun x => vE cal b env >>= fun y => rng2 x y) := nrfl rfl
@[simp] theorem vIt_enum : vIt cal (.enum a) env = (vE cal a env >>= enuL) := nrfl rfl
@[simp] theorem vIt_items : vIt cal (.items a) env = (vE cal a env >>= dItems) := nrfl rfl
@[simp] theorem vIt_vals : vIt cal (.vals a) env = (vE cal a env >>= dVals) := nrfl rfl
end
@[simp] theorem putIos_nil (env : Env) : putIos .nil [] env = .ok env := nrfl rfl
@[simp] theorem putIos_cons (e : X) (r : Xs) (vs : List AV) (env : Env) : putIos (.cons e r) vs env = putIos r vs env := by cases vs <;> rfl
@[simp] theorem putIos_io (i : Nat) (r : Xs) (v : AV) (vs : List AV) (env : Env) : putIos (.io i r) (v :: vs) env = putIos r vs (env.set i (some v)) := nrfl rfl
@[simp] theorem putIos_tmp (e : X) (r : Xs) (v : AV) (vs : List AV) (env : Env) : putIos (.tmp e r) (v :: vs) env = putIos r vs env := nrfl rfl
/-! ### pure texts -/
section
variable (a b c : X) (es : Xs)
@[simp] theorem puE_var (i : Nat) : puE (.var i) = true := nrfl rfl
@[simp] theorem puE_con (v : AV) : puE (.con v) = true := nrfl rfl
@[simp] theorem puE_bin (op : Bop) : puE (.bin op a b) = (puE a && puE b) := nrfl rfl
@[simp] theorem puE_neg : puE (.neg a) = puE a := nrfl rfl
@[simp] theorem puE_not : puE (.not a) = puE a := nrfl rfl
@[simp] theorem puE_and : puE (.and a b) = (puE a && puE b) := nrfl rfl
@[simp] theorem puE_or : puE (.or a b) = (puE a && puE b) := nrfl rfl
@[simp] theorem puE_cmp (op : Cop) : puE (.cmp op a b) = (puE a && puE b) := nrfl rfl
@[simp] theorem puE_chain (op op' : Cop) : puE (.chain op op' a b c) = (puE a && puE b && puE c) := nrfl rfl
@[simp] theorem puE_ite : puE (.ite c a b) = (puE c && puE a && puE b) := nrfl rfl
@[simp] theorem puE_tup : puE (.tup es) = puXs es := nrfl rfl
@[simp] theorem puE_lst : puE (.lst es) = puXs es := nrfl rfl
@[simp] theorem puE_dict (ds : Ds) : puE (.dict ds) = puDs ds := nrfl rfl
@[simp] theorem puE_idx : puE (.idx a b) = (puE a && puE b) := nrfl rfl
@[simp] theorem puE_slc (lo hi : Ox) : puE (.slc a lo hi) = (puE a && puOx lo && puOx hi) := nrfl rfl
@[simp] theorem puE_comp (own : List Nat) (cs : Cs) : puE (.comp own cs a) = (puCs own cs && puE a) := nrfl rfl
@[simp] theorem puE_dcomp (own : List Nat) (cs : Cs) : puE (.dcomp own cs a b) = (puCs own cs && puE a && puE b) := nrfl rfl
@[simp] theorem puE_call (f : Nat) : puE (.call f es) = (puXs es && plXs es) := nrfl rfl
@[simp] theorem plXs_nil : plXs .nil = true := nrfl rfl
@[simp] theorem plXs_cons : plXs (.cons a es) = plXs es := nrfl rfl
@[simp] theorem plXs_star : plXs (.star a es) = plXs es := nrfl rfl
@[simp] theorem puXs_io (i : Nat) : puXs (.io i es) = false := nrfl rfl
@[simp] theorem plXs_io (i : Nat) : plXs (.io i es) = false := nrfl rfl
@[simp] theorem plXs_tmp : plXs (.tmp a es) = false := nrfl rfl
@[simp] theorem puE_pop (i : Nat) (d : Ox) : puE (.pop i d) = false := nrfl rfl
@[simp] theorem puXs_tmp : puXs (.tmp a es) = (puE a && puXs es) := nrfl rfl
@[simp] theorem puE_blt (f : Blt) : puE (.blt f es) = puXs es := nrfl rfl
@[simp] theorem puE_meth (m : Mth) : puE (.meth m a es) = (puE a && puXs es) := nrfl rfl
@[simp] theorem puXs_nil : puXs .nil = true := nrfl rfl
@[simp] theorem puXs_cons : puXs (.cons a es) = (puE a && puXs es) := nrfl rfl
@[simp] theorem puXs_star : puXs (.star a es) = (puE a && puXs es) := nrfl rfl
@[simp] theorem puOx_none : puOx .none = true := nrfl rfl
@[simp] theorem puOx_some : puOx (.some a) = puE a := nrfl rfl
@[simp] theorem puDs_nil : puDs .nil = true := nrfl rfl
@[simp] theorem puDs_kv (r : Ds) : puDs (.kv a b r) = (puE a && puE b && puDs r) := nrfl rfl
@[simp] theorem puDs_star (r : Ds) : puDs (.star a r) = (puE a && puDs r) := nrfl rfl
@[simp] theorem puCs_nil (S : Sl) : puCs S .nil = true := nrfl rfl
@[simp] theorem puCs_cons (S : Sl) (ws : List Nat) (tg : Tg) (it : It) (d : Ox) (r : Cs) : puCs S (.cons ws tg it d r) = (sub ws S && sub (tgsOf tg) ws && puIt it && puOx d && puCs ws r) := nrfl rfl
@[simp] theorem puIt_expr : puIt (.expr a) = puE a := nrfl rfl
@[simp] theorem puIt_rng1 : puIt (.rng1 a) = puE a := nrfl rfl
@[simp] theorem puIt_rng2 : puIt (.rng2 a b) = (puE a && puE b) := nrfl rfl
@[simp] theorem puIt_enum : puIt (.enum a) = puE a := nrfl rfl
@[simp] theorem puIt_items : puIt (.items a) = puE a := nrfl rfl
@[simp] theorem puIt_vals : puIt (.vals a) = puE a := nrfl rfl
@[simp] theorem tgsOf_var (i : Nat) : tgsOf (.var i) = [i] := nrfl rfl
@[simp] theorem tgsOf_tup (is : List Nat) : tgsOf (.tup is) = is := nrfl rfl
@[simp] theorem sub_nil (B : Sl) : sub [] B = true := nrfl rfl
@[simp] theorem sub_cons (i : Nat) (A B : Sl) : sub (i :: A) B = (B.contains i && sub A B) := nrfl rfl
end
/-! ### statements -/
def flK (k : Env → R Fl) : Fl → R Fl
  | .nx e => k e
  | .bk e => .ok (.bk e)
  | .ct e => .ok (.ct e)
  | .rt v e => .ok (.rt v e)
@[simp] theorem flK_nx (k : Env → R Fl) (e : Env) : flK k (.nx e) = k e := nrfl rfl
@[simp] theorem flK_bk (k : Env → R Fl) (e : Env) : flK k (.bk e) = .ok (.bk e) := nrfl rfl
@[simp] theorem flK_ct (k : Env → R Fl) (e : Env) : flK k (.ct e) = .ok (.ct e) := nrfl rfl
@[simp] theorem flK_rt (k : Env → R Fl) (v : AV) (e : Env) : flK k (.rt v e) = .ok (.rt v e) := nrfl rfl
section
variable (cal : Cal) (env : Env)
@[simp] theorem ss_nil : evSs cal .nil env = .ok (.nx env) := nrfl rfl
theorem ss_cons (s : S) (r : Ss) : evSs cal (.cons s r) env = (evS cal s env >>= flK (evSs cal r)) := by
  rw [evSs]
  rfl
@[simp] theorem ss_asg {i : Nat} {e : X} {r : Ss} (h : puE e = true) : evSs cal (.cons (.asg i e) r) env = (vE cal e env >>= fun v => evSs cal r (env.set i (some v))) := by
  rw [ss_cons, evS, evE_pure cal h]
  cases vE cal e env <;> rfl
@[simp] theorem ss_move {i j : Nat} {r : Ss} : evSs cal (.cons (.move i j) r) env = (look env j >>= fun v => evSs cal r ((env.set j none).set i (some v))) := by
  rw [ss_cons, evS]
  cases look env j <;> rfl
@[simp] theorem ss_unp {is : List Nat} {e : X} {r : Ss} (h : puE e = true) : evSs cal (.cons (.unp is e) r) env = (vE cal e env >>= fun v => bindTg (.tup is) v env >>= evSs cal r) := by
  rw [ss_cons, evS, evE_pure cal h]
  cases vE cal e env with
  | ok v => simp only [R.ok_bind, R.assoc]; cases bindTg (.tup is) v env <;> rfl
  | exc _ _ => rfl
  | bad => rfl
@[simp] theorem ss_expr {e : X} {r : Ss} (h : puE e = true) : evSs cal (.cons (.expr e) r) env = (vE cal e env >>= fun _ => evSs cal r env) := by
  rw [ss_cons, evS, evE_pure cal h]
  cases vE cal e env <;> rfl
@[simp] theorem ss_ret {e : X} {r : Ss} (h : puE e = true) : evSs cal (.cons (.ret e) r) env = (vE cal e env >>= fun v => .ok (.rt v env)) := by
  rw [ss_cons, evS, evE_pure cal h]
  cases vE cal e env <;> rfl
@[simp] theorem ss_ite {c : X} {a b r : Ss} (h : puE c = true) : evSs cal (.cons (.ite c a b) r) env = (vE cal c env >>= fun x => asB x >>= fun k => R.tf k (evSs cal a env) (evSs cal b env) >>= flK (evSs cal r)) := by
  rw [ss_cons, evS, evE_pure cal h]
  cases vE cal c env with
  | ok v =>
    simp only [R.ok_bind, R.assoc]
    cases asB v with
    | ok k => cases k <;> rfl
    | exc _ _ => rfl
    | bad => rfl
  | exc _ _ => rfl
  | bad => rfl
def appL (x v : AV) : R AV := match x with
  | .list xs => if xs.length < line then .ok (.list (xs ++ [v])) else .bad
  | _ => .bad
@[simp] theorem ss_app {i : Nat} {e : X} {r : Ss} (h : puE e = true) : evSs cal (.cons (.app i e) r) env = (look env i >>= fun x => asL x >>= fun _ => vE cal e env >>= fun v => appL x v >>= fun y => evSs cal r (env.set i (some y))) := by
  rw [ss_cons, evS, evE_pure cal h]
  cases hl : look env i with
  | ok x =>
    cases x with
    | list xs =>
      simp only [R.ok_bind, R.assoc, asL]
      cases vE cal e env with
      | ok v =>
        simp only [R.ok_bind, hl, appL]
        split <;> rfl
      | exc _ _ => rfl
      | bad => rfl
    | _ => rfl
  | exc _ _ => rfl
  | bad => rfl
def extL (x y : AV) : R AV := match x, y with
  | .list xs, .list ys => if xs.length + ys.length ≤ line then .ok (.list (xs ++ ys)) else .bad
  | _, _ => .bad
@[simp] theorem ss_ext {i : Nat} {e : X} {r : Ss} (h : puE e = true) : evSs cal (.cons (.ext i e) r) env = (look env i >>= fun x => asL x >>= fun _ => vE cal e env >>= fun v => extL x v >>= fun y => evSs cal r (env.set i (some y))) := by
  rw [ss_cons, evS, evE_pure cal h]
  cases hl : look env i with
  | ok x =>
    cases x with
    | list xs =>
      simp only [R.ok_bind, R.assoc, asL]
      cases vE cal e env with
      | ok v =>
        simp only [R.ok_bind, hl]
        cases v <;> first
          | rfl
          | (simp only [extL]; split <;> rfl)
      | exc _ _ => rfl
      | bad => rfl
    | _ => rfl
  | exc _ _ => rfl
  | bad => rfl
def augV : Bop → AV → AV → R AV
  | .add, .int a, .int b => .ok (.int (a + b))
  | .sub, .int a, .int b => .ok (.int (a - b))
  | _, _, _ => .bad
@[simp] theorem ss_aug {i : Nat} {op : Bop} {e : X} {r : Ss} (h : puE e = true) : evSs cal (.cons (.aug i op e) r) env = (look env i >>= fun x => vE cal e env >>= fun v => augV op x v >>= fun y => evSs cal r (env.set i (some y))) := by
  rw [ss_cons, evS, evE_pure cal h]
  cases hl : look env i with
  | ok x =>
    simp only [R.ok_bind, R.assoc]
    cases vE cal e env with
    | ok v =>
      simp only [R.ok_bind]
      cases op <;> cases x <;> cases v <;> rfl
    | exc _ _ => rfl
    | bad => rfl
  | exc _ _ => rfl
  | bad => rfl
def setV (x k v : AV) : R AV := match x, k with
  | .list xs, .int j => match ixOf xs.length j with
    | some n => .ok (.list (xs.set n v))
    | none => .bad
  | .dict kvs, k => dput' kvs k v >>= fun kvs' => .ok (.dict kvs')
  | _, _ => .bad
@[simp] theorem ss_seti {i : Nat} {k v : X} {r : Ss} (h : puE k = true) (h2 : puE v = true) : evSs cal (.cons (.seti i k v) r) env = (vE cal v env >>= fun v => look env i >>= fun x => vE cal k env >>= fun k => setV x k v >>= fun y => evSs cal r (env.set i (some y))) := by
  rw [ss_cons, evS, evE_pure cal h2]
  cases vE cal v env with
  | ok v =>
    simp only [R.ok_bind, R.assoc, evE_pure cal h]
    cases hl : look env i with
    | ok x =>
      simp only [R.ok_bind, R.assoc]
      cases vE cal k env with
      | ok k =>
        simp only [R.ok_bind, R.assoc, hl]
        cases x <;> cases k <;> first
          | rfl
          | (simp only [setV]; rename_i xs j; cases ixOf xs.length j <;> rfl)
          | (simp only [setV, R.assoc]; rfl)
          | (simp only [setV, R.assoc, R.ok_bind]; rename_i xs j; cases dput' xs _ v <;> rfl)
      | exc _ _ => rfl
      | bad => rfl
    | exc _ _ => rfl
    | bad => rfl
  | exc _ _ => rfl
  | bad => rfl
def parK (k : Env → R Fl) : Option Env → R Fl
  | some e => k e
  | none => .bad
@[simp] theorem ss_par {is : List Nat} {es : Xs} {r : Ss} (h : puXs es = true) : evSs cal (.cons (.par is es) r) env = (vXs cal es env >>= fun vs => parK (evSs cal r) (setAll is vs env)) := by
  rw [ss_cons, evS, evXs_pure cal h]
  cases vXs cal es env with
  | ok vs =>
    simp only [R.ok_bind, R.assoc]
    cases setAll is vs env <;> rfl
  | exc _ _ => rfl
  | bad => rfl
@[simp] theorem parK_some (k : Env → R Fl) (e : Env) : parK k (some e) = k e := nrfl rfl
@[simp] theorem setAll_nil (e : Env) : setAll [] [] e = some e := nrfl rfl
@[simp] theorem setAll_cons (i : Nat) (is : List Nat) (v : AV) (vs : List AV) (e : Env) : setAll (i :: is) (v :: vs) e = setAll is vs (e.set i (some v)) := nrfl rfl
@[simp] theorem tmpL_list (xs : List AV) (vs : List AV) : tmpL (.list xs) vs = .ok (.list xs :: vs) := nrfl rfl
@[simp] theorem tmpL_dict (xs : List (AV × AV)) (vs : List AV) : tmpL (.dict xs) vs = .ok (.dict xs :: vs) := nrfl rfl
@[simp] theorem ss_for {inv ws : List Nat} {tg : Tg} {it : It} {b r : Ss} (h : puIt it = true) : evSs cal (.cons (.for_ inv ws tg it b) r) env = (vIt cal it env >>= fun xs => forF (fun x env => bindTg tg x env >>= fun e => evSs cal b e >>= fun f => .ok (wipeF ws f)) xs env >>= flK (evSs cal r)) := by
  rw [ss_cons, evS, evIt_pure cal h]
  cases vIt cal it env <;> rfl
@[simp] theorem ss_brk (r : Ss) : evSs cal (.cons .brk r) env = .ok (.bk env) := by rw [ss_cons, evS]; rfl
@[simp] theorem ss_cont (r : Ss) : evSs cal (.cons .cont r) env = .ok (.ct env) := by rw [ss_cons, evS]; rfl
@[simp] theorem ss_pass (r : Ss) : evSs cal (.cons .pass r) env = evSs cal r env := by rw [ss_cons, evS]; rfl
@[simp] theorem ss_raise (r : Ss) : evSs cal (.cons .raise r) env = .bad := by rw [ss_cons, evS]; rfl
end
/-! ### what draws -/
section
variable (cal : Cal) (env : Env) {a b c : X} {es : Xs}
@[simp] theorem evE_p (h : puE a = true) : evE cal a env = (vE cal a env >>= fun v => .ok (v, env)) := evE_pure cal h
@[simp] theorem evXs_p (h : puXs es = true) : evXs cal es env = (vXs cal es env >>= fun v => .ok (v, env)) := evXs_pure cal h
@[simp] theorem evIt_p {it : It} (h : puIt it = true) : evIt cal it env = (vIt cal it env >>= fun v => .ok (v, env)) := evIt_pure cal h
@[simp] theorem evOx_p {o : Ox} (h : puOx o = true) : evOx cal o env = (vOx cal o env >>= fun v => .ok (v, env)) := pOx cal o env h
@[simp] theorem evE_bin {op : Bop} (h : puE (.bin op a b) = false) : evE cal (.bin op a b) env = (evE cal a env >>= fun p => evE cal b p.2 >>= fun q => binop op p.1 q.1 >>= fun v => .ok (v, q.2)) := by rw [evE]
@[simp] theorem evE_cmp {op : Cop} (h : puE (.cmp op a b) = false) : evE cal (.cmp op a b) env = (evE cal a env >>= fun p => evE cal b p.2 >>= fun q => cmpop op p.1 q.1 >>= fun v => .ok (v, q.2)) := by rw [evE]
@[simp] theorem evE_idx (h : puE (.idx a b) = false) : evE cal (.idx a b) env = (evE cal a env >>= fun p => evE cal b p.2 >>= fun q => idxop p.1 q.1 >>= fun v => .ok (v, q.2)) := by rw [evE]
@[simp] theorem evE_not (h : puE (.not a) = false) : evE cal (.not a) env = (evE cal a env >>= fun p => asB p.1 >>= fun k => .ok (.bool (!k), p.2)) := by rw [evE]
@[simp] theorem evE_tup (h : puE (.tup es) = false) : evE cal (.tup es) env = (evXs cal es env >>= fun p => tupR p.1 >>= fun v => .ok (v, p.2)) := by rw [evE]
@[simp] theorem evE_lst (h : puE (.lst es) = false) : evE cal (.lst es) env = (evXs cal es env >>= fun p => lstR p.1 >>= fun v => .ok (v, p.2)) := by rw [evE]
@[simp] theorem evE_call {f : Nat} (h : puE (.call f es) = false) : evE cal (.call f es) env = (evXs cal es env >>= fun p => cal f p.1 >>= fun q => putIos es q.2 p.2 >>= fun e => .ok (q.1, e)) := by rw [evE]
@[simp] theorem evE_blt {f : Blt} (h : puE (.blt f es) = false) : evE cal (.blt f es) env = (evXs cal es env >>= fun p => bltop f p.1 >>= fun v => .ok (v, p.2)) := by rw [evE]
@[simp] theorem evE_meth {m : Mth} (h : puE (.meth m a es) = false) : evE cal (.meth m a es) env = (evE cal a env >>= fun p => evXs cal es p.2 >>= fun q => mthop m p.1 q.1 >>= fun v => .ok (v, q.2)) := by rw [evE]
@[simp] theorem evE_comp {own : List Nat} {cs : Cs} (h : puE (.comp own cs a) = false) : evE cal (.comp own cs a) env = (evCs cal cs (fun env => evE cal a env >>= fun p => .ok ([p.1], p.2)) env >>= fun p => lstR p.1 >>= fun v => .ok (v, back env p.2 own)) := by rw [evE]
@[simp] theorem evE_slc {lo hi : Ox} (h : puE (.slc a lo hi) = false) : evE cal (.slc a lo hi) env = (evE cal a env >>= fun p => evOx cal lo p.2 >>= fun l => evOx cal hi l.2 >>= fun h => sliV p.1 l.1 h.1 >>= fun v => .ok (v, h.2)) := by
  rw [evE]
  congr 1
  funext p
  obtain ⟨p1, p2⟩ := p
  dsimp only
  congr 1
  funext l
  obtain ⟨l1, l2⟩ := l
  dsimp only
  congr 1
  funext u
  obtain ⟨u1, u2⟩ := u
  dsimp only
  rcases l1 with _ | (_ | _ | i | _ | _ | _ | _) <;> rcases u1 with _ | (_ | _ | j | _ | _ | _ | _) <;> rfl
def popV (x : AV) (k : Option AV) : R (AV × AV) := match x, k with
  | .list xs, none => match xs.getLast? with
    | some v => .ok (v, .list xs.dropLast)
    | none => .bad
  | .list xs, some (.int j) => match ixOf xs.length j with
    | some n => match xs[n]? with
      | some v => .ok (v, .list (xs.eraseIdx n))
      | none => .bad
    | none => .bad
  | _, _ => .bad
@[simp] theorem isL_list (xs : List AV) : isL (.list xs) = .ok () := nrfl rfl
@[simp] theorem evE_pop {i : Nat} {o : Ox} : evE cal (.pop i o) env = (look env i >>= fun x0 => isL x0 >>= fun _ => evOx cal o env >>= fun p => look p.2 i >>= fun x => popV x p.1 >>= fun q => .ok (q.1, p.2.set i (some q.2))) := by
  rw [evE]
  congr 1
  funext x0
  congr 1
  funext _
  congr 1
  funext p
  obtain ⟨k, e1⟩ := p
  dsimp only
  cases look e1 i with
  | ok x =>
    rw [R.ok_bind, R.ok_bind]
    unfold popV
    cases x with
    | list xs =>
      cases k with
      | none =>
        dsimp only
        cases xs.getLast? <;> rfl
      | some k =>
        cases k with
        | int j =>
          dsimp only
          cases ixOf xs.length j with
          | none => rfl
          | some n =>
            dsimp only
            cases xs[n]? <;> rfl
        | _ => rfl
    | _ => cases k <;> rfl
  | exc _ _ => rfl
  | bad => rfl
@[simp] theorem evXs_cons (h : puXs (.cons a es) = false) : evXs cal (.cons a es) env = (evE cal a env >>= fun p => evXs cal es p.2 >>= fun q => .ok (p.1 :: q.1, q.2)) := by rw [evXs]
@[simp] theorem evXs_star (h : puXs (.star a es) = false) : evXs cal (.star a es) env = (evE cal a env >>= fun p => evXs cal es p.2 >>= fun q => starL p.1 q.1 >>= fun v => .ok (v, q.2)) := by
  rw [evXs]
  congr 1
  funext p
  obtain ⟨p1, p2⟩ := p
  dsimp only
  congr 1
  funext l
  obtain ⟨l1, l2⟩ := l
  dsimp only
  unfold starL
  cases items? p1 with
  | none => rfl
  | some xs => dsimp only; split <;> rfl
@[simp] theorem evXs_tmp (h : puXs (.tmp a es) = false) : evXs cal (.tmp a es) env = (evE cal a env >>= fun p => evXs cal es p.2 >>= fun q => tmpL p.1 q.1 >>= fun v => .ok (v, q.2)) := by
  rw [evXs]
  congr 1
  funext p
  obtain ⟨p1, p2⟩ := p
  dsimp only
  congr 1
  funext l
  obtain ⟨l1, l2⟩ := l
  dsimp only
  unfold tmpL
  split <;> rfl
@[simp] theorem evXs_io {i : Nat} : evXs cal (.io i es) env = (look env i >>= fun _ => evXs cal es env >>= fun p => look p.2 i >>= fun v => tmpL v p.1 >>= fun vs => .ok (vs, p.2)) := by
  rw [evXs]
  congr 1
  funext x
  congr 1
  funext p
  obtain ⟨p1, p2⟩ := p
  dsimp only
  congr 1
  funext v
  unfold tmpL
  split <;> rfl
@[simp] theorem evOx_some (h : puE a = false) : evOx cal (.some a) env = (evE cal a env >>= fun p => .ok (some p.1, p.2)) := by rw [evOx]
def condI (b : Option AV) (x : R (List AV × Env)) (env : Env) : R (List AV × Env) := match b with
  | none => x
  | some b => asB b >>= fun k => R.tf k x (.ok ([], env))
@[simp] theorem condI_none (x : R (List AV × Env)) (env : Env) : condI none x env = x := nrfl rfl
@[simp] theorem condI_some (b : AV) (x : R (List AV × Env)) (env : Env) : condI (some b) x env = (asB b >>= fun k => R.tf k x (.ok ([], env))) := nrfl rfl
@[simp] theorem evCs_nil (last : Env → R (List AV × Env)) : evCs cal .nil last env = last env := by rw [evCs]
@[simp] theorem evCs_cons (ws : List Nat) (tg : Tg) (it : It) (d : Ox) (r : Cs) (last : Env → R (List AV × Env)) : evCs cal (.cons ws tg it d r) last env = (evIt cal it env >>= fun p => loopC (fun x env =>
    bindTg tg x (wipeE env ws) >>= fun env2 => evOx cal d env2 >>= fun q => condI q.1 (evCs cal r last q.2) q.2) p.1 p.2) := by
  rw [evCs]
  congr 1
@[simp] theorem evIt_expr (h : puE a = false) : evIt cal (.expr a) env = (evE cal a env >>= fun p => itL p.1 >>= fun xs => .ok (xs, p.2)) := by
  rw [evIt]
  congr 1
  funext p
  obtain ⟨v, e1⟩ := p
  cases v <;> rfl
@[simp] theorem evIt_rng1 (h : puE a = false) : evIt cal (.rng1 a) env = (evE cal a env >>= fun p => rng1 p.1 >>= fun xs => .ok (xs, p.2)) := by
  rw [evIt]
  congr 1
  funext p
  obtain ⟨v, e1⟩ := p
  dsimp only
  unfold rng1
  cases v <;> first
    | rfl
    | (dsimp only; split <;> rfl)
@[simp] theorem si_asg {i : Nat} {r : Ss} (h : puE a = false) : evSs cal (.cons (.asg i a) r) env = (evE cal a env >>= fun p => evSs cal r (p.2.set i (some p.1))) := by
  rw [ss_cons, evS]
  cases evE cal a env <;> rfl
@[simp] theorem si_unp {is : List Nat} {r : Ss} (h : puE a = false) : evSs cal (.cons (.unp is a) r) env = (evE cal a env >>= fun p => bindTg (.tup is) p.1 p.2 >>= evSs cal r) := by
  rw [ss_cons, evS]
  cases evE cal a env with
  | ok p => obtain ⟨v, e⟩ := p; simp only [R.ok_bind, R.assoc]; cases bindTg (.tup is) v e <;> rfl
  | exc _ _ => rfl
  | bad => rfl
@[simp] theorem si_expr {r : Ss} (h : puE a = false) : evSs cal (.cons (.expr a) r) env = (evE cal a env >>= fun p => evSs cal r p.2) := by
  rw [ss_cons, evS]
  cases evE cal a env <;> rfl
@[simp] theorem si_ret {r : Ss} (h : puE a = false) : evSs cal (.cons (.ret a) r) env = (evE cal a env >>= fun p => .ok (.rt p.1 p.2)) := by
  rw [ss_cons, evS]
  cases evE cal a env <;> rfl
@[simp] theorem si_par {is : List Nat} {r : Ss} (h : puXs es = false) : evSs cal (.cons (.par is es) r) env = (evXs cal es env >>= fun p => parK (evSs cal r) (setAll is p.1 p.2)) := by
  rw [ss_cons, evS]
  cases evXs cal es env with
  | ok p =>
    obtain ⟨vs, e⟩ := p
    simp only [R.ok_bind, R.assoc]
    cases setAll is vs e <;> rfl
  | exc _ _ => rfl
  | bad => rfl
@[simp] theorem si_app {i : Nat} {r : Ss} (h : puE a = false) : evSs cal (.cons (.app i a) r) env = (look env i >>= fun x => asL x >>= fun _ => evE cal a env >>= fun p => look p.2 i >>= fun x => appL x p.1 >>= fun y => evSs cal r (p.2.set i (some y))) := by
  rw [ss_cons, evS]
  cases hl : look env i with
  | ok x =>
    cases x with
    | list xs =>
      simp only [R.ok_bind, R.assoc, asL]
      cases evE cal a env with
      | ok p =>
        obtain ⟨v, e⟩ := p
        simp only [R.ok_bind, R.assoc]
        cases look e i with
        | ok y =>
          rw [R.ok_bind, R.ok_bind]
          cases y <;> first
            | rfl
            | (simp only [appL]; split <;> rfl)
        | exc _ _ => rfl
        | bad => rfl
      | exc _ _ => rfl
      | bad => rfl
    | _ => rfl
  | exc _ _ => rfl
  | bad => rfl
@[simp] theorem si_for {inv ws : List Nat} {tg : Tg} {it : It} {b r : Ss} (h : puIt it = false) : evSs cal (.cons (.for_ inv ws tg it b) r) env = (evIt cal it env >>= fun p => forF (fun x env => bindTg tg x env >>= fun e => evSs cal b e >>= fun f => .ok (wipeF ws f)) p.1 p.2 >>= flK (evSs cal r)) := by
  rw [ss_cons, evS]
  cases evIt cal it env <;> rfl
end
@[simp] theorem back_nil (e0 e : Env) : back e0 e [] = e := nrfl rfl
@[simp] theorem back_cons (e0 e : Env) (i : Nat) (is : List Nat) : back e0 e (i :: is) = (back e0 e is).set i (e0[i]?.getD none) := nrfl rfl
@[simp] theorem wipeF_nx (ws : List Nat) (e : Env) : wipeF ws (.nx e) = .nx (wipeE e ws) := nrfl rfl
@[simp] theorem wipeF_ct (ws : List Nat) (e : Env) : wipeF ws (.ct e) = .ct (wipeE e ws) := nrfl rfl
@[simp] theorem wipeF_bk (ws : List Nat) (e : Env) : wipeF ws (.bk e) = .bk e := nrfl rfl
@[simp] theorem wipeF_rt (ws : List Nat) (v : AV) (e : Env) : wipeF ws (.rt v e) = .rt v e := nrfl rfl
/-- a def's end -/
def finD (io : List Nat) : Fl → R (AV × List AV)
  | .rt v env => outsOf env io >>= fun os => .ok (v, os)
  | .nx env => outsOf env io >>= fun os => .ok (.none, os)
  | _ => .bad
theorem call_eq {P : Tab} {f : Nat} {D : Def} {k : Nat} {vs : List AV} (h : P f = some D) (hk : 0 < k) (hl : vs.length = D.ps) : callD P k f vs = (evSs (callD P (k - 1)) D.body (vs.map some ++ List.replicate (D.n - D.ps) none) >>= finD D.io) := by
  cases k with
  | zero => omega
  | succ k =>
    show (match P f with
      | some D => runD (callD P k) D vs
      | none => .bad) = _
    rw [h]
    show runD (callD P k) D vs = _
    unfold runD
    rw [if_pos hl]
    show _ = (evSs (callD P k) D.body (vs.map some ++ List.replicate (D.n - D.ps) none) >>= finD D.io)
    cases evSs (callD P k) D.body (vs.map some ++ List.replicate (D.n - D.ps) none) with
    | ok f => cases f <;> rfl
    | exc _ _ => rfl
    | bad => rfl
@[simp] theorem finD_rt (v : AV) (env : Env) : finD [] (.rt v env) = .ok (v, []) := nrfl rfl
@[simp] theorem finD_nx (env : Env) : finD [] (.nx env) = .ok (.none, []) := nrfl rfl
end Ev
end
section
set_option linter.all false
set_option autoImplicit false
/-! Wk2: values of Lean's types; operators, built-ins and loops on them. -/
namespace Ev
open PySem (Str PyData)
/-- how a type's values stand -/
structure Co (α : Type) where
  e : α → AV
  d : α
  pl : ∀ a, (e a).plain = true
  eqv : ∀ a b, PyData.eqv (e a) (e b) = true ↔ a = b
theorem Co.inj {α : Type} (c : Co α) {a b : α} (h : c.e a = c.e b) : a = b := (c.eqv a b).mp (h ▸ (c.eqv a a).mpr rfl)
theorem plainAll_map {α : Type} (c : Co α) : ∀ l : List α, PyData.plainAll (l.map c.e) = true
  | [] => rfl
  | a :: l => by rw [List.map_cons, PyData.plainAll, c.pl, plainAll_map c l]; rfl
/-- at most so deep -/
class Dp {α : Type} (c : Co α) (n : Nat) : Prop where
  h : ∀ a, (c.e a).depth ≤ n
theorem depthAll_map {α : Type} (c : Co α) {n : Nat} [D : Dp c n] : ∀ l : List α, PyData.depthAll (l.map c.e) ≤ n
  | [] => Nat.zero_le _
  | a :: l => by
    rw [List.map_cons, PyData.depthAll]
    exact Nat.max_le.mpr ⟨D.h a, depthAll_map c l⟩
theorem eqvAll_map {α : Type} (c : Co α) : ∀ l m : List α, PyData.eqvAll (l.map c.e) (m.map c.e) = true ↔ l = m
  | [], [] => ⟨fun _ => rfl, fun _ => rfl⟩
  | [], b :: m => ⟨fun h => (by cases h), fun h => (by cases h)⟩
  | a :: l, [] => ⟨fun h => (by cases h), fun h => (by cases h)⟩
  | a :: l, b :: m => by
    rw [List.map_cons, List.map_cons, PyData.eqvAll, Bool.and_eq_true, c.eqv, eqvAll_map c l m, List.cons.injEq]
def cI : Co Int where
  e i := .int i
  d := 0
  pl _ := rfl
  eqv a b := by simp [PyData.eqv]
def cN : Co Nat where
  e i := .int (i : Int)
  d := 0
  pl _ := rfl
  eqv a b := by simp [PyData.eqv]; omega
def cB : Co Bool where
  e i := .bool i
  d := false
  pl _ := rfl
  eqv a b := by simp [PyData.eqv]
def cS : Co Str where
  e i := .str i
  d := ""
  pl _ := rfl
  eqv a b := by simp [PyData.eqv]
def cT {α : Type} (c : Co α) : Co (List α) where
  e l := .tuple (l.map c.e)
  d := []
  pl l := plainAll_map c l
  eqv a b := eqvAll_map c a b
def cL {α : Type} (c : Co α) : Co (List α) where
  e l := .list (l.map c.e)
  d := []
  pl l := plainAll_map c l
  eqv a b := eqvAll_map c a b
def cP {α β : Type} (c : Co α) (k : Co β) : Co (α × β) where
  e p := .tuple [c.e p.1, k.e p.2]
  d := (c.d, k.d)
  pl p := by simp only [PyData.plain, PyData.plainAll, c.pl, k.pl]; rfl
  eqv a b := by
    obtain ⟨a1, a2⟩ := a
    obtain ⟨b1, b2⟩ := b
    simp only [PyData.eqv, PyData.eqvAll, Bool.and_eq_true, c.eqv, k.eqv, Prod.mk.injEq, and_true]
/-- of three -/
def c3 {α β γ : Type} (c : Co α) (k : Co β) (t : Co γ) : Co (α × β × γ) where
  e p := .tuple [c.e p.1, k.e p.2.1, t.e p.2.2]
  d := (c.d, k.d, t.d)
  pl p := by simp only [PyData.plain, PyData.plainAll, c.pl, k.pl, t.pl]; rfl
  eqv a b := by
    obtain ⟨a1, a2, a3⟩ := a
    obtain ⟨b1, b2, b3⟩ := b
    simp only [PyData.eqv, PyData.eqvAll, Bool.and_eq_true, c.eqv, k.eqv, t.eqv, Prod.mk.injEq, and_true]
/-- a number or None -/
def cON : Co (Option Nat) where
  e o := match o with
    | some i => .int (i : Int)
    | none => .none
  d := none
  pl o := by cases o <;> rfl
  eqv a b := by
    cases a <;> cases b <;> simp [PyData.eqv]
    omega
section
variable {α β γ : Type} {c : Co α} {k : Co β} {t : Co γ} {n : Nat}
instance : Dp cI n := ⟨fun _ => Nat.zero_le _⟩
instance : Dp cN n := ⟨fun _ => Nat.zero_le _⟩
instance : Dp cB n := ⟨fun _ => Nat.zero_le _⟩
instance : Dp cS n := ⟨fun _ => Nat.zero_le _⟩
instance : Dp cON n := ⟨fun o => by cases o <;> exact Nat.zero_le _⟩
instance [D : Dp c n] : Dp (cT c) (n + 1) := ⟨fun l => Nat.succ_le_succ (depthAll_map c l)⟩
instance [D : Dp c n] : Dp (cL c) (n + 1) := ⟨fun l => Nat.succ_le_succ (depthAll_map c l)⟩
instance [D : Dp c n] [D2 : Dp k n] : Dp (cP c k) (n + 1) := ⟨fun p => Nat.succ_le_succ (Nat.max_le.mpr ⟨D.h _, Nat.max_le.mpr ⟨D2.h _, Nat.zero_le _⟩⟩)⟩
instance [D : Dp c n] [D2 : Dp k n] [D3 : Dp t n] : Dp (c3 c k t) (n + 1) := ⟨fun p => Nat.succ_le_succ (Nat.max_le.mpr ⟨D.h _, Nat.max_le.mpr ⟨D2.h _, Nat.max_le.mpr ⟨D3.h _, Nat.zero_le _⟩⟩⟩)⟩
end
abbrev Hands := List (List Nat)
section
variable {α β : Type} (c : Co α) (k : Co β)
theorem cN_e (n : Nat) : cN.e n = .int (n : Int) := rfl
theorem cT_e (l : List α) : (cT c).e l = .tuple (l.map c.e) := rfl
theorem cL_e (l : List α) : (cL c).e l = .list (l.map c.e) := rfl
@[simp] theorem cN_d : cN.d = 0 := nrfl rfl
@[simp] theorem cT_d : (cT c).d = [] := nrfl rfl
@[simp] theorem cL_d : (cL c).d = [] := nrfl rfl
@[simp] theorem cP_d : (cP c k).d = (c.d, k.d) := nrfl rfl
/-! ### operators -/
theorem eqv_dec [DecidableEq α] (a b : α) : PyData.eqv (c.e a) (c.e b) = decide (a = b) := by
  rw [Bool.eq_iff_iff, c.eqv, decide_eq_true_iff]
theorem eqop_co [DecidableEq α] [D : Dp c 20] (a b : α) : eqop (c.e a) (c.e b) = .ok (decide (a = b)) := by
  unfold eqop dOk
  have h2 : Nat.min (c.e a).depth (c.e b).depth ≤ 48 := Nat.le_trans (Nat.min_le_left _ _) (Nat.le_trans (D.h a) (by decide))
  rw [c.pl, c.pl, decide_eq_true h2, eqv_dec]
  rfl
theorem any_map {l : List α} {x : α} [DecidableEq α] : ((l.map c.e).any fun y => PyData.eqv y (c.e x)) = decide (x ∈ l) := by
  rw [Bool.eq_iff_iff, List.any_eq_true, decide_eq_true_iff]
  constructor
  · rintro ⟨y, hy, h⟩
    obtain ⟨z, hz, rfl⟩ := List.mem_map.mp hy
    rw [← (c.eqv z x).mp h]
    exact hz
  · exact fun h => ⟨c.e x, List.mem_map_of_mem h, (c.eqv x x).mpr rfl⟩
theorem inop_T [DecidableEq α] [D : Dp c 20] (x : α) (l : List α) : inop (c.e x) ((cT c).e l) = .ok (decide (x ∈ l)) := by
  have h2 : Nat.min (PyData.depthAll (l.map c.e)) (c.e x).depth ≤ 48 := Nat.le_trans (Nat.min_le_left _ _) (Nat.le_trans (depthAll_map c (n := 20) l) (by decide))
  rw [cT_e, inop, c.pl, plainAll_map, decide_eq_true h2, any_map]
  rfl
theorem inop_L [DecidableEq α] [D : Dp c 20] (x : α) (l : List α) : inop (c.e x) ((cL c).e l) = .ok (decide (x ∈ l)) := by
  have h2 : Nat.min (PyData.depthAll (l.map c.e)) (c.e x).depth ≤ 48 := Nat.le_trans (Nat.min_le_left _ _) (Nat.le_trans (depthAll_map c (n := 20) l) (by decide))
  rw [cL_e, inop, c.pl, plainAll_map, decide_eq_true h2, any_map]
  rfl
end
/-! ### numbers -/
section
variable (a b : Nat) (i j : Int)
@[simp] theorem binop_add : binop .add (.int i) (.int j) = .ok (.int (i + j)) := nrfl rfl
@[simp] theorem binop_sub : binop .sub (.int i) (.int j) = .ok (.int (i - j)) := nrfl rfl
@[simp] theorem negV_int : negV (.int i) = .ok (.int (-i)) := nrfl rfl
theorem dOk_int : dOk (.int i) (.int j) = true := by unfold dOk; rw [PyData.depth, PyData.depth]; decide
@[simp] theorem cmp_lt : cmpop .lt (.int i) (.int j) = .ok (.bool (decide (i < j))) := by rw [cmpop, ordop, dOk_int]; rfl
@[simp] theorem cmp_gt : cmpop .gt (.int i) (.int j) = .ok (.bool (decide (j < i))) := by rw [cmpop, ordop, dOk_int]; rfl
@[simp] theorem cmp_le : cmpop .le (.int i) (.int j) = .ok (.bool (decide (i ≤ j))) := by
  rw [cmpop, ordop, dOk_int]
  show R.ok (PyData.bool (!decide (j < i))) = _
  congr 2
  rw [Bool.eq_iff_iff]
  simp
@[simp] theorem cmp_ge : cmpop .ge (.int i) (.int j) = .ok (.bool (decide (j ≤ i))) := by
  rw [cmpop, ordop, dOk_int]
  show R.ok (PyData.bool (!decide (i < j))) = _
  congr 2
  rw [Bool.eq_iff_iff]
  simp
@[simp] theorem cmp_eqi : cmpop .eq (.int i) (.int j) = .ok (.bool (decide (i = j))) := by
  rw [cmpop, eqop, dOk_int]
  rfl
@[simp] theorem cmp_nei : cmpop .ne (.int i) (.int j) = .ok (.bool (decide (i ≠ j))) := by
  rw [cmpop, eqop, dOk_int]
  show R.ok (PyData.bool (!decide (i = j))) = _
  congr 2
  rw [Bool.eq_iff_iff]
  simp
end
end Ev
end
section
set_option linter.all false
set_option autoImplicit false
/-! Wk3: evaluation on values of Lean's types. -/
namespace Ev
open PySem (Str PyData)
@[simp] theorem R.tf_okV (b : Bool) (x y : AV) : R.tf b (.ok x) (.ok y) = .ok (if b = true then x else y) := by cases b <;> rfl
@[simp] theorem R.tf_okL (b : Bool) (x y : List AV) : R.tf b (.ok x) (.ok y) = .ok (if b = true then x else y) := by cases b <;> rfl
open Classical in
/-- what must hold for the run to go on -/
noncomputable def gd (p : Prop) : R Unit := if p then .ok () else .bad
@[simp] theorem gd_ok {p : Prop} (h : p) : gd p = .ok () := if_pos h
theorem gd_no {p : Prop} (h : ¬ p) : gd p = .bad := if_neg h
@[simp] theorem tf_gdV (b : Bool) (p : Prop) (x y : AV) : R.tf b (gd p >>= fun _ => .ok x) (.ok y) = (gd (b = true → p) >>= fun _ => .ok (if b = true then x else y)) := by
  cases b with
  | true => simp
  | false => rw [gd_ok (p := false = true → p) (fun h => by cases h)]; rfl
@[simp] theorem tf_gdV' (b : Bool) (p : Prop) (x y : AV) : R.tf b (.ok x) (gd p >>= fun _ => .ok y) = (gd (b = false → p) >>= fun _ => .ok (if b = true then x else y)) := by
  cases b with
  | false => simp
  | true => rw [gd_ok (p := true = false → p) (fun h => by cases h)]; rfl
@[simp] theorem tf_gdV2 (b : Bool) (p q : Prop) (x y : AV) : R.tf b (gd p >>= fun _ => .ok x) (gd q >>= fun _ => .ok y) = (gd ((b = true → p) ∧ (b = false → q)) >>= fun _ => .ok (if b = true then x else y)) := by
  cases b with
  | true => simp
  | false => simp
@[simp] theorem tf_gdL (b : Bool) (p : Prop) (x y : List AV) : R.tf b (gd p >>= fun _ => .ok x) (.ok y) = (gd (b = true → p) >>= fun _ => .ok (if b = true then x else y)) := by
  cases b with
  | true => simp
  | false => rw [gd_ok (p := false = true → p) (fun h => by cases h)]; rfl
@[simp] theorem ite_bool {p : Prop} [Decidable p] (x y : Bool) : (if p then PyData.bool x else PyData.bool y) = PyData.bool (if p then x else y) := by split <;> rfl
def mapE {α : Type} (c : Co α) (l : List α) : List AV := l.map c.e
section
variable {α β γ : Type} (c : Co α) (k : Co β)
theorem mapE_len (l : List α) : (mapE c l).length = l.length := List.length_map _
theorem cT_m (l : List α) : (cT c).e l = .tuple (mapE c l) := rfl
theorem cL_m (l : List α) : (cL c).e l = .list (mapE c l) := rfl
@[simp] theorem il_0 : PyData.int 0 = cN.e 0 := nrfl rfl
@[simp] theorem il_1 : PyData.int 1 = cN.e 1 := nrfl rfl
@[simp] theorem il_2 : PyData.int 2 = cN.e 2 := nrfl rfl
@[simp] theorem il_3 : PyData.int 3 = cN.e 3 := nrfl rfl
@[simp] theorem il_4 : PyData.int 4 = cN.e 4 := nrfl rfl
@[simp] theorem il_5 : PyData.int 5 = cN.e 5 := nrfl rfl
@[simp] theorem il_6 : PyData.int 6 = cN.e 6 := nrfl rfl
@[simp] theorem il_7 : PyData.int 7 = cN.e 7 := nrfl rfl
@[simp] theorem il_8 : PyData.int 8 = cN.e 8 := nrfl rfl
@[simp] theorem il_9 : PyData.int 9 = cN.e 9 := nrfl rfl
@[simp] theorem il_10 : PyData.int 10 = cN.e 10 := nrfl rfl
@[simp] theorem il_11 : PyData.int 11 = cN.e 11 := nrfl rfl
@[simp] theorem il_12 : PyData.int 12 = cN.e 12 := nrfl rfl
@[simp] theorem il_13 : PyData.int 13 = cN.e 13 := nrfl rfl
@[simp] theorem il_14 : PyData.int 14 = cN.e 14 := nrfl rfl
@[simp] theorem il_15 : PyData.int 15 = cN.e 15 := nrfl rfl
@[simp] theorem il_16 : PyData.int 16 = cN.e 16 := nrfl rfl
@[simp] theorem il_17 : PyData.int 17 = cN.e 17 := nrfl rfl
@[simp] theorem il_18 : PyData.int 18 = cN.e 18 := nrfl rfl
@[simp] theorem il_19 : PyData.int 19 = cN.e 19 := nrfl rfl
@[simp] theorem il_20 : PyData.int 20 = cN.e 20 := nrfl rfl
@[simp] theorem il_21 : PyData.int 21 = cN.e 21 := nrfl rfl
@[simp] theorem il_22 : PyData.int 22 = cN.e 22 := nrfl rfl
@[simp] theorem il_23 : PyData.int 23 = cN.e 23 := nrfl rfl
@[simp] theorem il_24 : PyData.int 24 = cN.e 24 := nrfl rfl
@[simp] theorem il_30 : PyData.int 30 = cN.e 30 := nrfl rfl
@[simp] theorem il_40 : PyData.int 40 = cN.e 40 := nrfl rfl
@[simp] theorem il_48 : PyData.int 48 = cN.e 48 := nrfl rfl
@[simp] theorem il_50 : PyData.int 50 = cN.e 50 := nrfl rfl
@[simp] theorem il_60 : PyData.int 60 = cN.e 60 := nrfl rfl
@[simp] theorem il_61 : PyData.int 61 = cN.e 61 := nrfl rfl
@[simp] theorem il_64 : PyData.int 64 = cN.e 64 := nrfl rfl
@[simp] theorem il_99 : PyData.int 99 = cN.e 99 := nrfl rfl
@[simp] theorem il_100 : PyData.int 100 = cN.e 100 := nrfl rfl
@[simp] theorem il_5000 : PyData.int 5000 = cN.e 5000 := nrfl rfl
@[simp] theorem il_20000 : PyData.int 20000 = cN.e 20000 := nrfl rfl
@[simp] theorem il_48271 : PyData.int 48271 = cN.e 48271 := nrfl rfl
@[simp] theorem il_2147483647 : PyData.int 2147483647 = cN.e 2147483647 := nrfl rfl
@[simp] theorem int_cast (n : Nat) : PyData.int (n : Int) = cN.e n := nrfl rfl
/-! ### numbers -/
variable (m n : Nat)
@[simp] theorem add_N : binop .add (cN.e m) (cN.e n) = .ok (cN.e (m + n)) := by rw [cN_e, cN_e, binop_add]; rfl
@[simp] theorem sub_N (h : n ≤ m) : binop .sub (cN.e m) (cN.e n) = .ok (cN.e (m - n)) := by rw [cN_e, cN_e, cN_e, binop_sub, Int.ofNat_sub h]
theorem small_N (h : n < 18446744073709551616) : smallI (n : Int) = true := by
  unfold smallI big
  rw [decide_eq_true (by omega), decide_eq_true (by omega)]
  rfl
@[simp] theorem mul_N (h : m < 18446744073709551616) : binop .mul (cN.e m) (cN.e n) = .ok (cN.e (m * n)) := by
  rw [cN_e, cN_e, binop, small_N m h, cN_e, Int.natCast_mul]
  rfl
@[simp] theorem fdiv_N (h0 : 0 < n) (h : n < 1073741824) : binop .fdiv (cN.e m) (cN.e n) = .ok (cN.e (m / n)) := by
  rw [cN_e, cN_e, binop, decide_eq_true (by omega), decide_eq_true (by omega)]
  show R.ok (PyData.int ((m : Int).fdiv n)) = _
  rw [Int.fdiv_eq_ediv_of_nonneg _ (by omega)]
  rfl
@[simp] theorem mod_N (h0 : 0 < n) : binop .mod (cN.e m) (cN.e n) = .ok (cN.e (m % n)) := by
  rw [cN_e, cN_e, binop, decide_eq_true (by omega)]
  show R.ok (PyData.int ((m : Int).fmod n)) = _
  rw [Int.fmod_eq_emod_of_nonneg _ (by omega)]
  rfl
@[simp] theorem neg_N : negV (cN.e m) = .ok (cI.e (-(m : Int))) := nrfl rfl
@[simp] theorem lt_N : cmpop .lt (cN.e m) (cN.e n) = .ok (.bool (decide (m < n))) := by rw [cN_e, cN_e, cmp_lt]; congr 3; exact propext Int.ofNat_lt
@[simp] theorem gt_N : cmpop .gt (cN.e m) (cN.e n) = .ok (.bool (decide (n < m))) := by rw [cN_e, cN_e, cmp_gt]; congr 3; exact propext Int.ofNat_lt
@[simp] theorem le_N : cmpop .le (cN.e m) (cN.e n) = .ok (.bool (decide (m ≤ n))) := by rw [cN_e, cN_e, cmp_le]; congr 3; exact propext Int.ofNat_le
@[simp] theorem ge_N : cmpop .ge (cN.e m) (cN.e n) = .ok (.bool (decide (n ≤ m))) := by rw [cN_e, cN_e, cmp_ge]; congr 3; exact propext Int.ofNat_le
/-! ### comparisons -/
@[simp] theorem eq_co [DecidableEq α] [Dp c 20] (a b : α) : cmpop .eq (c.e a) (c.e b) = .ok (.bool (decide (a = b))) := by
  show (eqop (c.e a) (c.e b) >>= fun k => R.ok (PyData.bool k)) = _
  rw [eqop_co c]
  rfl
@[simp] theorem ne_co [DecidableEq α] [Dp c 20] (a b : α) : cmpop .ne (c.e a) (c.e b) = .ok (.bool (decide (a ≠ b))) := by
  show (eqop (c.e a) (c.e b) >>= fun k => R.ok (PyData.bool (!k))) = _
  rw [eqop_co c]
  show R.ok (PyData.bool (!decide (a = b))) = _
  rw [decide_not]
@[simp] theorem in_T [DecidableEq α] [Dp c 20] (x : α) (l : List α) : cmpop .in_ (c.e x) ((cT c).e l) = .ok (.bool (decide (x ∈ l))) := by
  show (inop (c.e x) ((cT c).e l) >>= fun k => R.ok (PyData.bool k)) = _
  rw [inop_T c]
  rfl
@[simp] theorem in_L [DecidableEq α] [Dp c 20] (x : α) (l : List α) : cmpop .in_ (c.e x) ((cL c).e l) = .ok (.bool (decide (x ∈ l))) := by
  show (inop (c.e x) ((cL c).e l) >>= fun k => R.ok (PyData.bool k)) = _
  rw [inop_L c]
  rfl
@[simp] theorem nin_T [DecidableEq α] [Dp c 20] (x : α) (l : List α) : cmpop .nin (c.e x) ((cT c).e l) = .ok (.bool (decide (x ∉ l))) := by
  show (inop (c.e x) ((cT c).e l) >>= fun k => R.ok (PyData.bool (!k))) = _
  rw [inop_T c]
  show R.ok (PyData.bool (!decide (x ∈ l))) = _
  rw [decide_not]
@[simp] theorem nin_L [DecidableEq α] [Dp c 20] (x : α) (l : List α) : cmpop .nin (c.e x) ((cL c).e l) = .ok (.bool (decide (x ∉ l))) := by
  show (inop (c.e x) ((cL c).e l) >>= fun k => R.ok (PyData.bool (!k))) = _
  rw [inop_L c]
  show R.ok (PyData.bool (!decide (x ∈ l))) = _
  rw [decide_not]
@[simp] theorem eq_Lnil [DecidableEq α] [Dp c 19] (l : List α) : cmpop .eq ((cL c).e l) (.list []) = .ok (.bool (decide (l = []))) := eq_co (cL c) l []
@[simp] theorem ne_Lnil [DecidableEq α] [Dp c 19] (l : List α) : cmpop .ne ((cL c).e l) (.list []) = .ok (.bool (decide (l ≠ []))) := ne_co (cL c) l []
@[simp] theorem eq_Tnil [DecidableEq α] [Dp c 19] (l : List α) : cmpop .eq ((cT c).e l) (.tuple []) = .ok (.bool (decide (l = []))) := eq_co (cT c) l []
@[simp] theorem ne_Tnil [DecidableEq α] [Dp c 19] (l : List α) : cmpop .ne ((cT c).e l) (.tuple []) = .ok (.bool (decide (l ≠ []))) := ne_co (cT c) l []
@[simp] theorem eq_nnL : cmpop .eq (.list []) (.list []) = .ok (.bool true) := (eq_co (cL cN) [] []).trans rfl
@[simp] theorem ne_nnL : cmpop .ne (.list []) (.list []) = .ok (.bool false) := (ne_co (cL cN) [] []).trans rfl
@[simp] theorem eq_nnT : cmpop .eq (.tuple []) (.tuple []) = .ok (.bool true) := (eq_co (cT cN) [] []).trans rfl
@[simp] theorem ne_nnT : cmpop .ne (.tuple []) (.tuple []) = .ok (.bool false) := (ne_co (cT cN) [] []).trans rfl
@[simp] theorem eq_nLl [DecidableEq α] [Dp c 19] (l : List α) : cmpop .eq (.list []) ((cL c).e l) = .ok (.bool (decide ([] = l))) := eq_co (cL c) [] l
@[simp] theorem ne_nLl [DecidableEq α] [Dp c 19] (l : List α) : cmpop .ne (.list []) ((cL c).e l) = .ok (.bool (decide ([] ≠ l))) := ne_co (cL c) [] l
@[simp] theorem eq_nTl [DecidableEq α] [Dp c 19] (l : List α) : cmpop .eq (.tuple []) ((cT c).e l) = .ok (.bool (decide ([] = l))) := eq_co (cT c) [] l
@[simp] theorem ne_nTl [DecidableEq α] [Dp c 19] (l : List α) : cmpop .ne (.tuple []) ((cT c).e l) = .ok (.bool (decide ([] ≠ l))) := ne_co (cT c) [] l
/-! ### kinds -/
@[simp] theorem isInt_N : bltop .isInt [cN.e n] = .ok (.bool true) := nrfl rfl
@[simp] theorem isBool_N : bltop .isBool [cN.e n] = .ok (.bool false) := nrfl rfl
@[simp] theorem isTup_N : bltop .isTup [cN.e n] = .ok (.bool false) := nrfl rfl
@[simp] theorem isStr_N : bltop .isStr [cN.e n] = .ok (.bool false) := nrfl rfl
@[simp] theorem isTL_N : bltop .isTL [cN.e n] = .ok (.bool false) := nrfl rfl
@[simp] theorem isTup_T (l : List α) : bltop .isTup [(cT c).e l] = .ok (.bool true) := nrfl rfl
@[simp] theorem isTup_L (l : List α) : bltop .isTup [(cL c).e l] = .ok (.bool false) := nrfl rfl
@[simp] theorem isList_T (l : List α) : bltop .isList [(cT c).e l] = .ok (.bool false) := nrfl rfl
@[simp] theorem isList_L (l : List α) : bltop .isList [(cL c).e l] = .ok (.bool true) := nrfl rfl
@[simp] theorem isTL_T (l : List α) : bltop .isTL [(cT c).e l] = .ok (.bool true) := nrfl rfl
@[simp] theorem isTL_L (l : List α) : bltop .isTL [(cL c).e l] = .ok (.bool true) := nrfl rfl
/-! ### sequences -/
@[simp] theorem len_T (l : List α) : bltop .len [(cT c).e l] = .ok (cN.e l.length) := by rw [cT_m, bltop, mapE_len]; rfl
@[simp] theorem len_L (l : List α) : bltop .len [(cL c).e l] = .ok (cN.e l.length) := by rw [cL_m, bltop, mapE_len]; rfl
theorem ixOf_N (h : n < m) : ixOf m (n : Int) = some n := by
  unfold ixOf
  rw [if_pos (by omega), if_pos (by omega)]
  rfl
theorem getD_in {l : List α} {n : Nat} {d : α} (h : n < l.length) : l[n]?.getD d = l[n] := by
  rw [List.getElem?_eq_getElem h]; rfl
theorem map_getD (l : List α) (h : n < l.length) : (l.map c.e)[n]? = some (c.e (l[n]?.getD c.d)) := by
  rw [List.getElem?_map, List.getElem?_eq_getElem h]
  rfl
theorem idx_T (l : List α) (h : n < l.length) : idxop ((cT c).e l) (cN.e n) = .ok (c.e (l[n]?.getD c.d)) := by
  rw [cT_e, cN_e, idxop, List.length_map, ixOf_N _ _ h]
  dsimp only
  rw [map_getD c n l h]
theorem idx_L (l : List α) (h : n < l.length) : idxop ((cL c).e l) (cN.e n) = .ok (c.e (l[n]?.getD c.d)) := by
  rw [cL_e, cN_e, idxop, List.length_map, ixOf_N _ _ h]
  dsimp only
  rw [map_getD c n l h]
theorem ixOf_none (h : ¬ n < m) : ixOf m (n : Int) = none := by
  unfold ixOf
  rw [if_pos (by omega), if_neg (by omega)]
@[simp] theorem idx_Tg (l : List α) : idxop ((cT c).e l) (cN.e n) = (gd (n < l.length) >>= fun _ => .ok (c.e (l[n]?.getD c.d))) := by
  by_cases h : n < l.length
  · rw [gd_ok h, idx_T c n l h]; rfl
  · rw [gd_no h, cT_e, cN_e, idxop, List.length_map, ixOf_none _ _ h]; rfl
@[simp] theorem idx_Lg (l : List α) : idxop ((cL c).e l) (cN.e n) = (gd (n < l.length) >>= fun _ => .ok (c.e (l[n]?.getD c.d))) := by
  by_cases h : n < l.length
  · rw [gd_ok h, idx_L c n l h]; rfl
  · rw [gd_no h, cL_e, cN_e, idxop, List.length_map, ixOf_none _ _ h]; rfl
theorem ixOf_last (h : 0 < n) : ixOf n (-1) = some (n - 1) := by
  unfold ixOf
  rw [if_neg (by omega), if_pos (by omega)]
  congr 1
  omega
theorem getD_last (l : List α) (h : l ≠ []) : l[l.length - 1]?.getD c.d = l.getLast h := by
  have hl : l.length - 1 < l.length := by have := List.length_pos_iff.mpr h; omega
  rw [getD_in hl, List.getLast_eq_getElem]
@[simp] theorem idx_Llast (l : List α) (h : l ≠ []) : idxop ((cL c).e l) (cI.e (-1)) = .ok (c.e (l.getLast h)) := by
  have hl := List.length_pos_iff.mpr h
  show idxop (.list (l.map c.e)) (.int (-1)) = _
  rw [idxop, List.length_map, ixOf_last _ hl]
  dsimp only
  rw [map_getD c _ l (by omega), getD_last c l h]
@[simp] theorem idx_Tlast (l : List α) (h : l ≠ []) : idxop ((cT c).e l) (cI.e (-1)) = .ok (c.e (l.getLast h)) := by
  have hl := List.length_pos_iff.mpr h
  show idxop (.tuple (l.map c.e)) (.int (-1)) = _
  rw [idxop, List.length_map, ixOf_last _ hl]
  dsimp only
  rw [map_getD c _ l (by omega), getD_last c l h]
@[simp] theorem idx_P0 (p : α × β) : idxop ((cP c k).e p) (cN.e 0) = .ok (c.e p.1) := nrfl rfl
@[simp] theorem idx_P1 (p : α × β) : idxop ((cP c k).e p) (cN.e 1) = .ok (k.e p.2) := nrfl rfl
theorem cut_take (l : List AV) (i : Nat) : cutL l none (some (i : Int)) = l.take i := by
  unfold cutL slIx
  dsimp only
  rw [if_neg (by omega), Int.toNat_natCast, List.drop_zero, Nat.sub_zero]
  rcases Nat.le_total i l.length with h | h
  · rw [show Nat.min i l.length = i from Nat.min_eq_left h]
  · rw [show Nat.min i l.length = l.length from Nat.min_eq_right h, List.take_of_length_le h, List.take_length]
theorem cut_drop (l : List AV) (i : Nat) : cutL l (some (i : Int)) none = l.drop i := by
  unfold cutL slIx
  dsimp only
  rw [if_neg (by omega), Int.toNat_natCast]
  rcases Nat.le_total i l.length with h | h
  · rw [show Nat.min i l.length = i from Nat.min_eq_left h]
    exact List.take_of_length_le (by rw [List.length_drop]; exact Nat.le_refl _)
  · rw [show Nat.min i l.length = l.length from Nat.min_eq_right h, List.drop_length, List.drop_of_length_le h, List.take_nil]
@[simp] theorem sl_Tto (l : List α) : sliV ((cT c).e l) none (some (cN.e n)) = .ok ((cT c).e (l.take n)) := by
  show R.ok (PyData.tuple (cutL (l.map c.e) none (some (n : Int)))) = _
  rw [cut_take, ← List.map_take]
  rfl
@[simp] theorem sl_Tfrom (l : List α) : sliV ((cT c).e l) (some (cN.e n)) none = .ok ((cT c).e (l.drop n)) := by
  show R.ok (PyData.tuple (cutL (l.map c.e) (some (n : Int)) none)) = _
  rw [cut_drop, ← List.map_drop]
  rfl
@[simp] theorem sl_Lto (l : List α) : sliV ((cL c).e l) none (some (cN.e n)) = .ok ((cL c).e (l.take n)) := by
  show R.ok (PyData.list (cutL (l.map c.e) none (some (n : Int)))) = _
  rw [cut_take, ← List.map_take]
  rfl
@[simp] theorem sl_Lfrom (l : List α) : sliV ((cL c).e l) (some (cN.e n)) none = .ok ((cL c).e (l.drop n)) := by
  show R.ok (PyData.list (cutL (l.map c.e) (some (n : Int)) none)) = _
  rw [cut_drop, ← List.map_drop]
  rfl
theorem cut_m1 (l : List AV) : cutL l (some (-1)) none = l.drop (l.length - 1) := by
  unfold cutL slIx
  dsimp only
  rw [if_pos (by omega)]
  have e : ((-1 : Int) + l.length).toNat = l.length - 1 := by omega
  rw [e]
  exact List.take_of_length_le (by rw [List.length_drop]; exact Nat.le_refl _)
@[simp] theorem sl_Lm1 (l : List α) : sliV ((cL c).e l) (some (cI.e (-1))) none = .ok ((cL c).e (l.drop (l.length - 1))) := by
  show R.ok (PyData.list (cutL (l.map c.e) (some (-1)) none)) = _
  rw [cut_m1, List.length_map, ← List.map_drop]
  rfl
@[simp] theorem sl_Tm1 (l : List α) : sliV ((cT c).e l) (some (cI.e (-1))) none = .ok ((cT c).e (l.drop (l.length - 1))) := by
  show R.ok (PyData.tuple (cutL (l.map c.e) (some (-1)) none)) = _
  rw [cut_m1, List.length_map, ← List.map_drop]
  rfl
@[simp] theorem it_T (l : List α) : itL ((cT c).e l) = .ok (mapE c l) := nrfl rfl
@[simp] theorem it_L (l : List α) : itL ((cL c).e l) = .ok (mapE c l) := nrfl rfl
@[simp] theorem it_nilL : itL (.list []) = .ok [] := nrfl rfl
@[simp] theorem it_nilT : itL (.tuple []) = .ok [] := nrfl rfl
theorem okRng_N (h : n ≤ 1000000000) : okRng (n : Int) = true := by
  unfold okRng
  rw [decide_eq_true (by omega), decide_eq_true (by omega)]
  rfl
theorem rangeD_N : rangeD (m : Int) (n : Int) = mapE cN (List.range' m (n - m)) := by
  unfold rangeD mapE
  have e : ((n : Int) - m).toNat = n - m := by omega
  rw [e, List.range'_eq_map_range, List.map_map]
  refine List.map_congr_left fun x _ => ?_
  show PyData.int _ = PyData.int _
  congr 1
theorem rng1_N (h : n ≤ 1000000000) : rng1 (cN.e n) = .ok (mapE cN (List.range n)) := by
  rw [cN_e, rng1, okRng_N n h]
  have := rangeD_N 0 n
  rw [Nat.sub_zero, ← List.range_eq_range'] at this
  exact congrArg R.ok this
theorem rng2_N (h1 : m ≤ 1000000000) (h : n ≤ 1000000000) : rng2 (cN.e m) (cN.e n) = .ok (mapE cN (List.range' m (n - m))) := by
  rw [cN_e, cN_e, rng2, okRng_N n h, okRng_N m h1, rangeD_N]
  rfl
theorem okRng_no (h : ¬ n ≤ 1000000000) : okRng (n : Int) = false := by
  unfold okRng
  rw [decide_eq_true (by omega), decide_eq_false (by omega)]
  rfl
/-- how far a range goes -/
def big9 : Nat := 1000000000
@[simp] theorem rng1_g : rng1 (cN.e n) = (gd (n ≤ big9) >>= fun _ => .ok (mapE cN (List.range n))) := by
  by_cases h : n ≤ big9
  · rw [gd_ok h, rng1_N n h]; rfl
  · rw [gd_no h, cN_e, rng1, okRng_no n h]; rfl
@[simp] theorem rng2_g : rng2 (cN.e m) (cN.e n) = (gd (m ≤ big9 ∧ n ≤ big9) >>= fun _ => .ok (mapE cN (List.range' m (n - m)))) := by
  by_cases h : m ≤ big9
  · by_cases h2 : n ≤ big9
    · rw [gd_ok ⟨h, h2⟩, rng2_N m n h h2]; rfl
    · rw [gd_no fun z => h2 z.2, cN_e, cN_e, rng2, okRng_no n h2, Bool.and_false]; rfl
  · rw [gd_no fun z => h z.1, cN_e, cN_e, rng2, okRng_no m h]; rfl
/-- with their places -/
def enumN {α : Type} (l : List α) : List (Nat × α) := l.zipIdx.map fun p => (p.2, p.1)
theorem enumD_map : ∀ (l : List α) (i : Nat), enumD i (l.map c.e) = mapE (cP cN c) ((l.zipIdx i).map fun p => (p.2, p.1))
  | [], _ => rfl
  | x :: l, i => by
    rw [List.map_cons, enumD, enumD_map l (i + 1), List.zipIdx_cons, List.map_cons]
    rfl
@[simp] theorem enu_T (l : List α) : enuL ((cT c).e l) = .ok (mapE (cP cN c) (enumN l)) := congrArg R.ok (enumD_map c l 0)
@[simp] theorem enu_L (l : List α) : enuL ((cL c).e l) = .ok (mapE (cP cN c) (enumN l)) := congrArg R.ok (enumD_map c l 0)
@[simp] theorem bind_P (i j : Nat) (p : α × β) (env : Env) : bindTg (.tup [i, j]) ((cP c k).e p) env = .ok ((env.set i (some (c.e p.1))).set j (some (k.e p.2))) := nrfl rfl
@[simp] theorem tuple_L (l : List α) : bltop .tuple [(cL c).e l] = .ok ((cT c).e l) := nrfl rfl
@[simp] theorem tuple_T (l : List α) : bltop .tuple [(cT c).e l] = .ok ((cT c).e l) := nrfl rfl
@[simp] theorem list_T (l : List α) : bltop .list [(cT c).e l] = .ok ((cL c).e l) := nrfl rfl
@[simp] theorem list_L (l : List α) : bltop .list [(cL c).e l] = .ok ((cL c).e l) := nrfl rfl
@[simp] theorem tuple_nil : bltop .tuple [.list []] = .ok (.tuple []) := nrfl rfl
@[simp] theorem lstR_nil : lstR [] = .ok (.list []) := nrfl rfl
@[simp] theorem tupR_nil : tupR [] = .ok (.tuple []) := nrfl rfl
theorem lstR_m (l : List α) (h : l.length ≤ line) : lstR (mapE c l) = .ok ((cL c).e l) := by
  unfold lstR
  rw [mapE_len, if_pos h]
  rfl
theorem tupR_m (l : List α) (h : l.length ≤ line) : tupR (mapE c l) = .ok ((cT c).e l) := by
  unfold tupR
  rw [mapE_len, if_pos h]
  rfl
@[simp] theorem lstR_g (l : List α) : lstR (mapE c l) = (gd (l.length ≤ line) >>= fun _ => .ok ((cL c).e l)) := by
  by_cases h : l.length ≤ line
  · rw [gd_ok h, lstR_m c l h]; rfl
  · rw [gd_no h]; unfold lstR; rw [mapE_len, if_neg h]; rfl
@[simp] theorem tupR_g (l : List α) : tupR (mapE c l) = (gd (l.length ≤ line) >>= fun _ => .ok ((cT c).e l)) := by
  by_cases h : l.length ≤ line
  · rw [gd_ok h, tupR_m c l h]; rfl
  · rw [gd_no h]; unfold tupR; rw [mapE_len, if_neg h]; rfl
@[simp] theorem lstR_1 (x : α) : lstR [c.e x] = .ok ((cL c).e [x]) := nrfl rfl
@[simp] theorem tupR_1 (x : α) : tupR [c.e x] = .ok ((cT c).e [x]) := nrfl rfl
@[simp] theorem tupR_2 (x : α) (y : β) : tupR [c.e x, k.e y] = .ok ((cP c k).e (x, y)) := nrfl rfl
theorem star_T (l : List α) (vs : List AV) (h : l.length ≤ line) : starL ((cT c).e l) vs = .ok (mapE c l ++ vs) := by
  rw [cT_m, starL, items?]
  dsimp only
  rw [mapE_len, if_pos h]
theorem star_L (l : List α) (vs : List AV) (h : l.length ≤ line) : starL ((cL c).e l) vs = .ok (mapE c l ++ vs) := by
  rw [cL_m, starL, items?]
  dsimp only
  rw [mapE_len, if_pos h]
@[simp] theorem star_Tg (l : List α) (vs : List AV) : starL ((cT c).e l) vs = (gd (l.length ≤ line) >>= fun _ => .ok (mapE c l ++ vs)) := by
  by_cases h : l.length ≤ line
  · rw [gd_ok h, star_T c l vs h]; rfl
  · rw [gd_no h, cT_m, starL, items?]; dsimp only; rw [mapE_len, if_neg h]; rfl
@[simp] theorem star_Lg (l : List α) (vs : List AV) : starL ((cL c).e l) vs = (gd (l.length ≤ line) >>= fun _ => .ok (mapE c l ++ vs)) := by
  by_cases h : l.length ≤ line
  · rw [gd_ok h, star_L c l vs h]; rfl
  · rw [gd_no h, cL_m, starL, items?]; dsimp only; rw [mapE_len, if_neg h]; rfl
@[simp] theorem mapE_app (l l2 : List α) : mapE c l ++ mapE c l2 = mapE c (l ++ l2) := (List.map_append).symm
@[simp] theorem mapE_cons (x : α) (l : List α) : c.e x :: mapE c l = mapE c (x :: l) := nrfl rfl
@[simp] theorem mapE_snoc (l : List α) (x : α) : mapE c l ++ [c.e x] = mapE c (l ++ [x]) := by
  unfold mapE
  rw [List.map_append]
  rfl
@[simp] theorem mapE_mid (l l2 : List α) (x : α) : mapE c l ++ c.e x :: mapE c l2 = mapE c (l ++ x :: l2) := by
  unfold mapE
  rw [List.map_append]
  rfl
@[simp] theorem mapE_nil : mapE c [] = [] := nrfl rfl
theorem app_L (l : List α) (x : α) (h : l.length < line) : appL ((cL c).e l) (c.e x) = .ok ((cL c).e (l ++ [x])) := by
  rw [cL_m, appL, mapE_len, if_pos h, mapE_snoc]
  rfl
@[simp] theorem app_Lg (l : List α) (x : α) : appL ((cL c).e l) (c.e x) = (gd (l.length < line) >>= fun _ => .ok ((cL c).e (l ++ [x]))) := by
  by_cases h : l.length < line
  · rw [gd_ok h, app_L c l x h]; rfl
  · rw [gd_no h, cL_m, appL, mapE_len, if_neg h]; rfl
@[simp] theorem tmpL_L (l : List α) (vs : List AV) : tmpL ((cL c).e l) vs = .ok ((cL c).e l :: vs) := nrfl rfl
@[simp] theorem app_nil (x : AV) : appL (.list []) x = .ok (.list [x]) := nrfl rfl
@[simp] theorem list_one (x : α) : PyData.list [c.e x] = (cL c).e [x] := nrfl rfl
@[simp] theorem asL_L (l : List α) : asL ((cL c).e l) = .ok (mapE c l) := nrfl rfl
@[simp] theorem asL_nil : asL (.list []) = .ok [] := nrfl rfl
/-! ### turns -/
def loopW {α : Type} (f : α → R (List AV)) : List α → R (List AV)
  | [] => .ok []
  | x :: xs => f x >>= fun a => loopW f xs >>= fun b => .ok (a ++ b)
@[simp] theorem loopV_m (f : AV → R (List AV)) : ∀ l : List α, loopV f (mapE c l) = loopW (fun x => f (c.e x)) l
  | [] => rfl
  | x :: l => by
    show (f (c.e x) >>= fun a => loopV f (mapE c l) >>= fun b => R.ok (a ++ b)) = _
    rw [loopV_m f l]
    rfl
@[simp] theorem loopV_nil (f : AV → R (List AV)) : loopV f [] = .ok [] := nrfl rfl
theorem loopW_congr {f g : α → R (List AV)} : ∀ {l l' : List α}, l = l' → (∀ x, x ∈ l' → f x = g x) → loopW f l = loopW g l' := by
  intro l l' h hf
  subst h
  induction l with
  | nil => rfl
  | cons x l ih =>
    rw [loopW, loopW, hf x List.mem_cons_self, ih fun y hy => hf y (List.mem_cons_of_mem _ hy)]
theorem loopW_ok (g : α → List AV) : ∀ l : List α, loopW (fun x => .ok (g x)) l = .ok (l.flatMap g)
  | [] => rfl
  | x :: l => by
    rw [loopW, loopW_ok g l, List.flatMap_cons]
    rfl
@[simp] theorem loopW_one (g : α → β) (l : List α) : loopW (fun x => .ok [k.e (g x)]) l = .ok (mapE k (l.map g)) := by
  rw [loopW_ok]
  unfold mapE
  rw [List.map_map]
  congr 1
  induction l with
  | nil => rfl
  | cons x l ih => rw [List.flatMap_cons, ih]; rfl
@[simp] theorem loopW_bool (p : α → Bool) (l : List α) : loopW (fun x => .ok [.bool (p x)]) l = .ok (mapE cB (l.map p)) := loopW_one cB p l
theorem loopW_ifb (g : α → β) (p : α → Bool) (l : List α) : loopW (fun x => .ok (if p x = true then [k.e (g x)] else [])) l = .ok (mapE k ((l.filter p).map g)) := by
  rw [loopW_ok]
  unfold mapE
  rw [List.map_map]
  congr 1
  induction l with
  | nil => rfl
  | cons x l ih =>
    rw [List.flatMap_cons, ih, List.filter_cons]
    by_cases h : p x = true
    · rw [if_pos h, if_pos h]; rfl
    · rw [if_neg h, if_neg h]; rfl
@[simp] theorem loopW_if (g : α → β) (p : α → Prop) [DecidablePred p] (l : List α) : loopW (fun x => .ok (if p x then [k.e (g x)] else [])) l = .ok (mapE k ((l.filter fun x => decide (p x)).map g)) := by
  rw [← loopW_ifb]
  refine loopW_congr rfl fun x _ => ?_
  simp
@[simp] theorem loopW_ifn (g : α → β) (p : α → Prop) [DecidablePred p] (l : List α) : loopW (fun x => .ok (if p x then [] else [k.e (g x)])) l = .ok (mapE k ((l.filter fun x => !decide (p x)).map g)) := by
  rw [← loopW_ifb]
  refine loopW_congr rfl fun x _ => ?_
  by_cases h : p x <;> simp [h]
@[simp] theorem loopW_m (g : α → List β) (l : List α) : loopW (fun x => .ok (mapE k (g x))) l = .ok (mapE k (l.flatMap g)) := by
  rw [loopW_ok]
  unfold mapE
  rw [List.map_flatMap]
@[simp] theorem loopW_mif (g : α → List β) (p : α → Prop) [DecidablePred p] (l : List α) : loopW (fun x => .ok (if p x then mapE k (g x) else [])) l = .ok (mapE k ((l.filter fun x => decide (p x)).flatMap g)) := by
  rw [loopW_ok]
  unfold mapE
  rw [List.map_flatMap]
  congr 1
  induction l with
  | nil => rfl
  | cons x l ih =>
    rw [List.flatMap_cons, ih, List.filter_cons]
    by_cases h : p x
    · rw [if_pos h, if_pos (decide_eq_true h)]; rfl
    · rw [if_neg h, if_neg (by simpa using h)]; rfl
@[simp] theorem loopW_gd (p : α → Prop) (g : α → List AV) (l : List α) : loopW (fun x => gd (p x) >>= fun _ => .ok (g x)) l = (gd (∀ x ∈ l, p x) >>= fun _ => loopW (fun x => .ok (g x)) l) := by
  induction l with
  | nil => rw [gd_ok (p := ∀ x ∈ [], p x) (fun x h => by cases h)]; rfl
  | cons x l ih =>
    by_cases h : p x
    · rw [loopW, gd_ok h, ih]
      by_cases h2 : ∀ x ∈ l, p x
      · rw [gd_ok h2, gd_ok (p := ∀ y ∈ x :: l, p y) (fun y hy => (List.mem_cons.mp hy).elim (fun e => e ▸ h) (h2 y))]
        rfl
      · rw [gd_no h2, gd_no (p := ∀ y ∈ x :: l, p y) (fun z => h2 fun y hy => z y (List.mem_cons_of_mem _ hy))]
        rfl
    · rw [loopW, gd_no h, gd_no (p := ∀ y ∈ x :: l, p y) (fun z => h (z x List.mem_cons_self))]
      rfl
/-! ### sums and tests -/
theorem ints_N : ∀ l : List Nat, ints? (mapE cN l) = some (l.map fun (n : Nat) => (n : Int))
  | [] => rfl
  | x :: l => by
    show (ints? (mapE cN l)).map ((x : Int) :: ·) = _
    rw [ints_N l]
    rfl
theorem bools_B : ∀ l : List Bool, bools? (mapE cB l) = some l
  | [] => rfl
  | x :: l => by
    show (bools? (mapE cB l)).map (x :: ·) = _
    rw [bools_B l]
    rfl
theorem sum_cast : ∀ l : List Nat, (l.map fun (n : Nat) => (n : Int)).sum = ((l.sum : Nat) : Int)
  | [] => rfl
  | x :: l => by rw [List.map_cons, List.sum_cons, List.sum_cons, sum_cast l]; omega
@[simp] theorem sum_L (l : List Nat) : bltop .sum [(cL cN).e l] = .ok (cN.e l.sum) := by
  rw [cL_m, bltop, ints_N]
  dsimp only
  rw [sum_cast]
  rfl
@[simp] theorem sum_T (l : List Nat) : bltop .sum [(cT cN).e l] = .ok (cN.e l.sum) := by
  rw [show (cT cN).e l = PyData.tuple (mapE cN l) from rfl, bltop, ints_N]
  dsimp only
  rw [sum_cast]
  rfl
@[simp] theorem sum_nil : bltop .sum [.list []] = .ok (cN.e 0) := nrfl rfl
@[simp] theorem all_L (l : List Bool) : bltop .all [(cL cB).e l] = .ok (.bool (l.all id)) := by rw [cL_m, bltop, bools_B]
@[simp] theorem any_L (l : List Bool) : bltop .any [(cL cB).e l] = .ok (.bool (l.any id)) := by rw [cL_m, bltop, bools_B]
/-! ### lengths -/
@[simp] theorem le_line (n : Nat) (h : n ≤ 16777215) : n ≤ line := Nat.le_trans h (by decide)
end
end Ev
end
section
set_option linter.all false
set_option autoImplicit false
/-! Wk4: what is not called does not matter. -/
namespace Ev
open PySem (Str PyData)
section
variable (p : Nat → Bool)
mutual
def usE : X → Bool
  | .var _ => true
  | .con _ => true
  | .bin _ a b => usE a && usE b
  | .neg a => usE a
  | .not a => usE a
  | .and a b => usE a && usE b
  | .or a b => usE a && usE b
  | .cmp _ a b => usE a && usE b
  | .chain _ _ a b c => usE a && (usE b && usE c)
  | .ite c a b => usE c && (usE a && usE b)
  | .tup es => usXs es
  | .lst es => usXs es
  | .dict es => usDs es
  | .idx a i => usE a && usE i
  | .slc a lo hi => usE a && (usOx lo && usOx hi)
  | .comp _ cs e => usCs cs && usE e
  | .dcomp _ cs k v => usCs cs && (usE k && usE v)
  | .call f es => p f && usXs es
  | .blt _ es => usXs es
  | .meth _ o es => usE o && usXs es
  | .pop _ e => usOx e
def usXs : Xs → Bool
  | .nil => true
  | .cons e r => usE e && usXs r
  | .star e r => usE e && usXs r
  | .tmp e r => usE e && usXs r
  | .io _ r => usXs r
def usOx : Ox → Bool
  | .none => true
  | .some e => usE e
def usDs : Ds → Bool
  | .nil => true
  | .kv k v r => usE k && (usE v && usDs r)
  | .star d r => usE d && usDs r
def usCs : Cs → Bool
  | .nil => true
  | .cons _ _ it c r => usIt it && (usOx c && usCs r)
def usIt : It → Bool
  | .expr e => usE e
  | .rng1 a => usE a
  | .rng2 a b => usE a && usE b
  | .enum e => usE e
  | .items e => usE e
  | .vals e => usE e
end
mutual
def usS : S → Bool
  | .asg _ e => usE p e
  | .move _ _ => true
  | .unp _ e => usE p e
  | .par _ es => usXs p es
  | .seti _ k v => usE p k && usE p v
  | .app _ e => usE p e
  | .ext _ e => usE p e
  | .aug _ _ e => usE p e
  | .expr e => usE p e
  | .ret e => usE p e
  | .ite c a b => usE p c && (usSs a && usSs b)
  | .whl _ _ c b => usE p c && usSs b
  | .for_ _ _ _ it b => usIt p it && usSs b
  | .raise => true
  | .brk => true
  | .cont => true
  | .pass => true
def usSs : Ss → Bool
  | .nil => true
  | .cons s r => usS s && usSs r
end
end
theorem and2 {a b : Bool} (h : (a && b) = true) : a = true ∧ b = true := Bool.and_eq_true_iff.mp h
section
variable {p : Nat → Bool} {cal cal' : Cal} (hc : ∀ f, p f = true → cal f = cal' f)
include hc
mutual
theorem usE_eq : ∀ (x : X), usE p x = true → evE cal x = evE cal' x
  | .var _, h => by
    funext env
    simp only [evE]
  | .con _, h => by
    funext env
    simp only [evE]
  | .bin _ a b, h => by
    obtain ⟨ha, hb⟩ := and2 h
    have h1 := usE_eq a ha
    have h2 := usE_eq b hb
    funext env
    simp only [evE, h1, h2]
  | .neg a, h => by
    have h1 := usE_eq a h
    funext env
    simp only [evE, h1]
  | .not a, h => by
    have h1 := usE_eq a h
    funext env
    simp only [evE, h1]
  | .and a b, h => by
    obtain ⟨ha, hb⟩ := and2 h
    have h1 := usE_eq a ha
    have h2 := usE_eq b hb
    funext env
    simp only [evE, h1, h2]
  | .or a b, h => by
    obtain ⟨ha, hb⟩ := and2 h
    have h1 := usE_eq a ha
    have h2 := usE_eq b hb
    funext env
    simp only [evE, h1, h2]
  | .cmp _ a b, h => by
    obtain ⟨ha, hb⟩ := and2 h
    have h1 := usE_eq a ha
    have h2 := usE_eq b hb
    funext env
    simp only [evE, h1, h2]
  | .chain _ _ a b c, h => by
    obtain ⟨ha, hb⟩ := and2 h
    obtain ⟨hb, hd⟩ := and2 hb
    have h1 := usE_eq a ha
    have h2 := usE_eq b hb
    have h3 := usE_eq c hd
    funext env
    simp only [evE, h1, h2, h3]
  | .ite c a b, h => by
    obtain ⟨ha, hb⟩ := and2 h
    obtain ⟨hb, hd⟩ := and2 hb
    have h1 := usE_eq c ha
    have h2 := usE_eq a hb
    have h3 := usE_eq b hd
    funext env
    simp only [evE, h1, h2, h3]
  | .tup es, h => by
    have h1 := usXs_eq es h
    funext env
    simp only [evE, h1]
  | .lst es, h => by
    have h1 := usXs_eq es h
    funext env
    simp only [evE, h1]
  | .dict es, h => by
    have h1 := usDs_eq es h
    funext env
    simp only [evE, h1]
  | .idx a b, h => by
    obtain ⟨ha, hb⟩ := and2 h
    have h1 := usE_eq a ha
    have h2 := usE_eq b hb
    funext env
    simp only [evE, h1, h2]
  | .slc a lo hi, h => by
    obtain ⟨ha, hb⟩ := and2 h
    obtain ⟨hb, hd⟩ := and2 hb
    have h1 := usE_eq a ha
    have h2 := usOx_eq lo hb
    have h3 := usOx_eq hi hd
    funext env
    simp only [evE, h1, h2, h3]
  | .comp _ cs e, h => by
    obtain ⟨ha, hb⟩ := and2 h
    have h1 := usCs_eq cs ha
    have h2 := usE_eq e hb
    funext env
    simp only [evE, h1, h2]
  | .dcomp _ cs k v, h => by
    obtain ⟨ha, hb⟩ := and2 h
    obtain ⟨hb, hd⟩ := and2 hb
    have h1 := usCs_eq cs ha
    have h2 := usE_eq k hb
    have h3 := usE_eq v hd
    funext env
    simp only [evE, h1, h2, h3]
  | .call f es, h => by
    obtain ⟨ha, hb⟩ := and2 h
    have h1 := hc f ha
    have h2 := usXs_eq es hb
    funext env
    simp only [evE, h1, h2]
  | .blt _ es, h => by
    have h1 := usXs_eq es h
    funext env
    simp only [evE, h1]
  | .meth _ o es, h => by
    obtain ⟨ha, hb⟩ := and2 h
    have h1 := usE_eq o ha
    have h2 := usXs_eq es hb
    funext env
    simp only [evE, h1, h2]
  | .pop _ e, h => by
    have h1 := usOx_eq e h
    funext env
    simp only [evE, h1]
theorem usXs_eq : ∀ (x : Xs), usXs p x = true → evXs cal x = evXs cal' x
  | .nil, h => by
    funext env
    simp only [evXs]
  | .cons e r, h => by
    obtain ⟨ha, hb⟩ := and2 h
    have h1 := usE_eq e ha
    have h2 := usXs_eq r hb
    funext env
    simp only [evXs, h1, h2]
  | .star e r, h => by
    obtain ⟨ha, hb⟩ := and2 h
    have h1 := usE_eq e ha
    have h2 := usXs_eq r hb
    funext env
    simp only [evXs, h1, h2]
  | .tmp e r, h => by
    obtain ⟨ha, hb⟩ := and2 h
    have h1 := usE_eq e ha
    have h2 := usXs_eq r hb
    funext env
    simp only [evXs, h1, h2]
  | .io _ r, h => by
    have h1 := usXs_eq r h
    funext env
    simp only [evXs, h1]
theorem usOx_eq : ∀ (x : Ox), usOx p x = true → evOx cal x = evOx cal' x
  | .none, h => by
    funext env
    simp only [evOx]
  | .some e, h => by
    have h1 := usE_eq e h
    funext env
    simp only [evOx, h1]
theorem usDs_eq : ∀ (x : Ds), usDs p x = true → evDs cal x = evDs cal' x
  | .nil, h => by
    funext acc env
    simp only [evDs]
  | .kv k v r, h => by
    obtain ⟨ha, hb⟩ := and2 h
    obtain ⟨hb, hd⟩ := and2 hb
    have h1 := usE_eq k ha
    have h2 := usE_eq v hb
    have h3 := usDs_eq r hd
    funext acc env
    simp only [evDs, h1, h2, h3]
  | .star d r, h => by
    obtain ⟨ha, hb⟩ := and2 h
    have h1 := usE_eq d ha
    have h2 := usDs_eq r hb
    funext acc env
    simp only [evDs, h1, h2]
theorem usCs_eq : ∀ (x : Cs), usCs p x = true → evCs cal x = evCs cal' x
  | .nil, h => by
    funext last env
    simp only [evCs]
  | .cons _ _ it c r, h => by
    obtain ⟨ha, hb⟩ := and2 h
    obtain ⟨hb, hd⟩ := and2 hb
    have h1 := usIt_eq it ha
    have h2 := usOx_eq c hb
    have h3 := usCs_eq r hd
    funext last env
    simp only [evCs, h1, h2, h3]
theorem usIt_eq : ∀ (x : It), usIt p x = true → evIt cal x = evIt cal' x
  | .expr e, h => by
    have h1 := usE_eq e h
    funext env
    simp only [evIt, h1]
  | .rng1 e, h => by
    have h1 := usE_eq e h
    funext env
    simp only [evIt, h1]
  | .enum e, h => by
    have h1 := usE_eq e h
    funext env
    simp only [evIt, h1]
  | .items e, h => by
    have h1 := usE_eq e h
    funext env
    simp only [evIt, h1]
  | .vals e, h => by
    have h1 := usE_eq e h
    funext env
    simp only [evIt, h1]
  | .rng2 a b, h => by
    obtain ⟨ha, hb⟩ := and2 h
    have h1 := usE_eq a ha
    have h2 := usE_eq b hb
    funext env
    simp only [evIt, h1, h2]
end
mutual
theorem usS_eq : ∀ (x : S), usS p x = true → evS cal x = evS cal' x
  | .asg _ e, h => by
    have h1 := usE_eq hc e h
    funext env
    simp only [evS, h1]
  | .move _ _, h => by
    funext env
    simp only [evS]
  | .unp _ e, h => by
    have h1 := usE_eq hc e h
    funext env
    simp only [evS, h1]
  | .par _ es, h => by
    have h1 := usXs_eq hc es h
    funext env
    simp only [evS, h1]
  | .seti _ k v, h => by
    obtain ⟨ha, hb⟩ := and2 h
    have h1 := usE_eq hc k ha
    have h2 := usE_eq hc v hb
    funext env
    simp only [evS, h1, h2]
  | .app _ e, h => by
    have h1 := usE_eq hc e h
    funext env
    simp only [evS, h1]
  | .ext _ e, h => by
    have h1 := usE_eq hc e h
    funext env
    simp only [evS, h1]
  | .aug _ _ e, h => by
    have h1 := usE_eq hc e h
    funext env
    simp only [evS, h1]
  | .expr e, h => by
    have h1 := usE_eq hc e h
    funext env
    simp only [evS, h1]
  | .ret e, h => by
    have h1 := usE_eq hc e h
    funext env
    simp only [evS, h1]
  | .ite c a b, h => by
    obtain ⟨ha, hb⟩ := and2 h
    obtain ⟨hb, hd⟩ := and2 hb
    have h1 := usE_eq hc c ha
    have h2 := usSs_eq a hb
    have h3 := usSs_eq b hd
    funext env
    simp only [evS, h1, h2, h3]
  | .whl _ _ c b, h => by
    obtain ⟨ha, hb⟩ := and2 h
    have h1 := usE_eq hc c ha
    have h2 := usSs_eq b hb
    funext env
    simp only [evS, h1, h2]
  | .for_ _ _ _ it b, h => by
    obtain ⟨ha, hb⟩ := and2 h
    have h1 := usIt_eq hc it ha
    have h2 := usSs_eq b hb
    funext env
    simp only [evS, h1, h2]
  | .raise, h => by
    funext env
    simp only [evS]
  | .brk, h => by
    funext env
    simp only [evS]
  | .cont, h => by
    funext env
    simp only [evS]
  | .pass, h => by
    funext env
    simp only [evS]
theorem usSs_eq : ∀ (x : Ss), usSs p x = true → evSs cal x = evSs cal' x
  | .nil, h => by
    funext env
    simp only [evSs]
  | .cons s r, h => by
    obtain ⟨ha, hb⟩ := and2 h
    have h1 := usS_eq s ha
    have h2 := usSs_eq r hb
    funext env
    simp only [evSs, h1, h2]
end
theorem usD_eq {D : Def} (h : usSs p D.body = true) : runD cal D = runD cal' D := by
  funext vs
  unfold runD
  rw [usSs_eq hc D.body h]
end
/-- two tables that agree where it matters -/
theorem callD_same {P P' : Tab} {S : Nat → Bool} (h : ∀ f, S f = true → P f = P' f) (hu : ∀ f D, S f = true → P f = some D → usSs S D.body = true) : ∀ (k : Nat) (f : Nat), S f = true → callD P k f = callD P' k f
  | 0, f, _ => rfl
  | k + 1, f, hf => by
    funext vs
    show (match P f with
      | some D => runD (callD P k) D vs
      | none => .bad) = (match P' f with
      | some D => runD (callD P' k) D vs
      | none => .bad)
    rw [← h f hf]
    cases hP : P f with
    | none => rfl
    | some D =>
      dsimp only
      rw [usD_eq (fun g hg => callD_same h hu k g hg) (hu f D hf hP)]
theorem call_s {P : Tab} {f : Nat} {D : Def} {k : Nat} {vs : List AV} (h : P f = some D) (hl : vs.length = D.ps) : callD P (k + 1) f vs = (evSs (callD P k) D.body (vs.map some ++ List.replicate (D.n - D.ps) none) >>= finD D.io) := call_eq h (Nat.succ_pos k) hl
theorem run_eq {cal : Cal} {D : Def} {vs : List AV} (hl : vs.length = D.ps) : runD cal D vs = (evSs cal D.body (vs.map some ++ List.replicate (D.n - D.ps) none) >>= finD D.io) := by
  unfold runD
  rw [if_pos hl]
  cases evSs cal D.body (vs.map some ++ List.replicate (D.n - D.ps) none) with
  | ok f => cases f <;> rfl
  | exc _ _ => rfl
  | bad => rfl
theorem lstR_4 (a b c d : AV) : lstR [a, b, c, d] = .ok (.list [a, b, c, d]) := if_pos (by show 4 ≤ line; decide)
def AllL (p : Nat → Prop) : List Nat → Prop
  | [] => True
  | f :: r => p f ∧ AllL p r
theorem AllL.at {p : Nat → Prop} : ∀ {l : List Nat} {f : Nat}, AllL p l → f ∈ l → p f
  | x :: l, f, h, hf => by
    rcases List.mem_cons.mp hf with rfl | hf
    · exact h.1
    · exact AllL.at h.2 hf
def inL (ids : List Nat) (f : Nat) : Bool := ids.any fun g => Nat.beq g f
theorem inL_mem {ids : List Nat} {f : Nat} (h : inL ids f = true) : f ∈ ids := by
  obtain ⟨g, hg, e⟩ := List.any_eq_true.mp h
  rw [← Nat.eq_of_beq_eq_true e]
  exact hg
def usT (P : Tab) (ids : List Nat) : Bool := ids.all fun f => match P f with
  | some D => usSs (inL ids) D.body
  | none => true
/-- a law's call by its own table, by the common one -/
theorem bridge {P P' : Tab} {ids : List Nat} {lid : Nat} {D : Def} (h1 : AllL (fun f => P f = P' f) ids) (h2 : usT P ids = true) (h3 : usSs (inL ids) D.body = true) (h4 : P lid = some D) (vs : List AV) : callD P 60 lid vs = runD (callD P' 59) D vs := by
  show (match P lid with
    | some D => runD (callD P 59) D vs
    | none => .bad) = _
  rw [h4]
  dsimp only
  rw [usD_eq (cal := callD P 59) (cal' := callD P' 59) (p := inL ids) (fun f hf => callD_same (fun f hf => h1.at (inL_mem hf)) (fun f D hf hD => by
    have := List.all_eq_true.mp h2 f (inL_mem hf)
    rw [hD] at this
    exact this) 59 f hf) h3]
end Ev
end
section
set_option linter.all false
set_option autoImplicit false
/-! Wk5: loops. -/
namespace Ev
open PySem (Str PyData)
section
variable {α σ : Type} (c : Co α)
@[simp] theorem forF_nil (f : AV → Env → R Fl) (env : Env) : forF f [] env = .ok (.nx env) := nrfl rfl
end
/-! ### turns with a hidden state -/
/-- a run that ends well with such a result -/
def Ex {α : Type} (r : R α) (p : α → Prop) : Prop := ∃ a, r = .ok a ∧ p a
@[simp] theorem Ex_ok {α : Type} (a : α) (p : α → Prop) : Ex (.ok a) p ↔ p a := ⟨fun ⟨b, e, h⟩ => by cases e; exact h, fun h => ⟨a, rfl, h⟩⟩
theorem Ex.of {α : Type} {a : α} {p : α → Prop} (h : p a) : Ex (.ok a) p := ⟨a, rfl, h⟩
theorem Ex.mono {α : Type} {r : R α} {p q : α → Prop} (h : Ex r p) (i : ∀ a, p a → q a) : Ex r q := let ⟨a, e, ha⟩ := h; ⟨a, e, i a ha⟩
theorem Ex.eq {α : Type} {r : R α} {a : α} (h : Ex r fun b => b = a) : r = .ok a := by obtain ⟨b, e, rfl⟩ := h; exact e
theorem tmpL_mu {v : AV} (h : mutA v = true) (vs : List AV) : tmpL v vs = .ok (v :: vs) := if_pos h
@[simp] theorem mutA_list (xs : List AV) : mutA (.list xs) = true := nrfl rfl
@[simp] theorem mutA_L {α : Type} (c : Co α) (l : List α) : mutA ((cL c).e l) = true := nrfl rfl
/-! ### sets of numbers -/
def insN (x : Nat) : List Nat → List Nat
  | [] => [x]
  | y :: ys => if y < x then y :: insN x ys else if x = y then y :: ys else x :: y :: ys
/-- sorted(set(..)) -/
def setN : List Nat → List Nat
  | [] => []
  | x :: xs => insN x (setN xs)
theorem insI_cast (x : Nat) : ∀ l : List Nat, insI (x : Int) (l.map fun (n : Nat) => (n : Int)) = (insN x l).map fun (n : Nat) => (n : Int)
  | [] => rfl
  | y :: l => by
    rw [List.map_cons, insI, insN, insI_cast x l]
    by_cases h : y < x
    · rw [if_pos h, if_pos (by omega)]; rfl
    · rw [if_neg h, if_neg (by omega)]
      by_cases h2 : x = y
      · rw [if_pos h2, if_pos (by omega)]; rfl
      · rw [if_neg h2, if_neg (by omega)]; rfl
theorem isetI_cast : ∀ l : List Nat, isetI (l.map fun (n : Nat) => (n : Int)) = (setN l).map fun (n : Nat) => (n : Int)
  | [] => rfl
  | x :: l => by rw [List.map_cons, isetI, isetI_cast l, insI_cast, setN]
theorem mem_insN {x z : Nat} : ∀ {l : List Nat}, z ∈ insN x l ↔ z = x ∨ z ∈ l
  | [] => by simp [insN]
  | y :: l => by
    unfold insN
    split
    · rw [List.mem_cons, mem_insN, List.mem_cons]
      constructor
      · rintro (h | h | h)
        · exact .inr (.inl h)
        · exact .inl h
        · exact .inr (.inr h)
      · rintro (h | h | h)
        · exact .inr (.inl h)
        · exact .inl h
        · exact .inr (.inr h)
    · split
      · rename_i h2
        subst h2
        simp
      · simp
@[simp] theorem mem_setN {z : Nat} : ∀ {l : List Nat}, z ∈ setN l ↔ z ∈ l
  | [] => Iff.rfl
  | x :: l => by rw [setN, mem_insN, mem_setN, List.mem_cons]
theorem asc_len' {n : Nat} : ∀ {l : List Nat} {a : Nat}, l.Pairwise (· < ·) → (∀ z ∈ l, a ≤ z ∧ z < n) → l.length ≤ n - a
  | [], _, _, _ => Nat.zero_le _
  | x :: l, a, h, hb => by
    obtain ⟨h1, h2⟩ := List.pairwise_cons.mp h
    have := asc_len' (a := x + 1) h2 fun z hz => ⟨h1 z hz, (hb z (List.mem_cons_of_mem _ hz)).2⟩
    have := hb x List.mem_cons_self
    rw [List.length_cons]
    omega
theorem asc_len {l : List Nat} {n : Nat} (h : l.Pairwise (· < ·)) (hb : ∀ z ∈ l, z < n) : l.length ≤ n := asc_len' (a := 0) h fun z hz => ⟨Nat.zero_le _, hb z hz⟩
theorem sset_go {l : List Nat} (h1 : l.length ≤ 1000) (h2 : (setN l).length < 64) : ssetD (mapE cN l) = .ok ((cL cN).e (setN l)) := by
  unfold ssetD
  rw [ints_N]
  dsimp only
  rw [isetI_cast, List.length_map, List.length_map, decide_eq_true h1, decide_eq_true h2]
  show R.ok (PyData.list (((setN l).map fun (n : Nat) => (n : Int)).map .int)) = _
  rw [List.map_map]
  rfl
@[simp] theorem sset_L (l : List Nat) : bltop .sset [(cL cN).e l] = (gd (l.length ≤ 1000 ∧ (setN l).length < 64) >>= fun _ => .ok ((cL cN).e (setN l))) := by
  by_cases h : l.length ≤ 1000 ∧ (setN l).length < 64
  · rw [gd_ok h]
    exact sset_go h.1 h.2
  · rw [gd_no h]
    show ssetD (mapE cN l) = .bad
    unfold ssetD
    rw [ints_N]
    dsimp only
    rw [isetI_cast, List.length_map, List.length_map, if_neg (by simpa using h)]
@[simp] theorem sset_T (l : List Nat) : bltop .sset [(cT cN).e l] = (gd (l.length ≤ 1000 ∧ (setN l).length < 64) >>= fun _ => .ok ((cL cN).e (setN l))) := by
  rw [← sset_L]
  show (if (ints? (mapE cN l)).isSome = true then ssetD (mapE cN l) else .bad) = ssetD (mapE cN l)
  rw [ints_N]
  exact if_pos rfl
theorem map_erase {α β : Type} (f : α → β) : ∀ (l : List α) (v : Nat), (l.map f).eraseIdx v = (l.eraseIdx v).map f
  | [], _ => rfl
  | x :: l, 0 => rfl
  | x :: l, v + 1 => by rw [List.map_cons, List.eraseIdx_cons_succ, List.eraseIdx_cons_succ, List.map_cons, map_erase f l v]
@[simp] theorem isL_c {α : Type} (c : Co α) (l : List α) : isL ((cL c).e l) = .ok () := nrfl rfl
@[simp] theorem pop_at {α : Type} (c : Co α) (l : List α) (v : Nat) : popV ((cL c).e l) (some (cN.e v)) = (gd (v < l.length) >>= fun _ => .ok (c.e (l[v]?.getD c.d), (cL c).e (l.eraseIdx v))) := by
  rw [cL_e, cN_e, popV]
  rw [List.length_map]
  by_cases h : v < l.length
  · rw [gd_ok h, ixOf_N _ _ h]
    dsimp only
    rw [map_getD c v l h, R.ok_bind, cL_e]
    dsimp only
    rw [map_erase]
  · rw [gd_no h, ixOf_none _ _ h]
    rfl
@[simp] theorem pop_last {α : Type} (c : Co α) (l : List α) (h : l ≠ []) : popV ((cL c).e l) none = .ok (c.e (l.getLast h), (cL c).e l.dropLast) := by
  rw [cL_e, popV]
  have e : (l.map c.e).getLast? = some (c.e (l.getLast h)) := by rw [List.getLast?_map, List.getLast?_eq_some_getLast h]; rfl
  rw [e, cL_e]
  dsimp only
  rw [List.map_dropLast]
/-! ### sorted -/
section
variable {α β γ : Type}
class Al (c : Co α) : Prop where
  al : ∀ a b, PySem.W.alike (c.e a) (c.e b) = true
  sh : (∀ a, isTup0 (c.e a) = true) ∨ (∀ a, notTup (c.e a) = true)
theorem alikeAll_map (c : Co α) [A : Al c] : ∀ l m : List α, PySem.W.alikeAll (l.map c.e) (m.map c.e) = true
  | [], _ => by rw [List.map_nil, PySem.W.alikeAll.eq_def]
  | _ :: _, [] => by rw [List.map_nil, List.map_cons, PySem.W.alikeAll.eq_def]
  | a :: l, b :: m => by rw [List.map_cons, List.map_cons, PySem.W.alikeAll, A.al, alikeAll_map c l m]; rfl
instance : Al cN := ⟨fun _ _ => rfl, .inr fun _ => rfl⟩
instance : Al cI := ⟨fun _ _ => rfl, .inr fun _ => rfl⟩
instance : Al cB := ⟨fun _ _ => rfl, .inr fun _ => rfl⟩
instance : Al cS := ⟨fun _ _ => rfl, .inr fun _ => rfl⟩
instance (c : Co α) [Al c] : Al (cT c) := ⟨fun l m => alikeAll_map c l m, .inl fun _ => rfl⟩
instance (c : Co α) [Al c] : Al (cL c) := ⟨fun l m => alikeAll_map c l m, .inr fun _ => rfl⟩
instance (c : Co α) (k : Co β) [A : Al c] [B : Al k] : Al (cP c k) := ⟨fun p q => by
  show PySem.W.alikeAll [c.e p.1, k.e p.2] [c.e q.1, k.e q.2] = true
  simp only [PySem.W.alikeAll, A.al, B.al]; rfl, .inl fun _ => rfl⟩
instance (c : Co α) (k : Co β) (t : Co γ) [A : Al c] [B : Al k] [C : Al t] : Al (c3 c k t) := ⟨fun p q => by
  show PySem.W.alikeAll [c.e p.1, k.e p.2.1, t.e p.2.2] [c.e q.1, k.e q.2.1, t.e q.2.2] = true
  simp only [PySem.W.alikeAll, A.al, B.al, C.al]; rfl, .inl fun _ => rfl⟩
variable (c : Co α)
/-- less, as the machine has it -/
def ltc (a b : α) : Bool := ltD (c.e a) (c.e b)
def insC (x : α) : List α → List α
  | [] => [x]
  | y :: ys => if ltc c y x then y :: insC x ys else x :: y :: ys
/-- sorted -/
def srt : List α → List α
  | [] => []
  | x :: xs => insC c x (srt xs)
theorem insB_map (x : α) : ∀ l : List α, isort.insB (c.e x) (l.map c.e) = (insC c x l).map c.e
  | [] => rfl
  | y :: l => by
    rw [List.map_cons, isort.insB, insC, insB_map x l]
    unfold ltc
    split <;> rfl
theorem isort_map : ∀ l : List α, isort (l.map c.e) = (srt c l).map c.e
  | [] => rfl
  | x :: l => by rw [List.map_cons, isort, isort_map l, insB_map, srt]
theorem sortD_map [A : Al c] [D : Dp c 20] (l : List α) : sortD (mapE c l) = .ok ((cL c).e (srt c l)) := by
  unfold sortD
  have h1 : alikeA (mapE c l) = true := by
    unfold alikeA mapE
    rw [plainAll_map, Bool.true_and, List.all_eq_true]
    intro x hx
    obtain ⟨a, _, rfl⟩ := List.mem_map.mp hx
    rw [List.all_eq_true]
    intro y hy
    obtain ⟨b, _, rfl⟩ := List.mem_map.mp hy
    exact A.al a b
  have h2 : (mapE c l).all dOk1 = true := by
    rw [List.all_eq_true]
    intro x hx
    obtain ⟨a, _, rfl⟩ := List.mem_map.mp hx
    unfold dOk1
    exact decide_eq_true (Nat.le_trans (D.h a) (by decide))
  have h3 : ((mapE c l).all isTup0 || (mapE c l).all notTup) = true := by
    rcases A.sh with h | h
    · rw [show (mapE c l).all isTup0 = true from List.all_eq_true.mpr fun x hx => by
        obtain ⟨a, _, rfl⟩ := List.mem_map.mp hx
        exact h a]
      rfl
    · rw [show (mapE c l).all notTup = true from List.all_eq_true.mpr fun x hx => by
        obtain ⟨a, _, rfl⟩ := List.mem_map.mp hx
        exact h a, Bool.or_true]
  rw [h1, h2, h3]
  show R.ok (PyData.list (isort (l.map c.e))) = _
  rw [isort_map]
  rfl
@[simp] theorem sorted_L [Al c] [Dp c 20] (l : List α) : bltop .sorted [(cL c).e l] = .ok ((cL c).e (srt c l)) := sortD_map c l
@[simp] theorem sorted_T [Al c] [Dp c 20] (l : List α) : bltop .sorted [(cT c).e l] = .ok ((cL c).e (srt c l)) := sortD_map c l
@[simp] theorem sorted_nil : bltop .sorted [.list []] = .ok (.list []) := nrfl rfl
end
/-! ### lengths -/
section
variable {α β : Type}
@[simp] theorem ln_filter {p : α → Bool} {l : List α} (h : l.length ≤ line) : (l.filter p).length ≤ line := Nat.le_trans (List.length_filter_le _ _) h
end
end Ev
end
section
set_option linter.all false
set_option maxRecDepth 100000
namespace Ev.T
def d_is_integer : Def := { ps := 1, n := 1, io := [], body :=
  (.cons (.ret (.and (.blt .isInt (.cons (.var 0) .nil)) (.not (.blt .isBool (.cons (.var 0) .nil))))) .nil) }
def d_is_in : Def := { ps := 3, n := 3, io := [], body :=
  (.cons (.ret (.and (.call 34 (.cons (.var 0) .nil)) (.chain .le .le (.var 1) (.var 0) (.var 2)))) .nil) }
def d_is_list : Def := { ps := 3, n := 3, io := [], body :=
  (.cons (.ret (.and (.blt .isTup (.cons (.var 0) .nil)) (.chain .le .le (.var 1) (.blt .len (.cons (.var 0) .nil)) (.var 2)))) .nil) }
def d_is_hand : Def := { ps := 1, n := 2, io := [], body :=
  (.cons (.ite (.or (.not (.call 36 (.cons (.var 0) (.cons (.con (.int 0)) (.cons (.con (.int 8)) .nil))))) (.not (.blt .all (.cons (.comp [1] (.cons [1] (.var 1) (.expr (.var 0)) .none .nil) (.call 35 (.cons (.var 1) (.cons (.con (.int 0)) (.cons (.bin .sub (.con (.int 8)) (.con (.int 1))) .nil))))) .nil))))
    (.cons (.ret (.con (.bool false))) .nil)
    .nil)
   (.cons (.ret (.cmp .eq (.blt .list (.cons (.var 0) .nil)) (.blt .sset (.cons (.var 0) .nil)))) .nil)) }
def d_need_hands : Def := { ps := 1, n := 3, io := [], body :=
  (.cons (.ite (.not (.call 36 (.cons (.var 0) (.cons (.con (.int 1)) (.cons (.con (.int 7)) .nil)))))
    (.cons .raise .nil)
    .nil)
   (.cons (.for_ [] [1, 2] (.tup [1, 2]) (.enum (.var 0))
    (.cons (.ite (.not (.call 112 (.cons (.var 2) .nil)))
      (.cons .raise .nil)
      .nil) .nil)) .nil)) }
def d_need_person : Def := { ps := 2, n := 2, io := [], body :=
  (.cons (.ite (.not (.call 35 (.cons (.var 1) (.cons (.con (.int 0)) (.cons (.bin .sub (.blt .len (.cons (.var 0) .nil)) (.con (.int 1))) .nil)))))
    (.cons .raise .nil)
    .nil) .nil) }
def d_need_thing : Def := { ps := 2, n := 2, io := [], body :=
  (.cons (.ite (.or (.not (.call 35 (.cons (.var 1) (.cons (.con (.int 0)) (.cons (.bin .sub (.con (.int 8)) (.con (.int 1))) .nil))))) (.cmp .nin (.var 1) (.call 117 (.cons (.var 0) .nil))))
    (.cons .raise .nil)
    .nil) .nil) }
def d_things_in : Def := { ps := 1, n := 3, io := [], body :=
  (.cons (.ret (.blt .sset (.cons (.comp [1, 2] (.cons [1, 2] (.var 1) (.expr (.var 0)) .none (.cons [2] (.var 2) (.expr (.var 1)) .none .nil)) (.var 2)) .nil))) .nil) }
def d_things : Def := { ps := 1, n := 1, io := [], body :=
  (.cons (.expr (.call 113 (.cons (.var 0) .nil)))
   (.cons (.ret (.blt .tuple (.cons (.call 117 (.cons (.var 0) .nil)) .nil))) .nil)) }
def d_holders_in : Def := { ps := 2, n := 4, io := [], body :=
  (.cons (.ret (.comp [2, 3] (.cons [2, 3] (.tup [2, 3]) (.enum (.var 0)) (.some (.cmp .in_ (.var 1) (.var 3))) .nil) (.var 2))) .nil) }
def d_shared_2 : Def := { ps := 2, n := 2, io := [], body :=
  (.cons (.par [0, 1] (.cons (.blt .abs (.cons (.var 0) .nil)) (.cons (.blt .abs (.cons (.var 1) .nil)) .nil)))
   (.cons (.whl [] [] (.cmp .ne (.var 1) (.con (.int 0)))
    (.cons (.par [0, 1] (.cons (.var 1) (.cons (.bin .mod (.var 0) (.var 1)) .nil))) .nil))
   (.cons (.ret (.var 0)) .nil))) }
def d_spare_in : Def := { ps := 2, n := 3, io := [], body :=
  (.cons (.ret (.comp [2] (.cons [2] (.var 2) (.expr (.idx (.var 0) (.var 1))) (.some (.cmp .gt (.blt .len (.cons (.call 119 (.cons (.var 0) (.cons (.var 2) .nil))) .nil)) (.con (.int 1)))) .nil) (.var 2))) .nil) }
def d__law_taken : Def := { ps := 2, n := 4, io := [0], body :=
  (.cons (.ite (.cmp .gt (.idx (.var 0) (.con (.int 3))) (.con (.int 0)))
    (.cons (.asg 3 (.bin .mod (.blt .int (.cons (.idx (.var 0) (.con (.int 3))) .nil)) (.var 1)))
     (.cons (.seti 0 (.con (.int 3)) (.bin .fdiv (.idx (.var 0) (.con (.int 3))) (.var 1)))
     (.cons (.ret (.var 3)) .nil)))
    .nil)
   (.cons (.seti 0 (.con (.int 1)) (.bin .add (.idx (.var 0) (.con (.int 1))) (.con (.int 1))))
   (.cons (.ite (.cmp .gt (.idx (.var 0) (.con (.int 1))) (.blt .len (.cons (.idx (.var 0) (.con (.int 0))) .nil)))
    (.cons (.seti 0 (.con (.int 2)) (.bin .mod (.blt .int (.cons (.bin .add (.bin .mul (.idx (.var 0) (.con (.int 2))) (.con (.int 48271))) (.con (.int 11))) .nil)) (.con (.int 2147483647))))
     (.cons (.ret (.bin .mod (.blt .int (.cons (.bin .fdiv (.idx (.var 0) (.con (.int 2))) (.con (.int 7))) .nil)) (.var 1))) .nil))
    .nil)
   (.cons (.asg 2 (.idx (.idx (.var 0) (.con (.int 0))) (.bin .sub (.idx (.var 0) (.con (.int 1))) (.con (.int 1)))))
   (.cons (.seti 0 (.con (.int 2)) (.bin .mod (.blt .int (.cons (.bin .add (.bin .add (.bin .mul (.idx (.var 0) (.con (.int 2))) (.con (.int 48271))) (.var 2)) (.con (.int 11))) .nil)) (.con (.int 2147483647))))
   (.cons (.ite (.cmp .ge (.var 2) (.bin .pow (.con (.int 10)) (.con (.int 18))))
    (.cons (.seti 0 (.con (.int 3)) (.bin .fdiv (.var 2) (.var 1))) .nil)
    .nil)
   (.cons (.ret (.bin .mod (.blt .int (.cons (.var 2) .nil)) (.var 1))) .nil))))))) }
def d__law_hands : Def := { ps := 3, n := 9, io := [0], body :=
  (.cons (.par [5, 6, 7] (.cons (.bin .add (.con (.int 1)) (.call 305 (.io 0 (.cons (.var 1) .nil)))) (.cons (.call 305 (.io 0 (.cons (.bin .add (.var 2) (.con (.int 1))) .nil))) (.tmp (.lst .nil) .nil))))
   (.cons (.asg 3 (.bin .add (.con (.int 1)) (.call 305 (.io 0 (.cons (.con (.int 3)) .nil)))))
   (.cons (.for_ [3, 7, 0] [4] (.var 4) (.rng1 (.var 5))
    (.cons (.app 7 (.blt .tuple (.cons (.comp [8] (.cons [8] (.var 8) (.rng1 (.var 6)) (.some (.cmp .eq (.call 305 (.io 0 (.cons (.bin .add (.var 3) (.con (.int 1))) .nil))) (.con (.int 0)))) .nil) (.var 8)) .nil))) .nil))
   (.cons (.ret (.blt .tuple (.cons (.var 7) .nil))) .nil)))) }
def d_pairs_in : Def := { ps := 1, n := 5, io := [], body :=
  (.cons (.asg 1 (.lst .nil))
   (.cons (.for_ [1] [2, 3] (.var 2) (.rng1 (.blt .len (.cons (.var 0) .nil)))
    (.cons (.for_ [1] [3] (.var 3) (.rng2 (.bin .add (.var 2) (.con (.int 1))) (.blt .len (.cons (.var 0) .nil)))
      (.cons (.ite (.blt .any (.cons (.comp [4] (.cons [4] (.var 4) (.expr (.idx (.var 0) (.var 2))) .none .nil) (.cmp .in_ (.var 4) (.idx (.var 0) (.var 3)))) .nil))
        (.cons (.app 1 (.tup (.cons (.var 2) (.cons (.var 3) .nil)))) .nil)
        .nil) .nil)) .nil))
   (.cons (.ret (.var 1)) .nil))) }
def d_pairs : Def := { ps := 1, n := 1, io := [], body :=
  (.cons (.expr (.call 113 (.cons (.var 0) .nil)))
   (.cons (.ret (.blt .tuple (.cons (.call 128 (.cons (.var 0) .nil)) .nil))) .nil)) }
def d_need_calls : Def := { ps := 2, n := 4, io := [], body :=
  (.cons (.ite (.not (.call 36 (.cons (.var 1) (.cons (.con (.int 0)) (.cons (.con (.int 60)) .nil)))))
    (.cons .raise .nil)
    .nil)
   (.cons (.for_ [] [2, 3] (.tup [2, 3]) (.enum (.var 1))
    (.cons (.ite (.not (.call 35 (.cons (.var 3) (.cons (.con (.int 0)) (.cons (.bin .sub (.blt .len (.cons (.var 0) .nil)) (.con (.int 1))) .nil)))))
      (.cons .raise .nil)
      .nil) .nil)) .nil)) }
def d_call_in : Def := { ps := 2, n := 5, io := [], body :=
  (.cons (.asg 2 (.call 122 (.cons (.var 0) (.cons (.var 1) .nil))))
   (.cons (.asg 3 (.blt .tuple (.cons (.comp [4] (.cons [4] (.var 4) (.expr (.idx (.var 0) (.var 1))) (.some (.cmp .nin (.var 4) (.var 2))) .nil) (.var 4)) .nil)))
   (.cons (.ret (.tup (.star (.slc (.var 0) .none (.some (.var 1))) (.cons (.var 3) (.star (.slc (.var 0) (.some (.bin .add (.var 1) (.con (.int 1)))) .none) .nil))))) .nil))) }
def d_movers_in : Def := { ps := 1, n := 2, io := [], body :=
  (.cons (.ret (.comp [1] (.cons [1] (.var 1) (.rng1 (.blt .len (.cons (.var 0) .nil))) (.some (.cmp .ne (.call 122 (.cons (.var 0) (.cons (.var 1) .nil))) (.lst .nil))) .nil) (.var 1))) .nil) }
def d_story_in : Def := { ps := 2, n := 4, io := [], body :=
  (.cons (.asg 2 (.lst (.cons (.var 0) .nil)))
   (.cons (.for_ [2] [3] (.var 3) (.expr (.var 1))
    (.cons (.app 2 (.call 1 (.cons (.idx (.var 2) (.neg (.con (.int 1)))) (.cons (.var 3) .nil)))) .nil))
   (.cons (.ret (.var 2)) .nil))) }
def d_after : Def := { ps := 2, n := 2, io := [], body :=
  (.cons (.expr (.call 113 (.cons (.var 0) .nil)))
   (.cons (.expr (.call 0 (.cons (.var 0) (.cons (.var 1) .nil))))
   (.cons (.ret (.idx (.call 5 (.cons (.var 0) (.cons (.var 1) .nil))) (.neg (.con (.int 1))))) .nil))) }
def d_story : Def := { ps := 2, n := 2, io := [], body :=
  (.cons (.expr (.call 113 (.cons (.var 0) .nil)))
   (.cons (.expr (.call 0 (.cons (.var 0) (.cons (.var 1) .nil))))
   (.cons (.ret (.call 5 (.cons (.var 0) (.cons (.var 1) .nil)))) .nil))) }
def d_put_away : Def := { ps := 2, n := 8, io := [], body :=
  (.cons (.expr (.call 113 (.cons (.var 0) .nil)))
   (.cons (.expr (.call 0 (.cons (.var 0) (.cons (.var 1) .nil))))
   (.cons (.par [2, 3] (.cons (.call 5 (.cons (.var 0) (.cons (.var 1) .nil))) (.tmp (.lst .nil) .nil)))
   (.cons (.for_ [3] [4, 5, 6] (.tup [4, 5]) (.enum (.var 1))
    (.cons (.asg 6 (.idx (.idx (.var 2) (.bin .add (.var 4) (.con (.int 1)))) (.var 5)))
     (.cons (.app 3 (.blt .tuple (.cons (.comp [7] (.cons [7] (.var 7) (.expr (.idx (.idx (.var 2) (.var 4)) (.var 5))) (.some (.cmp .nin (.var 7) (.var 6))) .nil) (.var 7)) .nil))) .nil)))
   (.cons (.ret (.blt .tuple (.cons (.var 3) .nil))) .nil))))) }
def d_last_held : Def := { ps := 3, n := 5, io := [], body :=
  (.cons (.expr (.call 113 (.cons (.var 0) .nil)))
   (.cons (.expr (.call 0 (.cons (.var 0) (.cons (.var 1) .nil))))
   (.cons (.expr (.call 116 (.cons (.var 0) (.cons (.var 2) .nil))))
   (.cons (.asg 3 (.idx (.call 5 (.cons (.var 0) (.cons (.var 1) .nil))) (.neg (.con (.int 1)))))
   (.cons (.ret (.blt .tuple (.cons (.comp [4] (.cons [4] (.var 4) (.rng1 (.blt .len (.cons (.var 0) .nil))) (.some (.cmp .in_ (.var 2) (.idx (.var 3) (.var 4)))) .nil) (.var 4)) .nil))) .nil))))) }
def d__law_row : Def := { ps := 3, n := 4, io := [0], body :=
  (.cons (.ret (.blt .tuple (.cons (.comp [3] (.cons [3] (.var 3) (.rng1 (.call 305 (.io 0 (.cons (.bin .add (.var 2) (.con (.int 1))) .nil)))) .none .nil) (.call 305 (.io 0 (.cons (.blt .len (.cons (.var 1) .nil)) .nil)))) .nil))) .nil) }
def d_need_order : Def := { ps := 2, n := 4, io := [], body :=
  (.cons (.asg 2 (.blt .len (.cons (.var 0) .nil)))
   (.cons (.ite (.or (.not (.call 36 (.cons (.var 1) (.cons (.var 2) (.cons (.var 2) .nil))))) (.not (.blt .all (.cons (.comp [3] (.cons [3] (.var 3) (.expr (.var 1)) .none .nil) (.call 35 (.cons (.var 3) (.cons (.con (.int 0)) (.cons (.bin .sub (.var 2) (.con (.int 1))) .nil))))) .nil))))
    (.cons .raise .nil)
    .nil)
   (.cons (.ite (.cmp .ne (.blt .sorted (.cons (.var 1) .nil)) (.blt .lrng1 (.cons (.var 2) .nil)))
    (.cons .raise .nil)
    .nil) .nil))) }
def d_end_of : Def := { ps := 2, n := 2, io := [], body :=
  (.cons (.expr (.call 113 (.cons (.var 0) .nil)))
   (.cons (.expr (.call 77 (.cons (.var 0) (.cons (.var 1) .nil))))
   (.cons (.ret (.idx (.call 5 (.cons (.var 0) (.cons (.var 1) .nil))) (.neg (.con (.int 1))))) .nil))) }
def d_reached_from : Def := { ps := 1, n := 8, io := [], body :=
  (.cons (.par [1, 2, 3] (.tmp (.dict (.kv (.var 0) (.con (.int 0)) .nil)) (.tmp (.lst (.cons (.var 0) .nil)) (.cons (.con (.int 0)) .nil))))
   (.cons (.whl [1, 2] [4, 5, 6, 7] (.cmp .ne (.var 2) (.lst .nil))
    (.cons (.aug 3 .add (.con (.int 1)))
     (.cons (.asg 4 (.lst .nil))
     (.cons (.for_ [4, 1] [5, 6, 7] (.var 5) (.expr (.var 2))
      (.cons (.for_ [4, 1] [6, 7] (.var 6) (.expr (.call 3 (.cons (.var 5) .nil)))
        (.cons (.asg 7 (.call 1 (.cons (.var 5) (.cons (.var 6) .nil))))
         (.cons (.ite (.cmp .nin (.var 7) (.var 1))
          (.cons (.seti 1 (.var 7) (.var 3))
           (.cons (.app 4 (.var 7)) .nil))
          .nil) .nil))) .nil))
     (.cons (.move 2 4) .nil)))))
   (.cons (.ret (.var 1)) .nil))) }
def d_ratio : Def := { ps := 2, n := 3, io := [], body :=
  (.cons (.asg 2 (.call 350 (.cons (.var 0) (.cons (.var 1) .nil))))
   (.cons (.ret (.tup (.cons (.bin .fdiv (.var 0) (.var 2)) (.cons (.bin .fdiv (.var 1) (.var 2)) .nil)))) .nil)) }
def d__law_gcd : Def := { ps := 2, n := 2, io := [], body :=
  (.cons (.whl [] [] (.cmp .ne (.var 1) (.con (.int 0)))
    (.cons (.par [0, 1] (.cons (.var 1) (.cons (.bin .mod (.blt .int (.cons (.var 0) .nil)) (.var 1)) .nil))) .nil))
   (.cons (.ret (.var 0)) .nil)) }
def d__law_lowest : Def := { ps := 2, n := 3, io := [], body :=
  (.cons (.asg 2 (.call 322 (.cons (.blt .abs (.cons (.var 0) .nil)) (.cons (.var 1) .nil))))
   (.cons (.ret (.tup (.cons (.bin .fdiv (.var 0) (.var 2)) (.cons (.bin .fdiv (.var 1) (.var 2)) .nil)))) .nil)) }
def d_plus : Def := { ps := 2, n := 2, io := [], body :=
  (.cons (.ret (.call 215 (.cons (.bin .add (.bin .mul (.idx (.var 0) (.con (.int 0))) (.idx (.var 1) (.con (.int 1)))) (.bin .mul (.idx (.var 1) (.con (.int 0))) (.idx (.var 0) (.con (.int 1))))) (.cons (.bin .mul (.idx (.var 0) (.con (.int 1))) (.idx (.var 1) (.con (.int 1)))) .nil)))) .nil) }
def d_times : Def := { ps := 2, n := 2, io := [], body :=
  (.cons (.ret (.call 215 (.cons (.bin .mul (.idx (.var 0) (.con (.int 0))) (.idx (.var 1) (.con (.int 0)))) (.cons (.bin .mul (.idx (.var 0) (.con (.int 1))) (.idx (.var 1) (.con (.int 1)))) .nil)))) .nil) }
def d_downward : Def := { ps := 1, n := 5, io := [], body :=
  (.cons (.asg 1 (.blt .list (.cons (.call 231 (.cons (.var 0) .nil)) .nil)))
   (.cons (.ret (.comp [2, 3] (.cons [2, 3] (.tup [2, 3]) (.expr (.blt .sorted (.cons (.comp [3] (.cons [3] (.var 3) (.expr (.var 1)) .none .nil) (.tup (.cons (.neg (.blt .sum (.cons (.comp [4] (.cons [4] (.var 4) (.expr (.var 3)) .none .nil) (.blt .len (.cons (.var 4) .nil))) .nil))) (.cons (.var 3) .nil)))) .nil))) .none .nil) (.var 3))) .nil)) }
def d_flow : Def := { ps := 1, n := 6, io := [], body :=
  (.cons (.asg 1 (.dict (.kv (.var 0) (.con (.tuple [(.int 1), (.int 1)])) .nil)))
   (.cons (.for_ [1] [2, 3, 4, 5] (.var 2) (.expr (.call 14 (.cons (.var 0) .nil)))
    (.cons (.asg 3 (.call 3 (.cons (.var 2) .nil)))
     (.cons (.for_ [1] [4, 5] (.var 4) (.expr (.var 3))
      (.cons (.asg 5 (.call 1 (.cons (.var 2) (.cons (.var 4) .nil))))
       (.cons (.seti 1 (.var 5) (.call 216 (.cons (.meth .get2 (.var 1) (.cons (.var 5) (.cons (.con (.tuple [(.int 0), (.int 1)])) .nil))) (.cons (.call 217 (.cons (.idx (.var 1) (.var 2)) (.cons (.tup (.cons (.con (.int 1)) (.cons (.blt .len (.cons (.var 3) .nil)) .nil))) .nil))) .nil)))) .nil))) .nil)))
   (.cons (.ret (.var 1)) .nil))) }
def d_last_chances : Def := { ps := 1, n := 3, io := [], body :=
  (.cons (.expr (.call 113 (.cons (.var 0) .nil)))
   (.cons (.ret (.blt .tuple (.cons (.blt .sorted (.cons (.comp [1, 2] (.cons [1, 2] (.tup [1, 2]) (.items (.call 15 (.cons (.var 0) .nil))) (.some (.cmp .eq (.call 3 (.cons (.var 1) .nil)) (.lst .nil))) .nil) (.tup (.cons (.var 1) (.cons (.var 2) .nil)))) .nil)) .nil))) .nil)) }
def d_mean_waiting : Def := { ps := 1, n := 5, io := [], body :=
  (.cons (.expr (.call 113 (.cons (.var 0) .nil)))
   (.cons (.asg 1 (.con (.tuple [(.int 0), (.int 1)])))
   (.cons (.for_ [] [2, 3, 4] (.tup [2, 3]) (.items (.call 15 (.cons (.var 0) .nil)))
    (.cons (.asg 4 (.blt .len (.cons (.call 3 (.cons (.var 2) .nil)) .nil)))
     (.cons (.ite (.cmp .gt (.var 4) (.con (.int 0)))
      (.cons (.asg 1 (.call 216 (.cons (.var 1) (.cons (.call 217 (.cons (.var 3) (.cons (.call 215 (.cons (.blt .len (.cons (.var 0) .nil)) (.cons (.var 4) .nil))) .nil))) .nil)))) .nil)
      .nil) .nil)))
   (.cons (.ret (.var 1)) .nil)))) }
def d__law_plus : Def := { ps := 2, n := 2, io := [], body :=
  (.cons (.ret (.call 323 (.cons (.bin .add (.bin .mul (.idx (.var 0) (.con (.int 0))) (.idx (.var 1) (.con (.int 1)))) (.bin .mul (.idx (.var 1) (.con (.int 0))) (.idx (.var 0) (.con (.int 1))))) (.cons (.bin .mul (.idx (.var 0) (.con (.int 1))) (.idx (.var 1) (.con (.int 1)))) .nil)))) .nil) }
def d__law_times : Def := { ps := 2, n := 2, io := [], body :=
  (.cons (.ret (.call 323 (.cons (.bin .mul (.idx (.var 0) (.con (.int 0))) (.idx (.var 1) (.con (.int 0)))) (.cons (.bin .mul (.idx (.var 0) (.con (.int 1))) (.idx (.var 1) (.con (.int 1)))) .nil)))) .nil) }
def d_state_chances : Def := { ps := 2, n := 9, io := [], body :=
  (.cons (.expr (.call 113 (.cons (.var 0) .nil)))
   (.cons (.ite (.not (.call 35 (.cons (.var 1) (.cons (.con (.int 0)) (.cons (.con (.int 60)) .nil)))))
    (.cons .raise .nil)
    .nil)
   (.cons (.asg 2 (.dict (.kv (.var 0) (.con (.tuple [(.int 1), (.int 1)])) .nil)))
   (.cons (.for_ [2] [3, 4, 5, 6, 7, 8] (.var 3) (.rng1 (.var 1))
    (.cons (.asg 4 (.dict .nil))
     (.cons (.for_ [4] [5, 6, 7, 8] (.tup [5, 6]) (.items (.var 2))
      (.cons (.for_ [4] [7, 8] (.var 7) (.rng1 (.blt .len (.cons (.var 0) .nil)))
        (.cons (.asg 8 (.call 1 (.cons (.var 5) (.cons (.var 7) .nil))))
         (.cons (.seti 4 (.var 8) (.call 216 (.cons (.meth .get2 (.var 4) (.cons (.var 8) (.cons (.con (.tuple [(.int 0), (.int 1)])) .nil))) (.cons (.call 217 (.cons (.var 6) (.cons (.tup (.cons (.con (.int 1)) (.cons (.blt .len (.cons (.var 0) .nil)) .nil))) .nil))) .nil)))) .nil))) .nil))
     (.cons (.move 2 4) .nil))))
   (.cons (.ret (.blt .tuple (.cons (.blt .sitems (.cons (.var 2) .nil)) .nil))) .nil))))) }
def d_end_chance : Def := { ps := 2, n := 5, io := [], body :=
  (.cons (.asg 2 (.con (.tuple [(.int 0), (.int 1)])))
   (.cons (.for_ [] [3, 4] (.tup [3, 4]) (.expr (.call 20 (.cons (.var 0) (.cons (.var 1) .nil))))
    (.cons (.ite (.cmp .eq (.call 3 (.cons (.var 3) .nil)) (.lst .nil))
      (.cons (.asg 2 (.call 216 (.cons (.var 2) (.cons (.var 4) .nil)))) .nil)
      .nil) .nil))
   (.cons (.ret (.var 2)) .nil))) }
def d_mean_held : Def := { ps := 2, n := 6, io := [], body :=
  (.cons (.asg 2 (.con (.tuple [(.int 0), (.int 1)])))
   (.cons (.for_ [] [3, 4] (.tup [3, 4]) (.expr (.call 20 (.cons (.var 0) (.cons (.var 1) .nil))))
    (.cons (.asg 2 (.call 216 (.cons (.var 2) (.cons (.call 217 (.cons (.tup (.cons (.blt .sum (.cons (.comp [5] (.cons [5] (.var 5) (.expr (.var 3)) .none .nil) (.blt .len (.cons (.var 5) .nil))) .nil)) (.cons (.con (.int 1)) .nil))) (.cons (.var 4) .nil))) .nil)))) .nil))
   (.cons (.ret (.var 2)) .nil))) }
def d_come : Def := { ps := 2, n := 2, io := [], body :=
  (.cons (.expr (.call 113 (.cons (.var 0) .nil)))
   (.cons (.ite (.or (.cmp .eq (.blt .len (.cons (.var 0) .nil)) (.con (.int 7))) (.not (.call 112 (.cons (.var 1) .nil))))
    (.cons .raise .nil)
    .nil)
   (.cons (.ret (.tup (.star (.var 0) (.cons (.var 1) .nil)))) .nil))) }
def d_things_part : Def := { ps := 2, n := 4, io := [], body :=
  (.cons (.expr (.call 113 (.cons (.var 0) .nil)))
   (.cons (.ite (.not (.call 112 (.cons (.var 1) .nil)))
    (.cons .raise .nil)
    .nil)
   (.cons (.ret (.blt .tuple (.cons (.comp [2] (.cons [2] (.var 2) (.expr (.var 0)) .none .nil) (.blt .tuple (.cons (.comp [3] (.cons [3] (.var 3) (.expr (.var 2)) (.some (.cmp .in_ (.var 3) (.var 1))) .nil) (.var 3)) .nil))) .nil))) .nil))) }
def d_restricted : Def := { ps := 2, n := 4, io := [], body :=
  (.cons (.expr (.call 113 (.cons (.var 0) .nil)))
   (.cons (.expr (.call 115 (.cons (.var 0) (.cons (.var 1) .nil))))
   (.cons (.ret (.blt .tuple (.cons (.comp [2] (.cons [2] (.var 2) (.expr (.var 0)) .none .nil) (.blt .tuple (.cons (.comp [3] (.cons [3] (.var 3) (.expr (.var 2)) (.some (.cmp .in_ (.var 3) (.idx (.var 0) (.var 1)))) .nil) (.var 3)) .nil))) .nil))) .nil))) }
def d__law_order : Def := { ps := 2, n := 5, io := [0], body :=
  (.cons (.par [3, 4] (.tmp (.blt .lrng1 (.cons (.var 1) .nil)) (.tmp (.lst .nil) .nil)))
   (.cons (.for_ [3, 4, 0] [2] (.var 2) (.rng1 (.var 1))
    (.cons (.app 4 (.pop 3 (.some (.call 305 (.io 0 (.cons (.blt .len (.cons (.var 3) .nil)) .nil)))))) .nil))
   (.cons (.ret (.blt .tuple (.cons (.var 4) .nil))) .nil))) }
end Ev.T
namespace Ev
open T
def tbl : List (Nat × Def) := [
(34, d_is_integer),
(35, d_is_in),
(36, d_is_list),
(112, d_is_hand),
(113, d_need_hands),
(115, d_need_person),
(116, d_need_thing),
(117, d_things_in),
(118, d_things),
(119, d_holders_in),
(350, d_shared_2),
(122, d_spare_in),
(305, d__law_taken),
(307, d__law_hands),
(128, d_pairs_in),
(129, d_pairs),
(0, d_need_calls),
(1, d_call_in),
(3, d_movers_in),
(5, d_story_in),
(6, d_after),
(7, d_story),
(9, d_put_away),
(12, d_last_held),
(312, d__law_row),
(77, d_need_order),
(78, d_end_of),
(231, d_reached_from),
(215, d_ratio),
(322, d__law_gcd),
(323, d__law_lowest),
(216, d_plus),
(217, d_times),
(14, d_downward),
(15, d_flow),
(17, d_last_chances),
(19, d_mean_waiting),
(324, d__law_plus),
(325, d__law_times),
(20, d_state_chances),
(21, d_end_chance),
(22, d_mean_held),
(24, d_come),
(29, d_things_part),
(280, d_restricted),
(335, d__law_order)]
def PM : Tab := ⟨fun f => (tbl.find? fun e => Nat.beq e.1 f).map (·.2), fun _ => "", fun _ => none⟩
theorem p__law_taken : PM 305 = some d__law_taken := rfl
end Ev
end
section
namespace Ev
open T
open PySem (Str PyData)
def d_law92 : Def := { ps := 1, n := 20, io := [], body :=
  (.cons (.asg 1 (.lst (.cons (.var 0) (.cons (.con (.int 0)) (.cons (.con (.int 9792)) (.cons (.con (.int 0)) .nil))))))
   (.cons (.par [10, 11] (.cons (.bin .add (.con (.int 1)) (.call 305 (.io 1 (.cons (.con (.int 5)) .nil)))) (.cons (.call 305 (.io 1 (.cons (.con (.int 6)) .nil))) .nil)))
   (.cons (.asg 2 (.bin .mul (.tup (.cons (.tup (.cons (.con (.int 3)) .nil)) .nil)) (.var 10)))
   (.cons (.asg 3 (.tup (.cons (.con (.int 0)) (.cons (.con (.int 1)) .nil))))
   (.cons (.for_ [2, 1] [4] (.var 4) (.rng2 (.con (.int 2)) (.bin .add (.var 10) (.con (.int 1))))
    (.cons (.asg 3 (.call 324 (.cons (.var 3) (.cons (.call 323 (.cons (.var 10) (.cons (.var 4) .nil))) .nil)))) .nil))
   (.cons (.ite (.cmp .ne (.call 19 (.cons (.var 2) .nil)) (.call 323 (.cons (.idx (.var 3) (.con (.int 0))) (.cons (.idx (.var 3) (.con (.int 1))) .nil))))
    (.cons (.ret (.con (.bool false))) .nil)
    .nil)
   (.cons (.asg 5 (.blt .sorted (.cons (.comp [16] (.cons [16] (.var 16) (.rng1 (.var 10)) .none .nil) (.bin .add (.bin .add (.bin .mul (.tup (.cons (.tup .nil) .nil)) (.var 16)) (.tup (.cons (.tup (.cons (.con (.int 3)) .nil)) .nil))) (.bin .mul (.tup (.cons (.tup .nil) .nil)) (.bin .sub (.bin .sub (.var 10) (.con (.int 1))) (.var 16))))) .nil)))
   (.cons (.ite (.cmp .ne (.call 17 (.cons (.var 2) .nil)) (.blt .tuple (.cons (.comp [18] (.cons [18] (.var 18) (.expr (.var 5)) .none .nil) (.tup (.cons (.var 18) (.cons (.tup (.cons (.con (.int 1)) (.cons (.var 10) .nil))) .nil)))) .nil)))
    (.cons (.ret (.con (.bool false))) .nil)
    .nil)
   (.cons (.ite (.cmp .gt (.var 10) (.con (.int 4)))
    (.cons (.ret (.con (.bool true))) .nil)
    .nil)
   (.cons (.asg 6 (.bin .add (.bin .mul (.lst (.cons (.tup (.cons (.con (.int 0)) (.cons (.con (.int 1)) .nil))) .nil)) (.var 10)) (.lst (.cons (.tup (.cons (.con (.int 1)) (.cons (.con (.int 1)) .nil))) .nil))))
   (.cons (.for_ [6, 5, 1] [4, 7, 12, 15] (.var 7) (.rng1 (.var 11))
    (.cons (.asg 12 (.bin .mul (.lst (.cons (.tup (.cons (.con (.int 0)) (.cons (.con (.int 1)) .nil))) .nil)) (.bin .add (.var 10) (.con (.int 1)))))
     (.cons (.for_ [12, 6, 5, 1] [4, 15] (.var 4) (.rng2 (.con (.int 1)) (.bin .add (.var 10) (.con (.int 1))))
      (.cons (.asg 15 (.ite (.cmp .gt (.var 4) (.con (.int 1))) (.tup (.cons (.var 4) (.cons (.var 10) .nil))) (.tup (.cons (.con (.int 0)) (.cons (.con (.int 1)) .nil)))))
       (.cons (.seti 12 (.bin .sub (.var 4) (.con (.int 1))) (.call 324 (.cons (.idx (.var 12) (.bin .sub (.var 4) (.con (.int 1)))) (.cons (.call 325 (.cons (.idx (.var 6) (.var 4)) (.cons (.var 15) .nil))) .nil))))
       (.cons (.seti 12 (.var 4) (.call 324 (.cons (.idx (.var 12) (.var 4)) (.cons (.call 325 (.cons (.idx (.var 6) (.var 4)) (.cons (.tup (.cons (.bin .sub (.idx (.var 15) (.con (.int 1))) (.idx (.var 15) (.con (.int 0)))) (.cons (.idx (.var 15) (.con (.int 1))) .nil))) .nil))) .nil)))) .nil))))
     (.cons (.move 6 12) .nil))))
   (.cons (.asg 8 (.tup (.cons (.con (.int 0)) (.cons (.con (.int 1)) .nil))))
   (.cons (.for_ [6, 5, 1] [4] (.var 4) (.rng2 (.con (.int 1)) (.bin .add (.var 10) (.con (.int 1))))
    (.cons (.asg 8 (.call 324 (.cons (.var 8) (.cons (.call 325 (.cons (.tup (.cons (.var 4) (.cons (.con (.int 1)) .nil))) (.cons (.idx (.var 6) (.var 4)) .nil))) .nil)))) .nil))
   (.cons (.ite (.or (.cmp .ne (.call 21 (.cons (.var 2) (.cons (.var 11) .nil))) (.call 323 (.cons (.idx (.idx (.var 6) (.con (.int 1))) (.con (.int 0))) (.cons (.idx (.idx (.var 6) (.con (.int 1))) (.con (.int 1))) .nil)))) (.cmp .ne (.call 22 (.cons (.var 2) (.cons (.var 11) .nil))) (.var 8)))
    (.cons (.ret (.con (.bool false))) .nil)
    .nil)
   (.cons (.asg 9 (.bin .mul (.lst (.cons (.tup (.cons (.con (.int 0)) (.cons (.con (.int 1)) .nil))) .nil)) (.bin .add (.var 10) (.con (.int 1)))))
   (.cons (.for_ [9, 6, 5, 1] [4, 13, 14] (.tup [13, 14]) (.expr (.call 20 (.cons (.var 2) (.cons (.var 11) .nil))))
    (.cons (.asg 4 (.blt .len (.cons (.comp [19] (.cons [19] (.var 19) (.expr (.var 13)) (.some (.cmp .ne (.var 19) (.tup .nil))) .nil) (.var 19)) .nil)))
     (.cons (.seti 9 (.var 4) (.call 324 (.cons (.idx (.var 9) (.var 4)) (.cons (.var 14) .nil)))) .nil)))
   (.cons (.ite (.cmp .ne (.slc (.var 9) (.some (.con (.int 1))) .none) (.comp [17] (.cons [17] (.var 17) (.expr (.slc (.var 6) (.some (.con (.int 1))) .none)) .none .nil) (.call 323 (.cons (.idx (.var 17) (.con (.int 0))) (.cons (.idx (.var 17) (.con (.int 1))) .nil)))))
    (.cons (.ret (.con (.bool false))) .nil)
    .nil)
   (.cons (.ret (.cmp .eq (.call 19 (.cons (.call 24 (.cons (.var 2) (.cons (.tup .nil) .nil))) .nil)) (.call 325 (.cons (.call 19 (.cons (.var 2) .nil)) (.cons (.tup (.cons (.bin .add (.var 10) (.con (.int 1))) (.cons (.var 10) .nil))) .nil))))) .nil)))))))))))))))))) }
end Ev
end
section
set_option Elab.async false
set_option linter.all false
set_option maxRecDepth 100000
set_option maxHeartbeats 0
namespace LW
open PySem PySem.Spec PyProof.Rows L2 Ev
def top (i : Nat) : Stmt := PySem.Challenge.pw_lastholders_k92_whole_end_by_waits.main.body.getD i (.Pass ⟨0, 0, 0, 0⟩)
def mkS (id : Nat) (x : Str) (i : Nat) (ps N : List Str) (D : Def) : Src := ⟨id, x, N, ps, D, defArgs (top i), defBody (top i), defScope (top i)⟩
def s_is_integer : Src := mkS 34 "is_integer" 1 ["value"] ["value"] Ev.T.d_is_integer
def s_is_in : Src := mkS 35 "is_in" 2 ["value", "least", "most"] ["value", "least", "most"] Ev.T.d_is_in
def s_is_list : Src := mkS 36 "is_list" 3 ["value", "least", "most"] ["value", "least", "most"] Ev.T.d_is_list
def s_is_hand : Src := mkS 112 "is_hand" 11 ["value"] ["value", "thing"] Ev.T.d_is_hand
def s_need_hands : Src := mkS 113 "need_hands" 12 ["hands"] ["hands", "index", "hand"] Ev.T.d_need_hands
def s_holders_in : Src := mkS 119 "holders_in" 13 ["hands", "thing"] ["hands", "thing", "person", "hand"] Ev.T.d_holders_in
def s_spare_in : Src := mkS 122 "spare_in" 14 ["hands", "person"] ["hands", "person", "thing"] Ev.T.d_spare_in
def s_call_in : Src := mkS 1 "call_in" 16 ["hands", "person"] ["hands", "person", "away", "left", "thing"] Ev.T.d_call_in
def s_movers_in : Src := mkS 3 "movers_in" 17 ["hands"] ["hands", "person"] Ev.T.d_movers_in
def s_shared : Src := mkS 350 "shared" 21 ["one", "other"] ["one", "other"] Ev.T.d_shared_2
def s_ratio : Src := mkS 215 "ratio" 22 ["top", "low"] ["top", "low", "part"] Ev.T.d_ratio
def s_plus : Src := mkS 216 "plus" 23 ["one", "other"] ["one", "other"] Ev.T.d_plus
def s_times : Src := mkS 217 "times" 24 ["one", "other"] ["one", "other"] Ev.T.d_times
def s_reached_from : Src := mkS 231 "reached_from" 26 ["hands"] ["hands", "found", "last", "many", "fresh", "here", "person", "there"] Ev.T.d_reached_from
def s_downward : Src := mkS 14 "downward" 29 ["hands"] ["hands", "some", "many", "here", "hand"] Ev.T.d_downward
def s_flow : Src := mkS 15 "flow" 30 ["hands"] ["hands", "found", "here", "some", "person", "there"] Ev.T.d_flow
def s_last_chances : Src := mkS 17 "last_chances" 31 ["hands"] ["hands", "here", "chance"] Ev.T.d_last_chances
def s_mean_waiting : Src := mkS 19 "mean_waiting" 32 ["hands"] ["hands", "found", "here", "chance", "some"] Ev.T.d_mean_waiting
def s_state_chances : Src := mkS 20 "state_chances" 33 ["hands", "many"] ["hands", "many", "found", "turn", "later", "here", "part", "person", "there"] Ev.T.d_state_chances
def s_end_chance : Src := mkS 21 "end_chance" 34 ["hands", "many"] ["hands", "many", "found", "here", "chance"] Ev.T.d_end_chance
def s_mean_held : Src := mkS 22 "mean_held" 35 ["hands", "many"] ["hands", "many", "found", "here", "chance", "hand"] Ev.T.d_mean_held
def s_come : Src := mkS 24 "come" 37 ["hands", "hand"] ["hands", "hand"] Ev.T.d_come
def s__law_taken : Src := mkS 305 "_law_taken" 39 ["_law_row", "_law_many"] ["_law_row", "_law_many", "_law_cell", "_law_found"] Ev.T.d__law_taken
def s__law_gcd : Src := mkS 322 "_law_gcd" 40 ["_law_one", "_law_other"] ["_law_one", "_law_other"] Ev.T.d__law_gcd
def s__law_lowest : Src := mkS 323 "_law_lowest" 41 ["_law_numerator", "_law_denominator"] ["_law_numerator", "_law_denominator", "_law_common"] Ev.T.d__law_lowest
def s__law_plus : Src := mkS 324 "_law_plus" 42 ["_law_one", "_law_other"] ["_law_one", "_law_other"] Ev.T.d__law_plus
def s__law_times : Src := mkS 325 "_law_times" 43 ["_law_one", "_law_other"] ["_law_one", "_law_other"] Ev.T.d__law_times
def s_law : Src := mkS 310 "law" 44 ["_law_script"] ["_law_script", "_law_row", "_law_hands", "_law_wait", "_law_left", "_law_ends", "_law_chances", "_law_turn", "_law_held", "_law_sums", "_law_many", "_law_turns", "_law_later", "_law_here", "_law_chance", "_law_down", "_law_person", "_law_part", "_law_end", "_law_hand"] Ev.d_law92
def srcs : List Src := [s_is_integer, s_is_in, s_is_list, s_is_hand, s_need_hands, s_holders_in, s_spare_in, s_call_in, s_movers_in, s_shared, s_ratio, s_plus, s_times, s_reached_from, s_downward, s_flow, s_last_chances, s_mean_waiting, s_state_chances, s_end_chance, s_mean_held, s_come, s__law_taken, s__law_gcd, s__law_lowest, s__law_plus, s__law_times, s_law]
def gs : List (Str × AV) := [("MOST_PEOPLE", (.int 7)), ("MOST_THINGS", (.int 8)), ("ZERO", (.tuple [(.int 0), (.int 1)])), ("ONE", (.tuple [(.int 1), (.int 1)])), ("MOST_LONG", (.int 60))]
def P : Tab := tabOf srcs gs
def ids : List Nat := [34, 35, 36, 112, 113, 119, 122, 1, 3, 350, 215, 216, 217, 231, 14, 15, 17, 19, 20, 21, 22, 24, 305, 322, 323, 324, 325]
theorem same : AllL (fun f => P f = PM f) ids := ⟨rfl, rfl, rfl, rfl, rfl, rfl, rfl, rfl, rfl, rfl, rfl, rfl, rfl, rfl, rfl, rfl, rfl, rfl, rfl, rfl, rfl, rfl, rfl, rfl, rfl, rfl, rfl, trivial⟩
theorem used : usT P ids = true := by kernel_rfl
theorem used_law : usSs (inL ids) Ev.d_law92.body = true := by kernel_rfl
theorem bnd : AllB srcs := ⟨fun _ _ _ _ _ _ us hl => match us, hl with | [_], _ => rfl, fun _ _ _ _ _ _ us hl => match us, hl with | [_, _, _], _ => rfl, fun _ _ _ _ _ _ us hl => match us, hl with | [_, _, _], _ => rfl, fun _ _ _ _ _ _ us hl => match us, hl with | [_], _ => rfl, fun _ _ _ _ _ _ us hl => match us, hl with | [_], _ => rfl, fun _ _ _ _ _ _ us hl => match us, hl with | [_, _], _ => rfl, fun _ _ _ _ _ _ us hl => match us, hl with | [_, _], _ => rfl, fun _ _ _ _ _ _ us hl => match us, hl with | [_, _], _ => rfl, fun _ _ _ _ _ _ us hl => match us, hl with | [_], _ => rfl, fun _ _ _ _ _ _ us hl => match us, hl with | [_, _], _ => rfl, fun _ _ _ _ _ _ us hl => match us, hl with | [_, _], _ => rfl, fun _ _ _ _ _ _ us hl => match us, hl with | [_, _], _ => rfl, fun _ _ _ _ _ _ us hl => match us, hl with | [_, _], _ => rfl, fun _ _ _ _ _ _ us hl => match us, hl with | [_], _ => rfl, fun _ _ _ _ _ _ us hl => match us, hl with | [_], _ => rfl, fun _ _ _ _ _ _ us hl => match us, hl with | [_], _ => rfl, fun _ _ _ _ _ _ us hl => match us, hl with | [_], _ => rfl, fun _ _ _ _ _ _ us hl => match us, hl with | [_], _ => rfl, fun _ _ _ _ _ _ us hl => match us, hl with | [_, _], _ => rfl, fun _ _ _ _ _ _ us hl => match us, hl with | [_, _], _ => rfl, fun _ _ _ _ _ _ us hl => match us, hl with | [_, _], _ => rfl, fun _ _ _ _ _ _ us hl => match us, hl with | [_, _], _ => rfl, fun _ _ _ _ _ _ us hl => match us, hl with | [_, _], _ => rfl, fun _ _ _ _ _ _ us hl => match us, hl with | [_, _], _ => rfl, fun _ _ _ _ _ _ us hl => match us, hl with | [_, _], _ => rfl, fun _ _ _ _ _ _ us hl => match us, hl with | [_, _], _ => rfl, fun _ _ _ _ _ _ us hl => match us, hl with | [_, _], _ => rfl, fun _ _ _ _ _ _ us hl => match us, hl with | [_], _ => rfl, trivial⟩
theorem chk : srcs.all (srcB P) = true := by kernel_rfl
abbrev hk : PySem.W.Hook := hookX 4 srcs gs
abbrev R : PySem.W.OpenRow := PySem.W.OpenLaw.row PySem.Challenge.rw_lastholders_k92_whole_end_by_waits
def ob (s : PySem.W.SharedT) : He.AlD := obsXG 4 srcs gs (HandSHeadRun.getT s)
theorem ob_eq (s : PySem.W.SharedT) : ob s = hk.obs s.abs := obsXG_eq (HandSHeadRun.getT_eq s)
def loose : List Str := (["is_integer", "is_in", "is_list", "HoldError", "BadHands", "BadNumber", "MOST_PEOPLE", "MOST_THINGS", "is_hand", "need_hands", "holders_in", "spare_in", "call_in", "movers_in", "ZERO", "ONE", "shared", "ratio", "plus", "times", "reached_from", "MOST_LONG", "downward", "flow", "last_chances"] : List Str) ++ (["mean_waiting", "state_chances", "end_chance", "mean_held", "come", "_law_taken", "_law_gcd", "_law_lowest", "_law_plus", "_law_times"] : List Str)
theorem run (w : World) : HandSHeadRun.RunEq R (PySem.W.view R.prog [44]) hk ob 8000 loose w := by
  intro os
  kernel_rfl
end LW
end
section
set_option linter.all false
set_option autoImplicit false
set_option maxRecDepth 100000
set_option Elab.async false
/-! Sa: law 92 at each draw, by the kernel. -/
namespace Ev
open T
open PySem (Str PyData)
def rest92 : Ss :=
   (.cons (.asg 2 (.bin .mul (.tup (.cons (.tup (.cons (.con (.int 3)) .nil)) .nil)) (.var 10)))
   (.cons (.asg 3 (.tup (.cons (.con (.int 0)) (.cons (.con (.int 1)) .nil))))
   (.cons (.for_ [2, 1] [4] (.var 4) (.rng2 (.con (.int 2)) (.bin .add (.var 10) (.con (.int 1))))
    (.cons (.asg 3 (.call 324 (.cons (.var 3) (.cons (.call 323 (.cons (.var 10) (.cons (.var 4) .nil))) .nil)))) .nil))
   (.cons (.ite (.cmp .ne (.call 19 (.cons (.var 2) .nil)) (.call 323 (.cons (.idx (.var 3) (.con (.int 0))) (.cons (.idx (.var 3) (.con (.int 1))) .nil))))
    (.cons (.ret (.con (.bool false))) .nil)
    .nil)
   (.cons (.asg 5 (.blt .sorted (.cons (.comp [16] (.cons [16] (.var 16) (.rng1 (.var 10)) .none .nil) (.bin .add (.bin .add (.bin .mul (.tup (.cons (.tup .nil) .nil)) (.var 16)) (.tup (.cons (.tup (.cons (.con (.int 3)) .nil)) .nil))) (.bin .mul (.tup (.cons (.tup .nil) .nil)) (.bin .sub (.bin .sub (.var 10) (.con (.int 1))) (.var 16))))) .nil)))
   (.cons (.ite (.cmp .ne (.call 17 (.cons (.var 2) .nil)) (.blt .tuple (.cons (.comp [18] (.cons [18] (.var 18) (.expr (.var 5)) .none .nil) (.tup (.cons (.var 18) (.cons (.tup (.cons (.con (.int 1)) (.cons (.var 10) .nil))) .nil)))) .nil)))
    (.cons (.ret (.con (.bool false))) .nil)
    .nil)
   (.cons (.ite (.cmp .gt (.var 10) (.con (.int 4)))
    (.cons (.ret (.con (.bool true))) .nil)
    .nil)
   (.cons (.asg 6 (.bin .add (.bin .mul (.lst (.cons (.tup (.cons (.con (.int 0)) (.cons (.con (.int 1)) .nil))) .nil)) (.var 10)) (.lst (.cons (.tup (.cons (.con (.int 1)) (.cons (.con (.int 1)) .nil))) .nil))))
   (.cons (.for_ [6, 5, 1] [4, 7, 12, 15] (.var 7) (.rng1 (.var 11))
    (.cons (.asg 12 (.bin .mul (.lst (.cons (.tup (.cons (.con (.int 0)) (.cons (.con (.int 1)) .nil))) .nil)) (.bin .add (.var 10) (.con (.int 1)))))
     (.cons (.for_ [12, 6, 5, 1] [4, 15] (.var 4) (.rng2 (.con (.int 1)) (.bin .add (.var 10) (.con (.int 1))))
      (.cons (.asg 15 (.ite (.cmp .gt (.var 4) (.con (.int 1))) (.tup (.cons (.var 4) (.cons (.var 10) .nil))) (.tup (.cons (.con (.int 0)) (.cons (.con (.int 1)) .nil)))))
       (.cons (.seti 12 (.bin .sub (.var 4) (.con (.int 1))) (.call 324 (.cons (.idx (.var 12) (.bin .sub (.var 4) (.con (.int 1)))) (.cons (.call 325 (.cons (.idx (.var 6) (.var 4)) (.cons (.var 15) .nil))) .nil))))
       (.cons (.seti 12 (.var 4) (.call 324 (.cons (.idx (.var 12) (.var 4)) (.cons (.call 325 (.cons (.idx (.var 6) (.var 4)) (.cons (.tup (.cons (.bin .sub (.idx (.var 15) (.con (.int 1))) (.idx (.var 15) (.con (.int 0)))) (.cons (.idx (.var 15) (.con (.int 1))) .nil))) .nil))) .nil)))) .nil))))
     (.cons (.move 6 12) .nil))))
   (.cons (.asg 8 (.tup (.cons (.con (.int 0)) (.cons (.con (.int 1)) .nil))))
   (.cons (.for_ [6, 5, 1] [4] (.var 4) (.rng2 (.con (.int 1)) (.bin .add (.var 10) (.con (.int 1))))
    (.cons (.asg 8 (.call 324 (.cons (.var 8) (.cons (.call 325 (.cons (.tup (.cons (.var 4) (.cons (.con (.int 1)) .nil))) (.cons (.idx (.var 6) (.var 4)) .nil))) .nil)))) .nil))
   (.cons (.ite (.or (.cmp .ne (.call 21 (.cons (.var 2) (.cons (.var 11) .nil))) (.call 323 (.cons (.idx (.idx (.var 6) (.con (.int 1))) (.con (.int 0))) (.cons (.idx (.idx (.var 6) (.con (.int 1))) (.con (.int 1))) .nil)))) (.cmp .ne (.call 22 (.cons (.var 2) (.cons (.var 11) .nil))) (.var 8)))
    (.cons (.ret (.con (.bool false))) .nil)
    .nil)
   (.cons (.asg 9 (.bin .mul (.lst (.cons (.tup (.cons (.con (.int 0)) (.cons (.con (.int 1)) .nil))) .nil)) (.bin .add (.var 10) (.con (.int 1)))))
   (.cons (.for_ [9, 6, 5, 1] [4, 13, 14] (.tup [13, 14]) (.expr (.call 20 (.cons (.var 2) (.cons (.var 11) .nil))))
    (.cons (.asg 4 (.blt .len (.cons (.comp [19] (.cons [19] (.var 19) (.expr (.var 13)) (.some (.cmp .ne (.var 19) (.tup .nil))) .nil) (.var 19)) .nil)))
     (.cons (.seti 9 (.var 4) (.call 324 (.cons (.idx (.var 9) (.var 4)) (.cons (.var 14) .nil)))) .nil)))
   (.cons (.ite (.cmp .ne (.slc (.var 9) (.some (.con (.int 1))) .none) (.comp [17] (.cons [17] (.var 17) (.expr (.slc (.var 6) (.some (.con (.int 1))) .none)) .none .nil) (.call 323 (.cons (.idx (.var 17) (.con (.int 0))) (.cons (.idx (.var 17) (.con (.int 1))) .nil)))))
    (.cons (.ret (.con (.bool false))) .nil)
    .nil)
   (.cons (.ret (.cmp .eq (.call 19 (.cons (.call 24 (.cons (.var 2) (.cons (.tup .nil) .nil))) .nil)) (.call 325 (.cons (.call 19 (.cons (.var 2) .nil)) (.cons (.tup (.cons (.bin .add (.var 10) (.con (.int 1))) (.cons (.var 10) .nil))) .nil))))) .nil))))))))))))))))
def env92 (S r m c : AV) : Env := [some S, some r, none, none, none, none, none, none, none, none, some m, some c, none, none, none, none, none, none, none, none]
def goal92 (S r m c : AV) : Prop := (evSs (callD PM 59) rest92 (env92 S r m c) >>= finD []) = .ok (.bool true, [])
theorem z92_10 (S r : AV) : (evSs (callD PM 59) rest92 (env92 S r (.int 1) (.int 0)) >>= finD []) = .ok (.bool true, []) := by kernel_rfl
theorem z92_11 (S r : AV) : (evSs (callD PM 59) rest92 (env92 S r (.int 1) (.int 1)) >>= finD []) = .ok (.bool true, []) := by kernel_rfl
theorem z92_12 (S r : AV) : (evSs (callD PM 59) rest92 (env92 S r (.int 1) (.int 2)) >>= finD []) = .ok (.bool true, []) := by kernel_rfl
theorem z92_13 (S r : AV) : (evSs (callD PM 59) rest92 (env92 S r (.int 1) (.int 3)) >>= finD []) = .ok (.bool true, []) := by kernel_rfl
theorem z92_14 (S r : AV) : (evSs (callD PM 59) rest92 (env92 S r (.int 1) (.int 4)) >>= finD []) = .ok (.bool true, []) := by kernel_rfl
theorem z92_15 (S r : AV) : (evSs (callD PM 59) rest92 (env92 S r (.int 1) (.int 5)) >>= finD []) = .ok (.bool true, []) := by kernel_rfl
theorem z92_20 (S r : AV) : (evSs (callD PM 59) rest92 (env92 S r (.int 2) (.int 0)) >>= finD []) = .ok (.bool true, []) := by kernel_rfl
theorem z92_21 (S r : AV) : (evSs (callD PM 59) rest92 (env92 S r (.int 2) (.int 1)) >>= finD []) = .ok (.bool true, []) := by kernel_rfl
theorem z92_22 (S r : AV) : (evSs (callD PM 59) rest92 (env92 S r (.int 2) (.int 2)) >>= finD []) = .ok (.bool true, []) := by kernel_rfl
theorem z92_23 (S r : AV) : (evSs (callD PM 59) rest92 (env92 S r (.int 2) (.int 3)) >>= finD []) = .ok (.bool true, []) := by kernel_rfl
theorem z92_24 (S r : AV) : (evSs (callD PM 59) rest92 (env92 S r (.int 2) (.int 4)) >>= finD []) = .ok (.bool true, []) := by kernel_rfl
theorem z92_25 (S r : AV) : (evSs (callD PM 59) rest92 (env92 S r (.int 2) (.int 5)) >>= finD []) = .ok (.bool true, []) := by kernel_rfl
theorem z92_30 (S r : AV) : (evSs (callD PM 59) rest92 (env92 S r (.int 3) (.int 0)) >>= finD []) = .ok (.bool true, []) := by kernel_rfl
theorem z92_31 (S r : AV) : (evSs (callD PM 59) rest92 (env92 S r (.int 3) (.int 1)) >>= finD []) = .ok (.bool true, []) := by kernel_rfl
theorem z92_32 (S r : AV) : (evSs (callD PM 59) rest92 (env92 S r (.int 3) (.int 2)) >>= finD []) = .ok (.bool true, []) := by kernel_rfl
theorem z92_33 (S r : AV) : (evSs (callD PM 59) rest92 (env92 S r (.int 3) (.int 3)) >>= finD []) = .ok (.bool true, []) := by kernel_rfl
theorem z92_34 (S r : AV) : (evSs (callD PM 59) rest92 (env92 S r (.int 3) (.int 4)) >>= finD []) = .ok (.bool true, []) := by kernel_rfl
theorem z92_35 (S r : AV) : (evSs (callD PM 59) rest92 (env92 S r (.int 3) (.int 5)) >>= finD []) = .ok (.bool true, []) := by kernel_rfl
theorem z92_40 (S r : AV) : (evSs (callD PM 59) rest92 (env92 S r (.int 4) (.int 0)) >>= finD []) = .ok (.bool true, []) := by kernel_rfl
theorem z92_41 (S r : AV) : (evSs (callD PM 59) rest92 (env92 S r (.int 4) (.int 1)) >>= finD []) = .ok (.bool true, []) := by kernel_rfl
theorem z92_42 (S r : AV) : (evSs (callD PM 59) rest92 (env92 S r (.int 4) (.int 2)) >>= finD []) = .ok (.bool true, []) := by kernel_rfl
theorem z92_43 (S r : AV) : (evSs (callD PM 59) rest92 (env92 S r (.int 4) (.int 3)) >>= finD []) = .ok (.bool true, []) := by kernel_rfl
theorem z92_44 (S r : AV) : (evSs (callD PM 59) rest92 (env92 S r (.int 4) (.int 4)) >>= finD []) = .ok (.bool true, []) := by kernel_rfl
theorem z92_45 (S r : AV) : (evSs (callD PM 59) rest92 (env92 S r (.int 4) (.int 5)) >>= finD []) = .ok (.bool true, []) := by kernel_rfl
theorem z92_5 (S r c : AV) : (evSs (callD PM 59) rest92 (env92 S r (.int 5) c) >>= finD []) = .ok (.bool true, []) := by kernel_rfl
theorem fin92 (S r : AV) (v c : Nat) (hv : v < 5) (hc : c < 6) : goal92 S r (cN.e (1 + v)) (cN.e c) := by
  have h : v = 0 ∨ v = 1 ∨ v = 2 ∨ v = 3 ∨ v = 4 := by omega
  have g : c = 0 ∨ c = 1 ∨ c = 2 ∨ c = 3 ∨ c = 4 ∨ c = 5 := by omega
  rcases h with rfl | rfl | rfl | rfl | rfl
  · rcases g with rfl | rfl | rfl | rfl | rfl | rfl
    · exact z92_10 S r
    · exact z92_11 S r
    · exact z92_12 S r
    · exact z92_13 S r
    · exact z92_14 S r
    · exact z92_15 S r
  · rcases g with rfl | rfl | rfl | rfl | rfl | rfl
    · exact z92_20 S r
    · exact z92_21 S r
    · exact z92_22 S r
    · exact z92_23 S r
    · exact z92_24 S r
    · exact z92_25 S r
  · rcases g with rfl | rfl | rfl | rfl | rfl | rfl
    · exact z92_30 S r
    · exact z92_31 S r
    · exact z92_32 S r
    · exact z92_33 S r
    · exact z92_34 S r
    · exact z92_35 S r
  · rcases g with rfl | rfl | rfl | rfl | rfl | rfl
    · exact z92_40 S r
    · exact z92_41 S r
    · exact z92_42 S r
    · exact z92_43 S r
    · exact z92_44 S r
    · exact z92_45 S r
  · exact z92_5 S r _
end Ev
end
section
set_option linter.all false
set_option autoImplicit false
set_option maxRecDepth 10000
/-! Pa: hands. -/
namespace Ev
open T
/-- a hand, hands -/
structure Hd (h : List Nat) : Prop where
  asc : h.Pairwise (· < ·)
  lt : ∀ t ∈ h, t < 8
structure Ok (hs : Hands) : Prop where
  pos : 0 < hs.length
  le : hs.length ≤ 7
  hd : ∀ h ∈ hs, Hd h
theorem Hd.len {h : List Nat} (H : Hd h) : h.length ≤ 8 := asc_len H.asc H.lt
section
variable {k : Nat}
/-! ### what hands have -/
def holdN (hs : Hands) (t : Nat) : List Nat := (List.range hs.length).filter fun p => decide (t ∈ hs[p]?.getD [])
def spareN (hs : Hands) (p : Nat) : List Nat := (hs[p]?.getD []).filter fun t => decide (1 < (holdN hs t).length)
def callN (hs : Hands) (p : Nat) : Hands := hs.set p ((hs[p]?.getD []).filter fun t => decide (t ∉ spareN hs p))
/-- the hands behind a row -/
def afterN (hs : Hands) (ps : List Nat) : Hands := ps.foldl callN hs
/-- .. ahead of and behind each call -/
def storyN (hs : Hands) : List Nat → List Hands
  | [] => [hs]
  | p :: ps => hs :: storyN (callN hs p) ps
theorem getD_mem {α : Type} {l : List α} {n : Nat} {d : α} (h : n < l.length) : l[n]?.getD d ∈ l := by
  rw [getD_in h]
  exact List.getElem_mem h
theorem Ok.at {hs : Hands} (H : Ok hs) {p : Nat} (hp : p < hs.length) : Hd (hs[p]?.getD []) := H.hd _ (getD_mem hp)
theorem line_of {n : Nat} (h : n ≤ 16777215) : n ≤ line := le_line n h
theorem Ok.line {hs : Hands} (H : Ok hs) : hs.length ≤ line := line_of (by have := H.le; omega)
theorem Hd.line {h : List Nat} (H : Hd h) : h.length ≤ line := line_of (by have := H.len; omega)
/-! ### calls keep hands -/
theorem Hd.filter {h : List Nat} (H : Hd h) (q : Nat → Bool) : Hd (h.filter q) := ⟨H.asc.filter q, fun t ht => H.lt t (List.mem_filter.mp ht).1⟩
theorem Hd.nil : Hd [] := ⟨.nil, fun t ht => by cases ht⟩
@[simp] theorem call_len (hs : Hands) (p : Nat) : (callN hs p).length = hs.length := by simp [callN]
theorem Ok.getD {hs : Hands} (H : Ok hs) (p : Nat) : Hd (hs[p]?.getD []) := by
  by_cases hp : p < hs.length
  · exact H.at hp
  · rw [List.getElem?_eq_none (by omega)]; exact Hd.nil
theorem Ok.call {hs : Hands} (H : Ok hs) (p : Nat) : Ok (callN hs p) where
  pos := by rw [call_len]; exact H.pos
  le := by rw [call_len]; exact H.le
  hd := fun h hh => by
    rcases List.mem_or_eq_of_mem_set hh with h1 | rfl
    · exact H.hd h h1
    · exact (H.getD p).filter _
@[simp] theorem after_len (hs : Hands) (ps : List Nat) : (afterN hs ps).length = hs.length := by
  induction ps generalizing hs with
  | nil => rfl
  | cons p ps ih => rw [afterN, List.foldl_cons]; exact (ih (callN hs p)).trans (call_len hs p)
@[simp] theorem story_len (hs : Hands) (ps : List Nat) : (storyN hs ps).length = ps.length + 1 := by
  induction ps generalizing hs with
  | nil => rfl
  | cons p ps ih => rw [storyN, List.length_cons, ih]; rfl
/-- a row of people -/
def Row (n : Nat) (ps : List Nat) : Prop := ps.length ≤ 60 ∧ ∀ p ∈ ps, p < n
theorem Row.line {n : Nat} {ps : List Nat} (h : Row n ps) : ps.length ≤ line := line_of (by have := h.1; omega)
/-- some things alone -/
def partN (hs : Hands) (some : List Nat) : Hands := hs.map fun h => h.filter fun t => decide (t ∈ some)
def putN (hs : Hands) : List Nat → List (List Nat)
  | [] => []
  | p :: ps => ((hs[p]?.getD []).filter fun t => decide (t ∉ (callN hs p)[p]?.getD [])) :: putN (callN hs p) ps
@[simp] theorem put_len (hs : Hands) (ps : List Nat) : (putN hs ps).length = ps.length := by
  induction ps generalizing hs with
  | nil => rfl
  | cons q ps ih => rw [putN, List.length_cons, ih, List.length_cons]
end
/-! ### things alone -/
@[simp] theorem part_len (hs : Hands) (S : List Nat) : (partN hs S).length = hs.length := by unfold partN; rw [List.length_map]
end Ev
end
section
set_option linter.all false
set_option autoImplicit false
set_option maxRecDepth 10000
/-! Pd: draws. -/
namespace Ev
open T
open PySem (Str PyData)
/-- a law's row: script, place, mixed number, a great cell's rest -/
def RowOk (r : AV) : Prop := ∃ (ns : List Int) (i s t : Int), r = .list [.list (ns.map .int), .int i, .int s, .int t] ∧ ns.length ≤ 63 ∧ 0 ≤ i ∧ 0 ≤ s ∧ s < 2147483647
section
variable {k : Nat}
theorem fmodN (x : Int) {m : Nat} (h : 0 < m) : ∃ v : Nat, v < m ∧ x.fmod (m : Int) = (v : Int) := by
  have h1 := Int.fmod_nonneg_of_pos x (b := (m : Int)) (by omega)
  have h2 := Int.fmod_lt_of_pos x (b := (m : Int)) (by omega)
  exact ⟨(x.fmod m).toNat, by omega, by omega⟩
theorem mod_Z (x : Int) {m : Nat} (h : 0 < m) : binop .mod (.int x) (.int (m : Int)) = .ok (.int (x.fmod m)) := by
  rw [binop, decide_eq_true (by omega)]
  rfl
theorem div_Z (x : Int) {m : Nat} (h : 0 < m) (h2 : m < 1073741824) : binop .fdiv (.int x) (.int (m : Int)) = .ok (.int (x.fdiv m)) := by
  rw [binop, decide_eq_true (by omega), decide_eq_true (by omega)]
  rfl
theorem mul_Z (x y : Int) (h : smallI x = true) : binop .mul (.int x) (.int y) = .ok (.int (x * y)) := by
  rw [binop, h]
  rfl
theorem lt_Z (x y : Int) : cmpop .gt (.int x) (.int y) = .ok (.bool (decide (y < x))) := cmp_gt x y
theorem ge_Z (x y : Int) : cmpop .ge (.int x) (.int y) = .ok (.bool (decide (y ≤ x))) := cmp_ge x y
theorem i4_0 (a b c d : AV) : idxop (.list [a, b, c, d]) (.int 0) = .ok a := rfl
theorem i4_1 (a b c d : AV) : idxop (.list [a, b, c, d]) (.int 1) = .ok b := rfl
theorem i4_2 (a b c d : AV) : idxop (.list [a, b, c, d]) (.int 2) = .ok c := rfl
theorem i4_3 (a b c d : AV) : idxop (.list [a, b, c, d]) (.int 3) = .ok d := rfl
theorem s4_1 (a b c d v : AV) : setV (.list [a, b, c, d]) (.int 1) v = .ok (.list [a, v, c, d]) := rfl
theorem s4_2 (a b c d v : AV) : setV (.list [a, b, c, d]) (.int 2) v = .ok (.list [a, b, v, d]) := rfl
theorem s4_3 (a b c d v : AV) : setV (.list [a, b, c, d]) (.int 3) v = .ok (.list [a, b, c, v]) := rfl
theorem fin_l (v : AV) (xs : List AV) (env : Env) : finD [0] (.rt v (some (.list xs) :: env)) = .ok (v, [.list xs]) := rfl
theorem int_i (x : Int) : bltop .int [.int x] = .ok (.int x) := rfl
theorem len_i (ns : List Int) : bltop .len [.list (ns.map .int)] = .ok (.int (ns.length : Int)) := by rw [bltop, List.length_map]
theorem pow_i : binop .pow (.int 10) (.int 18) = .ok (.int 1000000000000000000) := by
  rw [binop]
  simp [smallI, big, -il_1, -il_10, -il_18]
theorem mod_p (x : Int) : binop .mod (.int x) (.int 2147483647) = .ok (.int (x.fmod 2147483647)) := rfl
theorem div_7 (x : Int) : binop .fdiv (.int x) (.int 7) = .ok (.int (x.fdiv 7)) := rfl
theorem idx_ns (ns : List Int) (i : Int) (h : 0 ≤ i) (h2 : i < ns.length) : ∃ c, idxop (.list (ns.map .int)) (.int i) = .ok (.int c) := by
  obtain ⟨n, rfl⟩ := Int.eq_ofNat_of_zero_le h
  have hn : n < ns.length := by omega
  refine ⟨ns[n], ?_⟩
  rw [idxop, List.length_map, ixOf_N _ _ hn]
  dsimp only
  rw [List.getElem?_map, List.getElem?_eq_getElem hn]
  rfl
theorem taken_ok (hk : 1 ≤ k) {r : AV} (hr : RowOk r) {m : Nat} (h0 : 0 < m) (h1 : m < 1073741824) : ∃ (v : Nat) (r' : AV), v < m ∧ RowOk r' ∧ callD PM k 305 [r, cN.e m] = .ok (cN.e v, [r']) := by
  obtain ⟨j, rfl⟩ : ∃ j, k = j + 1 := ⟨k - 1, by omega⟩
  obtain ⟨ns, i, s, t, rfl, hn, hi, hs, hs2⟩ := hr
  have hsm : smallI s = true := by
    unfold smallI big
    rw [decide_eq_true (by omega), decide_eq_true (by omega)]
    rfl
  rw [call_s p__law_taken rfl, cN_e]
  have ms : ∀ x : Int, 0 ≤ x.fmod 2147483647 ∧ x.fmod 2147483647 < 2147483647 := fun x => ⟨Int.fmod_nonneg_of_pos x (by omega), Int.fmod_lt_of_pos x (by omega)⟩
  by_cases ht : 0 < t
  · obtain ⟨v, hv, ev⟩ := fmodN t h0
    refine ⟨v, .list [.list (ns.map .int), .int i, .int s, .int (t.fdiv m)], hv, ⟨ns, i, s, _, rfl, hn, hi, hs, hs2⟩, ?_⟩
    rw [cN_e, ← ev]
    simp [d__law_taken, -il_0, -il_1, -il_2, -il_3, -il_7, -il_10, -il_11, -il_18, -il_48271, -il_2147483647, -int_cast, i4_0, i4_1, i4_2, i4_3, s4_1, s4_2, s4_3, fin_l, int_i, lt_Z, ht, mod_Z _ h0, div_Z _ h0 h1]
  · by_cases hlen : (ns.length : Int) < i + 1
    · obtain ⟨v, hv, ev⟩ := fmodN (((s * 48271 + 11).fmod 2147483647).fdiv 7) h0
      refine ⟨v, .list [.list (ns.map .int), .int (i + 1), .int ((s * 48271 + 11).fmod 2147483647), .int t], hv, ⟨ns, _, _, _, rfl, hn, by omega, (ms _).1, (ms _).2⟩, ?_⟩
      rw [cN_e, ← ev]
      simp [d__law_taken, -il_0, -il_1, -il_2, -il_3, -il_7, -il_10, -il_11, -il_18, -il_48271, -il_2147483647, -int_cast, i4_0, i4_1, i4_2, i4_3, s4_1, s4_2, s4_3, fin_l, int_i, lt_Z, ht, mod_Z _ h0, hlen, len_i, mul_Z _ _ hsm, mod_p, div_7]
    · obtain ⟨c, ec⟩ := idx_ns ns i hi (by omega)
      have ec2 : idxop (.list (ns.map .int)) (.int (i + 1 - 1)) = .ok (.int c) := by rw [show i + 1 - 1 = i by omega]; exact ec
      obtain ⟨v, hv, ev⟩ := fmodN c h0
      by_cases hc : (1000000000000000000 : Int) ≤ c
      · refine ⟨v, .list [.list (ns.map .int), .int (i + 1), .int ((s * 48271 + c + 11).fmod 2147483647), .int (c.fdiv m)], hv, ⟨ns, _, _, _, rfl, hn, by omega, (ms _).1, (ms _).2⟩, ?_⟩
        rw [cN_e, ← ev]
        simp [d__law_taken, -il_0, -il_1, -il_2, -il_3, -il_7, -il_10, -il_11, -il_18, -il_48271, -il_2147483647, -int_cast, i4_0, i4_1, i4_2, i4_3, s4_1, s4_2, s4_3, fin_l, int_i, lt_Z, ge_Z, ht, mod_Z _ h0, div_Z _ h0 h1, hlen, len_i, mul_Z _ _ hsm, mod_p, div_7, ec, pow_i, hc]
      · refine ⟨v, .list [.list (ns.map .int), .int (i + 1), .int ((s * 48271 + c + 11).fmod 2147483647), .int t], hv, ⟨ns, _, _, _, rfl, hn, by omega, (ms _).1, (ms _).2⟩, ?_⟩
        rw [cN_e, ← ev]
        simp [d__law_taken, -il_0, -il_1, -il_2, -il_3, -il_7, -il_10, -il_11, -il_18, -il_48271, -il_2147483647, -int_cast, i4_0, i4_1, i4_2, i4_3, s4_1, s4_2, s4_3, fin_l, int_i, lt_Z, ge_Z, ht, mod_Z _ h0, div_Z _ h0 h1, hlen, len_i, mul_Z _ _ hsm, mod_p, div_7, ec, pow_i, hc]
theorem RowOk.mu {r : AV} : RowOk r → mutA r = true := fun ⟨_, _, _, _, e, _⟩ => by rw [e]; rfl
theorem taken_Ex {γ : Type} {K : AV × List AV → R γ} {p : γ → Prop} (hk : 1 ≤ k) {r : AV} (hr : RowOk r) {m : Nat} (h0 : 0 < m) (h1 : m < 1073741824) (h : ∀ v r', v < m → RowOk r' → Ex (K (cN.e v, [r'])) p) : Ex (callD PM k 305 [r, cN.e m] >>= K) p := by
  obtain ⟨v, r', hv, hr', e⟩ := taken_ok hk hr h0 h1
  rw [e, R.ok_bind]
  exact h v r' hv hr'
/-- drawn hands: of at most so many people, of things below a number -/
structure Drawn (np nk : Nat) (hs : Hands) : Prop where
  pos : 0 < hs.length
  le : hs.length ≤ np
  hd : ∀ h ∈ hs, h.Pairwise (· < ·) ∧ ∀ t ∈ h, t < nk
theorem Drawn.ok {np nk : Nat} {hs : Hands} (h : Drawn np nk hs) (h1 : np ≤ 7) (h2 : nk ≤ 8) : Ok hs := ⟨h.pos, Nat.le_trans h.le h1, fun x hx => ⟨(h.hd x hx).1, fun t ht => Nat.lt_of_lt_of_le ((h.hd x hx).2 t ht) h2⟩⟩
end
end Ev
end
section
set_option linter.all false
set_option autoImplicit false
set_option maxRecDepth 10000
namespace Ev
open T
open PySem (Str PyData)
theorem plain92 (ns : List Int) (hn : ns.length ≤ 63) : runD (callD PM 59) d_law92 [.list (ns.map .int)] = .ok (.bool true, []) := by
  refine Ex.eq ?_
  rw [run_eq rfl]
  have hr0 : RowOk (.list [.list (ns.map .int), cN.e 0, .int 9792, cN.e 0]) := ⟨ns, 0, 9792, 0, rfl, hn, by omega, by omega, by omega⟩
  have eb : d_law92.body = (.cons (.asg 1 (.lst (.cons (.var 0) (.cons (.con (.int 0)) (.cons (.con (.int 9792)) (.cons (.con (.int 0)) .nil)))))) (.cons (.par [10, 11] (.cons (.bin .add (.con (.int 1)) (.call 305 (.io 1 (.cons (.con (.int 5)) .nil)))) (.cons (.call 305 (.io 1 (.cons (.con (.int 6)) .nil))) .nil))) rest92)) := rfl
  have en : d_law92.n - d_law92.ps = 19 := rfl
  have ei : d_law92.io = [] := rfl
  rw [eb, en, ei]
  simp [lstR_4]
  refine taken_Ex (by omega) hr0 (by omega) (by omega) fun v r1 hv hr1 => ?_
  simp [tmpL_mu hr1.mu]
  refine taken_Ex (by omega) hr1 (by omega) (by omega) fun c r2 hc hr2 => ?_
  have := fin92 (.list (ns.map .int)) r2 v c hv hc
  unfold goal92 env92 at this
  simp [this]
end Ev
end
section
set_option Elab.async false
set_option linter.all false
set_option maxRecDepth 100000
set_option maxHeartbeats 0
namespace LW
open PySem PySem.Spec PyProof.Rows L2 Ev
theorem plain (ns : List Int) (h : ns.length ≤ 63) : callD P 60 s_law.id [.list (ns.map .int)] = .ok (.bool true, []) := (bridge (P := P) (P' := PM) (D := Ev.d_law92) same used used_law rfl _).trans (Ev.plain92 ns h)
end LW
end
open PySem PySem.W PySem.Calls PyProof.Rows
theorem PySem.Challenge.cw_lastholders_k92_whole_end_by_waits_holds : PySem.Challenge.rw_lastholders_k92_whole_end_by_waits.Holds := by
  w_on; o_law
  refine HandSHeadRun.head_any (r := LW.R) (q := view LW.R.prog [44]) (H := LW.hk) (ob := LW.ob) (M := 8000) (loose := LW.loose) (d := HandSHeadRun.topDef LW.R.prog 44) (kwd := []) LW.ob_eq
    (by kernel_rfl) (fun s => by kernel_rfl) LW.run (by kernel_rfl) (by kernel_rfl) (by kernel_rfl) (by rfl) (by first | assumption | decide +kernel) (by decide +kernel) ⟨rfl, rfl, rfl, rfl, rfl, by decide +kernel⟩ ?hw ?hc
  case hw => w_witness2
  case hc =>
    refine Ev.walk_ofX (l := PySem.Challenge.rw_lastholders_k92_whole_end_by_waits) (n := 63) (k := 60) (x := "_law_script") rfl (by decide) (by kernel_rfl) ⟨rfl, by decide, by decide⟩ LW.plain ?F
    intro w mg fa h Y G hmg0
    obtain ⟨K, KX, c⟩ := Y
    have hmg : mg ("law" : PySem.Str) = some (.ref fa) := by
      have e : (HandSHeadRun.topDef LW.R.prog 44).name = ("law" : PySem.Str) := by kernel_rfl
      rw [← e]
      exact hmg0
    obtain ⟨fd, hb, hF⟩ := Ev.law_facts (srcs := LW.srcs) (gs := LW.gs) (e0 := LW.s_law) (x := "_law_script") (prog := PySem.Challenge.rw_lastholders_k92_whole_end_by_waits.prog) (w := w) (k := 59) KX G c LW.bnd LW.chk rfl rfl rfl (by simp [LW.srcs]) hmg
    exact ⟨K, fd, KX, hb, hF⟩
