import PyProof.Rows.All
import PySem.PyData
import Wide.All
import OpenK.AllK
import Wide.FinOn
import HandS.ForMost
import HandS.Exc
import HandS.TryOnly
import HandS.ExcOwn
import HandS.WordsExc
import HandS.Flow
import HandS.IsInst
import HandS.TupAny
import HandS.TupMul
import HandS.Zip
import HandS.SortInts
import HandS.Style
import HandS.More
import HandS.Strs
import HandS.SetFor
import KE.KDictKeyed
import KE.KDictLaw
import KE.KDictDisplayH
import HandS.TupLen
import KE.KSortTupG
import KE.KDictCopyH
import KE.KDictSum
import KE.GoesEnum
import HandS.Conv
import HandS.ExcIs
import HandS.Defaults
import HandS.HeadEnd
import HandS.HeadHook2
import HandS.HeadHook4
import HandS.Head0
import HandS.Head1
import HandS.Head2
import HandS.HeadHook1
import PySem.Challenge.RW_openrows_k13_whole_fewest_clicks_to_scre
/-! Mini, part A: a small language with values only (no heap), its evaluator. Plain Lean. -/
set_option linter.all false
namespace MP
open PySem (PyData Str)

/-- an outcome: no rule, an exception of the class c, a value -/
inductive R (α : Type) where
  | stuck
  | exc (c : Nat)
  | ok (a : α)
def R.bind {α β : Type} (x : R α) (f : α → R β) : R β := match x with
  | .stuck => .stuck
  | .exc c => .exc c
  | .ok a => f a
@[simp] theorem R.bind_ok {α β : Type} (a : α) (f : α → R β) : (R.ok a).bind f = f a := rfl
@[simp] theorem R.bind_exc {α β : Type} (c : Nat) (f : α → R β) : (R.exc c).bind f = .exc c := rfl
@[simp] theorem R.bind_stuck {α β : Type} (f : α → R β) : (R.stuck : R α).bind f = .stuck := rfl
/-- an exception is no answer here -/
def R.noexc {α : Type} : R α → R α
  | .ok a => .ok a
  | _ => .stuck
@[simp] theorem R.noexc_ok {α : Type} (a : α) : (R.ok a).noexc = .ok a := rfl
def R.of {α : Type} : Option α → R α
  | some a => .ok a
  | none => .stuck
@[simp] theorem R.of_some {α : Type} (a : α) : R.of (some a) = .ok a := rfl
@[simp] theorem R.of_none {α : Type} : R.of (none : Option α) = .stuck := rfl

/-- what a name holds: nothing; a value that nobody changes; a list of its own that may change; the caller's list; the script; a dict of its own -/
inductive Slot where
  | un
  | val (d : PyData)
  | own (ds : List PyData)
  | io (ds : List PyData)
  | scr (ns : List Int)
  | mdk (k : Bool) (kvs : List (PyData × PyData))
abbrev Env := List Slot
/-- an expression's value: frozen, a new list, a new dict, the list or dict that stands in slot i -/
inductive Val where
  | fz (d : PyData)
  | fr (ds : List PyData)
  | fd (k : Bool) (kvs : List (PyData × PyData))
  | pk (i : Nat)
/-- lists are kept below this length -/
abbrev cap : Nat := 100000

inductive BOp where | add | sub | mul | fdiv | mod | pow
  deriving DecidableEq
inductive COp where | eq | ne | lt | le | gt | ge | is_ | isnot | in_ | notin
  deriving DecidableEq
inductive Bi where | len | all | any | sum | min2 | max2 | min1 | int | list | tuple | listRg | tupRg | sorted
  deriving DecidableEq
inductive Ty where | int | bool | str | list | tuple
  deriving DecidableEq
inductive Mt where | index | count | get1 | get2
  deriving DecidableEq
inductive Ik where | seq | rng | enum | zip | rev | items
  deriving DecidableEq
inductive Tg where
  | name (i : Nat)
  | tup (js : List Nat)
  deriving DecidableEq

inductive E where
  | cst (d : PyData)
  | glob (g : Nat)
  | var (i : Nat)
  | peek (i : Nat)
  | bin (op : BOp) (a b : E)
  | neg (a : E)
  | cmp (op : COp) (a b : E)
  | chn (o1 o2 : COp) (a b c : E)
  | and (a b : E)
  | or (a b : E)
  | orV (a b : E)
  | not (a : E)
  | ite (c a b : E)
  | tup (as : E)
  | lst (as : E)
  | dct0 (k : Bool)
  | dct1 (k : Bool) (a b : E)
  | frzd (a : E)
  | no
  | nil
  | cons (a as : E)
  | idx (a i : E)
  | slc (a lo hi : E)
  | call (f : Nat) (as : E)
  | callIo (f i : Nat) (as : E)
  | callScr (f i : Nat) (as : E)
  | callPk (f : Nat) (as : E)
  | rev (a : E)
  | rg (tp : Bool) (as : E)
  | bi (b : Bi) (as : E)
  | isi (a : E) (t : Ty)
  | meth (m : Mt) (o as : E)
  | comp (own : List Nat) (tg : Tg) (ik : Ik) (src cnd elt : E)
  | lenScr (i : Nat)
  | idxScr (i : Nat) (a : E)

inductive S where
  | pass
  | seq (a b : S)
  | asg (i : Nat) (e : E)
  | asg2 (i j : Nat) (a b : E)
  | asg3 (i j l : Nat) (a b c : E)
  | kids (f it pr o k : Nat) (rest : S)
  | unpack (js : List Nat) (e : E)
  | setIx (i : Nat) (ix e : E)
  | aug (i : Nat) (op : BOp) (e : E)
  | app (i : Nat) (e : E)
  | ins (i : Nat) (a e : E)
  | drop (e : E)
  | ret (e : E)
  | retv (i : Nat)
  | iff (c : E) (a b : S)
  | for_ (tg : Tg) (ik : Ik) (src : E) (body : S)
  | while_ (c : E) (body : S)
  | raise (c : Nat)
  | try_ (body : S) (i lim : Nat) (yes : List Nat) (a b : PyData)

/-! ### operations on values -/
section
def arith : BOp → PyData → PyData → R Val
  | .add, .int i, .int j => .ok (.fz (.int (i + j)))
  | .add, .list xs, .list ys => if xs.length + ys.length ≤ cap then .ok (.fr (xs ++ ys)) else .stuck
  | .add, .tuple xs, .tuple ys => if xs.length + ys.length ≤ cap then .ok (.fz (.tuple (xs ++ ys))) else .stuck
  | .sub, .int i, .int j => .ok (.fz (.int (i - j)))
  | .mul, .int i, .int j => if (-(2 ^ 64) < i ∧ i < 2 ^ 64) ∨ (-(2 ^ 64) < j ∧ j < 2 ^ 64) then .ok (.fz (.int (i * j))) else .stuck
  | .mul, .list xs, .int k => if -(2 ^ 63) ≤ k ∧ k < 2 ^ 63 ∧ xs.length * k.toNat ≤ cap then .ok (.fr (List.replicate k.toNat xs).flatten) else .stuck
  | .mul, .tuple xs, .int k => if 1 ≤ xs.length ∧ 1 ≤ k ∧ k ≤ 1000 ∧ xs.length ≤ 1000 then .ok (.fz (.tuple (List.replicate k.toNat xs).flatten)) else .stuck
  | .fdiv, .int i, .int j => if 0 < j ∧ j < 1073741824 then .ok (.fz (.int (i / j))) else .stuck
  | .mod, .int i, .int j => if 0 < j then .ok (.fz (.int (i % j))) else .stuck
  | .pow, .int i, .int j => if 0 ≤ j ∧ j ≤ 1000000 ∧ i.natAbs < 2 ^ 64 then .ok (.fz (.int (i ^ j.toNat))) else .stuck
  | _, _, _ => .stuck
/-- a value that `in` meets: none, bools, ints, texts -/
def flatD : PyData → Bool
  | .none => true
  | .bool _ => true
  | .int _ => true
  | .str _ => true
  | _ => false
mutual
/-- data that == compares here: no dicts, at most n deep -/
def eqOk : Nat → PyData → Bool
  | _, .none => true
  | _, .bool _ => true
  | _, .int _ => true
  | _, .str s => s.cps.all (· < 0x110000)
  | 0, _ => false
  | n + 1, .list xs => eqOkAll n xs
  | n + 1, .tuple xs => eqOkAll n xs
  | _, .dict _ => false
def eqOkAll : Nat → List PyData → Bool
  | _, [] => true
  | n, x :: xs => eqOk n x && eqOkAll n xs
end
mutual
/-- == of data -/
def eqD : PyData → PyData → Bool
  | .none, .none => true
  | .bool a, .bool b => a == b
  | .int a, .int b => a == b
  | .bool a, .int b => (if a then 1 else 0) == b
  | .int a, .bool b => a == (if b then 1 else 0)
  | .str a, .str b => a == b
  | .list xs, .list ys => eqDs xs ys
  | .tuple xs, .tuple ys => eqDs xs ys
  | _, _ => false
def eqDs : List PyData → List PyData → Bool
  | [], [] => true
  | x :: xs, y :: ys => eqD x y && eqDs xs ys
  | _, _ => false
end
/-- x in items: some item equals it -/
def inD (x : PyData) (xs : List PyData) : Bool := xs.any fun y => eqD y x
/-- a key's value in a dict's pairs -/
def dlook (kvs : List (PyData × PyData)) (k : PyData) : Option PyData := match kvs with
  | [] => none
  | (a, v) :: r => if eqD a k then some v else dlook r k
def dput (kvs : List (PyData × PyData)) (k v : PyData) : List (PyData × PyData) := match kvs with
  | [] => [(k, v)]
  | (a, u) :: r => if eqD a k then (a, v) :: r else (a, u) :: dput r k v
/-- a dict as data: its kind ahead of its pairs -/
abbrev mkD (k : Bool) (kvs : List (PyData × PyData)) : PyData := .dict ((.bool k, .none) :: kvs)
def keyI : PyData → Bool
  | .int _ => true
  | .str _ => true
  | _ => false
def intD : PyData → Bool
  | .int _ => true
  | _ => false
/-- what may be asked of a dict: a tuple of ints and texts (an int) -/
def askOk : Bool → PyData → Bool
  | true, .tuple ds => ds.all keyI
  | false, .int _ => true
  | _, _ => false
/-- what may be stored: a tuple of ints (an int) -/
def putOk : Bool → PyData → Bool
  | true, .tuple ds => ds.all intD
  | false, .int _ => true
  | _, _ => false
def isNone : PyData → Bool
  | .none => true
  | _ => false
def cmpD : COp → PyData → PyData → R Bool
  | .lt, .int i, .int j => .ok (decide (i < j))
  | .le, .int i, .int j => .ok (decide (i ≤ j))
  | .gt, .int i, .int j => .ok (decide (j < i))
  | .ge, .int i, .int j => .ok (decide (j ≤ i))
  | .eq, a, b => if eqOk 40 a && eqOk 40 b then .ok (eqD a b) else .stuck
  | .ne, a, b => if eqOk 40 a && eqOk 40 b then .ok (!eqD a b) else .stuck
  | .is_, a, .none => .ok (isNone a)
  | .is_, .bool a, .bool b => .ok (a == b)
  | .isnot, a, .none => .ok (!isNone a)
  | .isnot, .bool a, .bool b => .ok (!(a == b))
  | .in_, a, .list xs => if flatD a && xs.all flatD then .ok (inD a xs) else .stuck
  | .in_, a, .tuple xs => if flatD a && xs.all flatD then .ok (inD a xs) else .stuck
  | .notin, a, .list xs => if flatD a && xs.all flatD then .ok (!inD a xs) else .stuck
  | .notin, a, .tuple xs => if flatD a && xs.all flatD then .ok (!inD a xs) else .stuck
  | .in_, a, .dict ((.bool k, .none) :: kvs) => if askOk k a then .ok (dlook kvs a).isSome else .stuck
  | .notin, a, .dict ((.bool k, .none) :: kvs) => if askOk k a then .ok (!(dlook kvs a).isSome) else .stuck
  | _, _, _ => .stuck
/-- the truth of a value -/
def truthD : PyData → R Bool
  | .none => .ok false
  | .bool b => .ok b
  | .int i => .ok (i != 0)
  | .list xs => .ok (!xs.isEmpty)
  | .tuple xs => .ok (!xs.isEmpty)
  | _ => .stuck
/-- the place of an index -/
def ixOf (n : Nat) (i : Int) : Option Nat := if 0 ≤ i then (if i < n then some i.toNat else none) else if -(n : Int) ≤ i then some (i + n).toNat else none
def atD {α : Type} (xs : List α) (i : Int) : Option α := (ixOf xs.length i).bind fun j => xs[j]?
def idxD : PyData → PyData → R Val
  | .list xs, .int i => match atD xs i with
    | some v => .ok (.fz v)
    | none => .stuck
  | .tuple xs, .int i => match atD xs i with
    | some v => .ok (.fz v)
    | none => .stuck
  | .dict ((.bool k, .none) :: kvs), a => if askOk k a then (match dlook kvs a with
    | some v => .ok (.fz v)
    | none => .stuck) else .stuck
  | _, _ => .stuck
/-- the end of a slice, cut to the length -/
def sxOf (n d : Nat) : Option Int → Nat
  | none => d
  | some v => if v < 0 then (v + (n : Int)).toNat else if (n : Int) ≤ v then n else v.toNat
def cutD {α : Type} (xs : List α) (lo hi : Option Int) : List α := (xs.drop (sxOf xs.length 0 lo)).take (sxOf xs.length xs.length hi - sxOf xs.length 0 lo)
def slcD : PyData → Option Int → Option Int → R Val
  | .list xs, lo, hi => .ok (.fr (cutD xs lo hi))
  | .tuple xs, lo, hi => .ok (.fz (.tuple (cutD xs lo hi)))
  | _, _, _ => .stuck
def allB : List PyData → Option (List Bool)
  | [] => some []
  | .bool b :: r => (allB r).map (b :: ·)
  | _ => none
def allI : List PyData → Option (List Int)
  | [] => some []
  | .int i :: r => (allI r).map (i :: ·)
  | _ => none
/-- the least of some ints -/
def leastI : List Int → Option Int
  | [] => none
  | x :: xs => match leastI xs with
    | none => some x
    | some m => some (if m < x then m else x)
def insI (x : Int) : List Int → List Int
  | [] => [x]
  | y :: ys => if x ≤ y then x :: y :: ys else y :: insI x ys
def sortI : List Int → List Int
  | [] => []
  | x :: xs => insI x (sortI xs)
/-- the int tuples among data -/
def intsOf : PyData → Option (List Int)
  | .tuple ds => allI ds
  | _ => none
def allT : List PyData → Option (List (List Int))
  | [] => some []
  | d :: r => match intsOf d, allT r with
    | some n, some ns => some (n :: ns)
    | _, _ => none
/-- the order of tuples -/
def lexB : List Int → List Int → Bool
  | [], _ => true
  | _ :: _, [] => false
  | x :: xs, y :: ys => if x < y then true else if y < x then false else lexB xs ys
def insT (x : List Int) : List (List Int) → List (List Int)
  | [] => [x]
  | y :: ys => if lexB x y then x :: y :: ys else y :: insT x ys
def sortT : List (List Int) → List (List Int)
  | [] => []
  | x :: xs => insT x (sortT xs)
def tI (ns : List Int) : PyData := .tuple (ns.map .int)
def rangeD (lo hi : Int) : List PyData := (List.range (hi - lo).toNat).map fun (k : Nat) => .int (lo + (k : Int))
def biD : Bi → List PyData → R Val
  | .len, [.list xs] => .ok (.fz (.int xs.length))
  | .len, [.tuple xs] => .ok (.fz (.int xs.length))
  | .len, [.dict ((.bool _, .none) :: kvs)] => .ok (.fz (.int kvs.length))
  | .all, [.list xs] => (R.of (allB xs)).bind fun bs => .ok (.fz (.bool (bs.all id)))
  | .any, [.list xs] => (R.of (allB xs)).bind fun bs => .ok (.fz (.bool (bs.any id)))
  | .sum, [.list xs] => (R.of (allI xs)).bind fun ns => .ok (.fz (.int ns.sum))
  | .min2, [.int i, .int j] => .ok (.fz (.int (if j < i then j else i)))
  | .max2, [.int i, .int j] => .ok (.fz (.int (if j > i then j else i)))
  | .min1, [.list xs] => (R.of (allI xs)).bind fun ns => (R.of (leastI ns)).bind fun m => .ok (.fz (.int m))
  | .int, [.int i] => .ok (.fz (.int i))
  | .int, [.bool b] => .ok (.fz (.int (if b then 1 else 0)))
  | .list, [.list xs] => .ok (.fr xs)
  | .list, [.tuple xs] => .ok (.fr xs)
  | .tuple, [.list xs] => .ok (.fz (.tuple xs))
  | .tuple, [.tuple xs] => .ok (.fz (.tuple xs))
  | .sorted, [.list xs] => (R.of (allI xs)).bind fun ns => if ns.length < 64 then .ok (.fr ((sortI ns).map .int)) else .stuck
  | .sorted, [.dict ((.bool false, .none) :: kvs)] => (R.of (allI (kvs.map (·.1)))).bind fun ns => if ns.length < 64 then .ok (.fr ((sortI ns).map .int)) else .stuck
  | .sorted, [.dict ((.bool true, .none) :: kvs)] => (R.of (allT (kvs.map (·.1)))).bind fun ks => if ks.all (fun n => !n.isEmpty) then .ok (.fr ((sortT ks).map tI)) else .stuck
  | _, _ => .stuck
def isTy : Ty → PyData → Bool
  | .int, .int _ => true
  | .int, .bool _ => true
  | .bool, .bool _ => true
  | .str, .str _ => true
  | .list, .list _ => true
  | .tuple, .tuple _ => true
  | _, _ => false
/-- the first place of an equal one -/
def findD (x : PyData) : List PyData → Option Nat
  | [] => none
  | y :: ys => if eqD y x then some 0 else (findD x ys).map (· + 1)
def methD : Mt → PyData → List PyData → R Val
  | .index, .list xs, [x] => if flatD x && xs.all flatD then (R.of (findD x xs)).bind fun j => .ok (.fz (.int j)) else .stuck
  | .index, .tuple xs, [x] => if flatD x && xs.all flatD then (R.of (findD x xs)).bind fun j => .ok (.fz (.int j)) else .stuck
  | .count, .list xs, [.int k] => (R.of (allI xs)).bind fun ns => .ok (.fz (.int (ns.count k : Nat)))
  | .get1, .dict ((.bool k, .none) :: kvs), [a] => if askOk k a then .ok (.fz ((dlook kvs a).getD .none)) else .stuck
  | .get2, .dict ((.bool k, .none) :: kvs), [a, x] => if askOk k a then .ok (.fz ((dlook kvs a).getD x)) else .stuck
  | _, _, _ => .stuck
/-- what a for walks: its items -/
def itemsD : Ik → List PyData → R (List PyData)
  | .seq, [.list xs] => .ok xs
  | .seq, [.tuple xs] => .ok xs
  | .rng, [.int j] => if -1000000 ≤ j ∧ j ≤ 1000000 then .ok (rangeD 0 j) else .stuck
  | .rng, [.int i, .int j] => if -1000000 ≤ i ∧ i ≤ 1000000 ∧ -1000000 ≤ j ∧ j ≤ 1000000 then .ok (rangeD i j) else .stuck
  | .rng, [.int i, .int j, .int (.negSucc 0)] => if -1000000 ≤ i ∧ i ≤ 1000000 ∧ -1000000 ≤ j ∧ j ≤ 1000000 then .ok ((List.range (i - j).toNat).map fun (k : Nat) => .int (i - (k : Int))) else .stuck
  | .enum, [.list xs] => .ok (xs.zipIdx.map fun p => .tuple [.int p.2, p.1])
  | .enum, [.tuple xs] => .ok (xs.zipIdx.map fun p => .tuple [.int p.2, p.1])
  | .zip, [.list xs, .list ys] => .ok ((xs.zip ys).map fun p => .tuple [p.1, p.2])
  | .zip, [.tuple xs, .tuple ys] => .ok ((xs.zip ys).map fun p => .tuple [p.1, p.2])
  | .rev, [.list xs] => .ok xs.reverse
  | .seq, [.dict ((.bool _, .none) :: kvs)] => .ok (kvs.map (·.1))
  | .items, [.dict ((.bool false, .none) :: kvs)] => .ok (kvs.map fun p => .tuple [p.1, p.2])
  | _, _ => .stuck
end

/-! ### environments -/
/-- forget slots -/
def wipeE (env : Env) : List Nat → Env
  | [] => env
  | v :: vs => (wipeE env vs).set v .un
/-- a slot that may be stored over -/
def soft : Option Slot → Bool
  | some .un => true
  | some (.val _) => true
  | some (.own _) => true
  | some (.mdk _ _) => true
  | _ => false
/-- a slot that a comprehension's own names may take -/
def calmS : Option Slot → Bool
  | some .un => true
  | some (.val _) => true
  | _ => false
/-- behind a comprehension's turn: its own names as they were ahead -/
def mergeE (env e3 : Env) : List Nat → Env
  | [] => e3
  | v :: vs => match env[v]? with
    | some s => (mergeE env e3 vs).set v s
    | none => mergeE env e3 vs
def putVals (env : Env) : List Nat → List PyData → Option Env
  | [], [] => some env
  | j :: js, d :: ds => if soft env[j]? then putVals (env.set j (.val d)) js ds else none
  | _, _ => none
/-- an item bound to the target -/
def bindTg (tg : Tg) (d : PyData) (env : Env) : Option Env := match tg with
  | .name i => if soft env[i]? then some (env.set i (.val d)) else none
  | .tup js => match d with
    | .tuple ds => if ds.length = js.length then putVals env js ds else none
    | _ => none
/-- a new list is given up to be read by all -/
def Val.frz : Val → Val
  | .fr ds => .fz (.list ds)
  | v => v
/-- the data of a value, at a use -/
def Val.look (v : Val) (env : Env) : Option PyData := match v with
  | .fz d => some d
  | .fr ds => some (.list ds)
  | .fd _ _ => none
  | .pk i => match env[i]? with
    | some (.own ds) => some (.list ds)
    | some (.io ds) => some (.list ds)
    | some (.mdk k kvs) => some (mkD k kvs)
    | _ => none
def lookAll (env : Env) : List Val → Option (List PyData)
  | [] => some []
  | v :: vs => match v.look env, lookAll env vs with
    | some d, some ds => some (d :: ds)
    | _, _ => none
def fzAll : List Val → Option (List PyData)
  | [] => some []
  | .fz d :: vs => (fzAll vs).map (d :: ·)
  | _ => none
/-- a name's value, its slot given up where it was a list of its own -/
def readVar (i : Nat) (env : Env) : R (Val × Env) := match env[i]? with
  | some (.val d) => .ok (.fz d, env)
  | some (.own ds) => .ok (.fz (.list ds), env.set i (.val (.list ds)))
  | some (.mdk k kvs) => .ok (.fz (mkD k kvs), env.set i (.val (mkD k kvs)))
  | _ => .stuck
def readPeek (i : Nat) (env : Env) : R (Val × Env) := match env[i]? with
  | some (.val d) => .ok (.fz d, env)
  | some (.own _) => .ok (.pk i, env)
  | some (.io _) => .ok (.pk i, env)
  | some (.mdk _ _) => .ok (.pk i, env)
  | _ => .stuck
/-- a value stored at a name -/
def putVar (i : Nat) (v : Val) (env : Env) : R Env := if soft env[i]? then (match v with
  | .fz d => .ok (env.set i (.val d))
  | .fr ds => .ok (env.set i (.own ds))
  | .fd k kvs => .ok (env.set i (.mdk k kvs))
  | .pk _ => .stuck) else .stuck

/-- a def's answer: a value, or a new list, a new dict -/
inductive RV where
  | fz (d : PyData)
  | fr (ds : List PyData)
  | fd (k : Bool) (kvs : List (PyData × PyData))
def RV.val : RV → Val
  | .fz d => .fz d
  | .fr ds => .fr ds
  | .fd k kvs => .fd k kvs
def flatRV : RV → Option PyData
  | .fz d => if flatD d then some d else none
  | _ => none
/-- how defs answer: the def's number, the list handed in to be changed (or the script), the other arguments -/
inductive Ex0 where
  | non
  | io (ds : List PyData)
  | scr (ns : List Int)
abbrev Cl := Nat → Ex0 → List PyData → R (RV × List PyData)
/-- the module's constants -/
abbrev Gb := Nat → Option PyData

/-- the turns of a comprehension -/
def compL (tst : Env → R (Bool × Env)) (elt : Env → R (Val × Env)) (tg : Tg) (own : List Nat) : List PyData → Env → R (List PyData × Env)
  | [], env => .ok ([], env)
  | d :: ds, env => (R.of (bindTg tg d (wipeE env own))).bind fun e1 => (tst e1).bind fun p => match p.1 with
    | false => compL tst elt tg own ds (mergeE env p.2 own)
    | true => (elt p.2).bind fun q => match q.1.frz with
      | .fz x => (compL tst elt tg own ds (mergeE env q.2 own)).bind fun r => .ok (x :: r.1, r.2)
      | _ => .stuck

/-- the four readings of a term: a value, a test, arguments, an end of a slice -/
structure Ev4 where
  v : Env → R (Val × Env)
  t : Env → R (Bool × Env)
  a : Env → R (List Val × Env)
  o : Env → R (Option Int × Env)
def tstOf (f : Env → R (Val × Env)) (env : Env) : R (Bool × Env) := (f env).bind fun p => (R.of (p.1.frz.look p.2)).bind fun x => (truthD x).bind fun t => .ok (t, p.2)
def endOf (f : Env → R (Val × Env)) (env : Env) : R (Option Int × Env) := (f env).bind fun p => match p.1 with
  | .fz (.int i) => .ok (some i, p.2)
  | _ => .stuck
def Ev4.of (f : Env → R (Val × Env)) : Ev4 := ⟨f, tstOf f, fun _ => .stuck, endOf f⟩
def Ev4.bool (f : Env → R (Val × Env)) (t : Env → R (Bool × Env)) : Ev4 := ⟨f, t, fun _ => .stuck, fun _ => .stuck⟩

def ev1 (f : Env → R (Val × Env)) (op : PyData → R Val) (env : Env) : R (Val × Env) :=
  (f env).bind fun p => (R.of (p.1.frz.look p.2)).bind fun x => (op x).bind fun v => .ok (v, p.2)
def ev2 (f g : Env → R (Val × Env)) (op : PyData → PyData → R Val) (env : Env) : R (Val × Env) :=
  (f env).bind fun p => (g p.2).bind fun q => (R.of (p.1.frz.look q.2)).bind fun x => (R.of (q.1.frz.look q.2)).bind fun y => (op x y).bind fun v => .ok (v, q.2)
def cmpV (op : COp) (x y : PyData) : R Val := (cmpD op x y).bind fun b => .ok (.fz (.bool b))
def evChn (f g h : Env → R (Val × Env)) (o1 o2 : COp) (env : Env) : R (Val × Env) :=
  (f env).bind fun p => (g p.2).bind fun q => (R.of (p.1.frz.look q.2)).bind fun x => (R.of (q.1.frz.look q.2)).bind fun y => (cmpD o1 x y).bind fun v => match v with
    | false => .ok (.fz (.bool false), q.2)
    | true => (h q.2).bind fun r => (R.of (q.1.frz.look r.2)).bind fun y => (R.of (r.1.frz.look r.2)).bind fun z => (cmpD o2 y z).bind fun w => .ok (.fz (.bool w), r.2)
def evAndV (f g : Env → R (Val × Env)) (env : Env) : R (Val × Env) := (f env).bind fun p => match p.1 with
  | .fz (.bool true) => (g p.2).bind fun q => .ok (q.1.frz, q.2)
  | .fz (.bool false) => .ok (.fz (.bool false), p.2)
  | _ => .stuck
def evOrV (f g : Env → R (Val × Env)) (env : Env) : R (Val × Env) := (f env).bind fun p => match p.1 with
  | .fz (.bool false) => (g p.2).bind fun q => .ok (q.1.frz, q.2)
  | .fz (.bool true) => .ok (.fz (.bool true), p.2)
  | _ => .stuck
def evOrT (f g : Env → R (Val × Env)) (env : Env) : R (Val × Env) := (f env).bind fun p => match p.1.frz with
  | .fz d => (truthD d).bind fun t => match t with
    | true => .ok (.fz d, p.2)
    | false => (g p.2).bind fun q => .ok (q.1.frz, q.2)
  | _ => .stuck
def tAndE (f g : Env → R (Bool × Env)) (env : Env) : R (Bool × Env) := (f env).bind fun p => match p.1 with
  | true => g p.2
  | false => .ok (false, p.2)
def tOrE (f g : Env → R (Bool × Env)) (env : Env) : R (Bool × Env) := (f env).bind fun p => match p.1 with
  | false => g p.2
  | true => .ok (true, p.2)
def tNotE (f : Env → R (Bool × Env)) (env : Env) : R (Bool × Env) := (f env).bind fun p => .ok (!p.1, p.2)
def notD (d : PyData) : R Val := (truthD d).bind fun b => .ok (.fz (.bool (!b)))
def evIte (c : Env → R (Bool × Env)) (f g : Env → R (Val × Env)) (env : Env) : R (Val × Env) := (c env).bind fun p => match p.1 with
  | true => f p.2
  | false => g p.2
/-- behind frozen arguments -/
def evFz (as : Env → R (List Val × Env)) (k : List PyData → Env → R (Val × Env)) (env : Env) : R (Val × Env) := (as env).bind fun p => (R.of (fzAll p.1)).bind fun ds => k ds p.2
/-- behind arguments that may be lists of one's own -/
def evLk (as : Env → R (List Val × Env)) (k : List PyData → Env → R (Val × Env)) (env : Env) : R (Val × Env) := (as env).bind fun p => (R.of (lookAll p.2 p.1)).bind fun ds => k ds p.2
def kTup (ds : List PyData) (env : Env) : R (Val × Env) := if ds.length ≤ cap then .ok (.fz (.tuple ds), env) else .stuck
def kLst (ds : List PyData) (env : Env) : R (Val × Env) := if ds.length ≤ cap then .ok (.fr ds, env) else .stuck
def kCall (cl : Cl) (f : Nat) (ds : List PyData) (env : Env) : R (Val × Env) := (cl f .non ds).bind fun r => .ok (r.1.val, env)
def kCallIo (cl : Cl) (f i : Nat) (ds : List PyData) (env : Env) : R (Val × Env) := match env[i]? with
  | some (.own us) => (cl f (.io us) ds).bind fun r => .ok (r.1.val, env.set i (.own r.2))
  | some (.io us) => (cl f (.io us) ds).bind fun r => .ok (r.1.val, env.set i (.io r.2))
  | _ => .stuck
/-- the name holds a list of its own (the script) ahead of the other arguments -/
def evOwn (i : Nat) (f : Env → R (Val × Env)) (env : Env) : R (Val × Env) := match env[i]? with
  | some (.own _) => f env
  | some (.io _) => f env
  | _ => .stuck
/-- .. or a dict of its own -/
def evOwnD (i : Nat) (f : Env → R (Val × Env)) (env : Env) : R (Val × Env) := match env[i]? with
  | some (.own _) => f env
  | some (.io _) => f env
  | some (.mdk _ _) => f env
  | _ => .stuck
def evScr (i : Nat) (f : Env → R (Val × Env)) (env : Env) : R (Val × Env) := match env[i]? with
  | some (.scr _) => f env
  | _ => .stuck
def kCallScr (cl : Cl) (f i : Nat) (ds : List PyData) (env : Env) : R (Val × Env) := match env[i]? with
  | some (.scr ns) => (cl f (.scr ns) ds).bind fun r => .ok (r.1.val, env)
  | _ => .stuck
/-- no dict among them -/
def noDc : PyData → Bool
  | .dict _ => false
  | _ => true
def kCallPk (cl : Cl) (f : Nat) (ds : List PyData) (env : Env) : R (Val × Env) := if ds.all noDc then (cl f .non ds).bind fun r => (R.of (flatRV r.1)).bind fun d => .ok (.fz d, env) else .stuck
/-- list(range(..)), tuple(range(..)) -/
def rgD (tp : Bool) : List PyData → R Val
  | [.int j] => if -1000000 ≤ j ∧ j ≤ 1000000 then .ok (if tp then .fz (.tuple (rangeD 0 j)) else .fr (rangeD 0 j)) else .stuck
  | [.int i, .int j] => if -1000000 ≤ i ∧ i ≤ 1000000 ∧ -1000000 ≤ j ∧ j ≤ 1000000 then .ok (if tp then .fz (.tuple (rangeD i j)) else .fr (rangeD i j)) else .stuck
  | _ => .stuck
def kRg (tp : Bool) (ds : List PyData) (env : Env) : R (Val × Env) := (rgD tp ds).bind fun v => .ok (v, env)
/-- x[::-1] -/
def revD : PyData → R Val
  | .tuple xs => .ok (.fz (.tuple xs.reverse))
  | .list xs => .ok (.fr xs.reverse)
  | _ => .stuck
def kBi (b : Bi) (ds : List PyData) (env : Env) : R (Val × Env) := (biD b ds).bind fun v => .ok (v, env)
/-- the items that are walked -/
def itE (ik : Ik) (v : Env → R (Val × Env)) (a : Env → R (List Val × Env)) (env : Env) : R (List PyData × Env) := match ik with
  | .seq => (v env).bind fun p => match p.1.frz with
    | .fz d => (itemsD .seq [d]).bind fun xs => .ok (xs, p.2)
    | _ => .stuck
  | .items => (v env).bind fun p => match p.1.frz with
    | .fz d => (itemsD .items [d]).bind fun xs => .ok (xs, p.2)
    | _ => .stuck
  | ik => (a env).bind fun p => (R.of (fzAll p.1)).bind fun ds => (itemsD ik ds).bind fun xs => .ok (xs, p.2)
def evComp (its : Env → R (List PyData × Env)) (tst : Env → R (Bool × Env)) (elt : Env → R (Val × Env)) (own : List Nat) (tg : Tg) (env : Env) : R (Val × Env) := (its env).bind fun p =>
  if p.1.length ≤ cap ∧ (own.all fun i => calmS p.2[i]?) = true then (compL tst elt tg own p.1 p.2).noexc.bind fun r => .ok (.fr r.1, r.2) else .stuck
/-- of one kind: two lists, two tuples, two dicts -/
def sameK : PyData → PyData → Bool
  | .list _, .list _ => true
  | .tuple _, .tuple _ => true
  | .dict ((.bool a, .none) :: _), .dict ((.bool b, .none) :: _) => a == b
  | _, _ => false
/-- the types that have the method -/
def mtKd : Mt → PyData → Bool
  | .index, .list _ => true
  | .index, .tuple _ => true
  | .count, .list _ => true
  | .get1, .dict ((.bool _, .none) :: _) => true
  | .get2, .dict ((.bool _, .none) :: _) => true
  | _, _ => false
def evMeth (f : Env → R (Val × Env)) (as : Env → R (List Val × Env)) (m : Mt) (env : Env) : R (Val × Env) :=
  (f env).bind fun p => (R.of (p.1.frz.look p.2)).bind fun x0 => if mtKd m x0 then (as p.2).bind fun q => (R.of (fzAll q.1)).bind fun ds => (R.of (p.1.frz.look q.2)).bind fun x => if sameK x0 x then (methD m x ds).bind fun v => .ok (v, q.2) else .stuck else .stuck
def evSlc (f : Env → R (Val × Env)) (lo hi : Env → R (Option Int × Env)) (env : Env) : R (Val × Env) :=
  (f env).bind fun p => (lo p.2).bind fun q => (hi q.2).bind fun r => (R.of (p.1.frz.look r.2)).bind fun x => (slcD x q.1 r.1).bind fun v => .ok (v, r.2)
def evCons (f : Env → R (Val × Env)) (as : Env → R (List Val × Env)) (env : Env) : R (List Val × Env) := (f env).bind fun p => (as p.2).bind fun q => .ok (p.1.frz :: q.1, q.2)
def negD : PyData → R Val
  | .int i => .ok (.fz (.int (-i)))
  | _ => .stuck
def isiD (t : Ty) : PyData → R Val
  | .dict _ => .stuck
  | x => .ok (.fz (.bool (isTy t x)))
def evLenScr (i : Nat) (env : Env) : R (Val × Env) := match env[i]? with
  | some (.scr ns) => .ok (.fz (.int ns.length), env)
  | _ => .stuck
def evIdxScr (i : Nat) (f : Env → R (Val × Env)) (env : Env) : R (Val × Env) := (f env).bind fun p => match p.1, p.2[i]? with
  | .fz (.int k), some (.scr ns) => (R.of (atD ns k)).bind fun n => .ok (.fz (.int n), p.2)
  | _, _ => .stuck

/-- {a: b} -/
def evDct (f g : Env → R (Val × Env)) (k : Bool) (env : Env) : R (Val × Env) := (f env).bind fun p => match p.1.frz with
  | .fz a => (g p.2).bind fun q => (match q.1.frz with
    | .fz b => if putOk k a then .ok (.fd k [(a, b)], q.2) else .stuck
    | _ => .stuck)
  | _ => .stuck
/-- a new dict is given up to be read by all -/
def evFrzd (f : Env → R (Val × Env)) (env : Env) : R (Val × Env) := (f env).bind fun p => match p.1 with
  | .fd k kvs => .ok (.fz (mkD k kvs), p.2)
  | _ => .stuck

def ev (cl : Cl) (gb : Gb) : E → Ev4
  | .cst d => .of fun env => .ok (.fz d, env)
  | .glob g => .of fun env => (R.of (gb g)).bind fun d => .ok (.fz d, env)
  | .var i => .of (readVar i)
  | .peek i => .of (readPeek i)
  | .bin op a b => .of (ev2 (ev cl gb a).v (ev cl gb b).v (arith op))
  | .neg a => .of (ev1 (ev cl gb a).v negD)
  | .cmp op a b => .of (ev2 (ev cl gb a).v (ev cl gb b).v (cmpV op))
  | .chn o1 o2 a b c => .of (evChn (ev cl gb a).v (ev cl gb b).v (ev cl gb c).v o1 o2)
  | .and a b => .bool (evAndV (ev cl gb a).v (ev cl gb b).v) (tAndE (ev cl gb a).t (ev cl gb b).t)
  | .or a b => .bool (evOrV (ev cl gb a).v (ev cl gb b).v) (tOrE (ev cl gb a).t (ev cl gb b).t)
  | .orV a b => .bool (evOrT (ev cl gb a).v (ev cl gb b).v) (fun _ => .stuck)
  | .not a => .bool (ev1 (ev cl gb a).v notD) (tNotE (ev cl gb a).t)
  | .ite c a b => ⟨evIte (ev cl gb c).t (ev cl gb a).v (ev cl gb b).v, fun _ => .stuck, fun _ => .stuck, endOf (evIte (ev cl gb c).t (ev cl gb a).v (ev cl gb b).v)⟩
  | .tup as => .of (evFz (ev cl gb as).a kTup)
  | .lst as => .of (evFz (ev cl gb as).a kLst)
  | .dct0 k => .of fun env => .ok (.fd k [], env)
  | .dct1 k a b => .of (evDct (ev cl gb a).v (ev cl gb b).v k)
  | .frzd a => .of (evFrzd (ev cl gb a).v)
  | .no => ⟨fun _ => .stuck, fun env => .ok (true, env), fun _ => .stuck, fun env => .ok (none, env)⟩
  | .nil => ⟨fun _ => .stuck, fun _ => .stuck, fun env => .ok ([], env), fun _ => .stuck⟩
  | .cons a as => ⟨fun _ => .stuck, fun _ => .stuck, evCons (ev cl gb a).v (ev cl gb as).a, fun _ => .stuck⟩
  | .idx a i => .of (ev2 (ev cl gb a).v (ev cl gb i).v idxD)
  | .slc a lo hi => .of (evSlc (ev cl gb a).v (ev cl gb lo).o (ev cl gb hi).o)
  | .call f as => .of (evFz (ev cl gb as).a (kCall cl f))
  | .callIo f i as => .of (evOwn i (evFz (ev cl gb as).a (kCallIo cl f i)))
  | .callScr f i as => .of (evScr i (evFz (ev cl gb as).a (kCallScr cl f i)))
  | .callPk f as => .of (evLk (ev cl gb as).a (kCallPk cl f))
  | .rev a => .of (ev1 (ev cl gb a).v revD)
  | .rg tp as => .of (evFz (ev cl gb as).a (kRg tp))
  | .bi b as => .of (evLk (ev cl gb as).a (kBi b))
  | .isi a t => .of (ev1 (ev cl gb a).v (isiD t))
  | .meth m o as => .of (evMeth (ev cl gb o).v (ev cl gb as).a m)
  | .comp own tg ik src cnd elt => .of (evComp (itE ik (ev cl gb src).v (ev cl gb src).a) (ev cl gb cnd).t (ev cl gb elt).v own tg)
  | .lenScr i => .of (evLenScr i)
  | .idxScr i a => .of (evScr i (evIdxScr i (ev cl gb a).v))

/-! ### statements -/
inductive Fl where
  | next
  | ret (r : RV)
/-- the turns of a for -/
def forL (body : Env → R (Fl × Env)) (tg : Tg) : List PyData → Env → R (Fl × Env)
  | [], env => .ok (.next, env)
  | d :: ds, env => (R.of (bindTg tg d env)).bind fun e1 => (body e1).bind fun p => match p.1 with
    | .next => forL body tg ds p.2
    | .ret r => .ok (.ret r, p.2)
def whileL (c : Env → R (Bool × Env)) (body : Env → R (Fl × Env)) : Nat → Env → R (Fl × Env)
  | 0, _ => .stuck
  | n + 1, env => (c env).bind fun p => match p.1 with
    | false => .ok (.next, p.2)
    | true => (body p.2).bind fun q => match q.1 with
      | .next => whileL c body n q.2
      | .ret r => .ok (.ret r, q.2)
/-- turns that a while may take -/
abbrev wcap : Nat := 1000
def retOf (v : Val) : R RV := match v with
  | .fz d => .ok (.fz d)
  | .fr ds => .ok (.fr ds)
  | .fd k kvs => .ok (.fd k kvs)
  | .pk _ => .stuck
def augD (i : Nat) (op : BOp) (v : Val) (env : Env) : R Env := match env[i]?, op, v.frz with
  | some (.val (.int a)), .add, .fz (.int b) => .ok (env.set i (.val (.int (a + b))))
  | some (.val (.int a)), .mul, .fz (.int b) => if (-(2 ^ 64) < a ∧ a < 2 ^ 64) ∨ (-(2 ^ 64) < b ∧ b < 2 ^ 64) then .ok (env.set i (.val (.int (a * b)))) else .stuck
  | some (.own xs), .add, .fz (.list ys) => if xs.length + ys.length ≤ cap then .ok (env.set i (.own (xs ++ ys))) else .stuck
  | _, _, _ => .stuck
def setIxD (i : Nat) (k v : Val) (env : Env) : R Env := match env[i]?, k.frz, v.frz with
  | some (.own xs), .fz (.int j), .fz d => (R.of (ixOf xs.length j)).bind fun n => .ok (env.set i (.own (xs.set n d)))
  | some (.io xs), .fz (.int j), .fz d => (R.of (ixOf xs.length j)).bind fun n => .ok (env.set i (.io (xs.set n d)))
  | some (.mdk t kvs), .fz a, .fz d => if putOk t a ∧ kvs.length < cap then .ok (env.set i (.mdk t (dput kvs a d))) else .stuck
  | _, _, _ => .stuck
def appD (i : Nat) (v : Val) (env : Env) : R Env := match env[i]?, v.frz with
  | some (.own xs), .fz d => if xs.length < cap then .ok (env.set i (.own (xs ++ [d]))) else .stuck
  | _, _ => .stuck
def insD (i : Nat) (k v : Val) (env : Env) : R Env := match env[i]?, k.frz, v.frz with
  | some (.own xs), .fz (.int j), .fz d => if xs.length < cap ∧ 0 ≤ j ∧ j < 2 ^ 63 then .ok (env.set i (.own (xs.take j.toNat ++ d :: xs.drop j.toNat))) else .stuck
  | _, _, _ => .stuck
/-- a name that is bound -/
def evBd (i : Nat) (f : Env → R (Val × Env)) (env : Env) : R (Val × Env) := match env[i]? with
  | some (.val _) => f env
  | some (.own _) => f env
  | _ => .stuck
/-- a slot that holds nothing that may change -/
def stillS : Slot → Bool
  | .un => true
  | .val _ => true
  | .scr _ => true
  | _ => false
/-- each item is put into the list of its parent -/
def addK : List (List Nat) → Nat → List PyData → Option (List (List Nat))
  | xss, _, [] => some xss
  | xss, i, .none :: ps => addK xss (i + 1) ps
  | xss, i, .int (.ofNat j) :: ps => if j < xss.length then addK (xss.set j (xss.getD j [] ++ [i])) (i + 1) ps else none
  | _, _, _ => none
def kidE (env : Env) (f it pr : Nat) (xss : List (List Nat)) : Env := ((env.set it .un).set pr .un).set f (.val (.list (xss.map fun l => .list (l.map fun k : Nat => .int k))))
def exS (cl : Cl) (gb : Gb) : S → Env → R (Fl × Env)
  | .pass, env => .ok (.next, env)
  | .seq a b, env => (exS cl gb a env).bind fun p => match p.1 with
    | .next => exS cl gb b p.2
    | .ret r => .ok (.ret r, p.2)
  | .asg i e, env => ((ev cl gb e).v env).bind fun p => (putVar i p.1 p.2).bind fun e1 => .ok (.next, e1)
  | .asg2 i j a b, env => ((ev cl gb a).v env).bind fun p => ((ev cl gb b).v p.2).bind fun q => if i ≠ j then (putVar i p.1 q.2).bind fun e1 => (putVar j q.1 e1).bind fun e2 => .ok (.next, e2) else .stuck
  | .asg3 i j l a b c, env => ((ev cl gb a).v env).bind fun p => ((ev cl gb b).v p.2).bind fun q => ((ev cl gb c).v q.2).bind fun r => if i ≠ j ∧ i ≠ l ∧ j ≠ l then (putVar i p.1 r.2).bind fun e1 => (putVar j q.1 e1).bind fun e2 => (putVar l r.1 e2).bind fun e3 => .ok (.next, e3) else .stuck
  | .kids f it pr o k rest, env => match env[o]? with
    | some (.val (.tuple ds)) => if ds.length ≤ cap ∧ soft env[f]? = true ∧ calmS env[it]? = true ∧ calmS env[pr]? = true then (cl k .non [.tuple ds]).bind fun r => (match r.1 with
      | .fr ps => if ps.length ≤ cap then (R.of (addK (List.replicate ds.length []) 0 ps)).bind fun xss => exS cl gb rest (kidE env f it pr xss) else .stuck
      | _ => .stuck) else .stuck
    | _ => .stuck
  | .unpack js e, env => ((ev cl gb e).v env).bind fun p => match p.1 with
    | .fz (.tuple ds) => if ds.length = js.length then (R.of (putVals p.2 js ds)).bind fun e1 => .ok (.next, e1) else .stuck
    | _ => .stuck
  | .setIx i ix e, env => ((ev cl gb e).v env).bind fun p => (evOwnD i (ev cl gb ix).v p.2).bind fun q => (setIxD i q.1 p.1 q.2).bind fun e1 => .ok (.next, e1)
  | .aug i op e, env => (evBd i (ev cl gb e).v env).bind fun p => (augD i op p.1 p.2).bind fun e1 => .ok (.next, e1)
  | .app i e, env => (evOwn i (ev cl gb e).v env).bind fun p => (appD i p.1 p.2).bind fun e1 => .ok (.next, e1)
  | .ins i a e, env => (evOwn i (ev cl gb a).v env).bind fun p => ((ev cl gb e).v p.2).bind fun q => (insD i p.1 q.1 q.2).bind fun e1 => .ok (.next, e1)
  | .drop e, env => ((ev cl gb e).v env).bind fun p => .ok (.next, p.2)
  | .ret e, env => ((ev cl gb e).v env).bind fun p => (retOf p.1).bind fun r => .ok (.ret r, p.2)
  | .retv i, env => match env[i]? with
    | some (.own ds) => .ok (.ret (.fr ds), env.set i .un)
    | some (.mdk k kvs) => .ok (.ret (.fd k kvs), env.set i .un)
    | some (.val d) => .ok (.ret (.fz d), env)
    | _ => .stuck
  | .iff c a b, env => ((ev cl gb c).t env).bind fun p => match p.1 with
    | true => exS cl gb a p.2
    | false => exS cl gb b p.2
  | .for_ tg ik src body, env => (itE ik (ev cl gb src).v (ev cl gb src).a env).bind fun p => if p.1.length ≤ cap then forL (exS cl gb body) tg p.1 p.2 else .stuck
  | .while_ c body, env => whileL (ev cl gb c).t (exS cl gb body) wcap env
  | .raise c, _ => .exc c
  | .try_ body i lim yes a b, env => if env.all stillS then (match exS cl gb body env with
    | .exc c => if c < lim then .ok (.ret (.fz (if c ∈ yes then a else b)), env) else .stuck
    | r => r) else .stuck

/-- a def: how many names, the parameters' number ahead of the others, the kind of the first parameter, its body; none: told elsewhere -/
inductive Pk where | plain | io | scr
  deriving DecidableEq
structure Fn where
  slots : Nat
  pk : Pk
  np : Nat
  body : S
/-- the environment at a def's start -/
def startE (f : Fn) (x : Ex0) (ds : List PyData) : Option Env := match f.pk, x with
  | .plain, .non => if ds.length = f.np ∧ f.np ≤ f.slots then some (ds.map Slot.val ++ List.replicate (f.slots - f.np) .un) else none
  | .io, .io us => if ds.length + 1 = f.np ∧ f.np ≤ f.slots then some (.io us :: (ds.map Slot.val ++ List.replicate (f.slots - f.np) .un)) else none
  | .scr, .scr ns => if ds.length + 1 = f.np ∧ f.np ≤ f.slots then some (.scr ns :: (ds.map Slot.val ++ List.replicate (f.slots - f.np) .un)) else none
  | _, _ => none
def ioOf (k : Pk) (env : Env) : Option (List PyData) := match k with
  | .io => (match env[(0 : Nat)]? with
    | some (.io us) => some us
    | _ => none)
  | _ => some []
def runF (cl : Cl) (gb : Gb) (f : Fn) (x : Ex0) (ds : List PyData) : R (RV × List PyData) := (R.of (startE f x ds)).bind fun env => (exS cl gb f.body env).bind fun p => (R.of (ioOf f.pk p.2)).bind fun us => match p.1 with
  | .next => .ok (.fz .none, us)
  | .ret r => .ok (r, us)
/-- the defs: a body, or an answer told elsewhere (over the other defs' answers) -/
inductive Def where
  | fn (f : Fn)
  | prim (p : Cl → Ex0 → List PyData → R (RV × List PyData))
def run (defs : List Def) (gb : Gb) : Nat → Cl
  | 0 => fun _ _ _ => .stuck
  | n + 1 => fun f x ds => match defs[f]? with
    | some (.fn b) => runF (run defs gb n) gb b x ds
    | some (.prim p) => p (run defs gb n) x ds
    | none => .stuck
end MP

/-! Mini, part C0: tuples whose object is known. -/
set_option linter.all false
set_option Elab.async false
set_option maxRecDepth 100000
set_option maxHeartbeats 4000000
namespace MP
open PySem PySem.Spec PyProof.Rows L2
/-- a tuple whose object is known, or one of the module -/
def TupN (K : PySem.W.Frag) (H : Hp) (a : Addr) (xs : List V) : Prop :=
  (∃ o, H a = some (.frz o (.tup xs)) ∧ o.dict = none) ∨
    ∃ (o : Obj) (its : Array Value) (n : Nat), K.lookup a = some o ∧ o.cls = .type "tuple" ∧ o.dict = none ∧ o.data = .seq its n ∧ its.size ≤ sizeLine ∧ Vals xs its.toList
theorem TupN.t {K : PySem.W.Frag} {H : Hp} {a : Addr} {xs : List V} (h : TupN K H a xs) : SqT K H a xs := by
  rcases h with ⟨o, h, _⟩ | ⟨o, its, n, h1, h2, _, h4⟩
  · exact .inl (.inr ⟨o, h⟩)
  · exact .inr ⟨o, its, n, h1, h2, h4⟩
theorem TupN.of {K : PySem.W.Frag} {H : Hp} {a : Addr} {xs : List V} {o : Obj} (h : H a = some (.frz o (.tup xs))) (d : o.dict = none) : TupN K H a xs := .inl ⟨o, h, d⟩
/-- the object of a tuple of items -/
abbrev tupO (its : List Value) : Obj := { cls := .type "tuple", data := .seq its.toArray }
section
variable {X : Cx} {pins : List (Addr × Obj)} {σ : L2.St} {H : Hp} {s : Shared}
/-- the object behind such a tuple -/
theorem tupN_obj {a : Addr} {xs : List V} (I : Inv X pins σ H s) (h : TupN X.K H a xs) : ∃ (o : Obj) (its : List Value) (n : Nat), s.heap.get? a = some o ∧ o.cls = .type "tuple" ∧ o.dict = none ∧ o.data = .seq its.toArray n ∧ its.length ≤ sizeLine ∧ Vals xs its := by
  rcases h with ⟨o, h1, h2⟩ | ⟨o, its, n, h1, h2, h3, h4, h5, h6⟩
  · obtain ⟨e, hz, its, rv, o', e1, c1, n, d1⟩ := I.hok a _ h1
    rw [e] at e1
    cases e1
    exact ⟨o, its, n, e, c1, h2, d1, by rw [← rv.length]; exact hz, rv⟩
  · exact ⟨o, its.toList, n, I.kIn a o h1, h2, h3, by rw [h4], by simpa using h5, h6⟩
/-- a new tuple is laid, its object known -/
theorem laidN (I : Inv X pins σ H s) {h' : Heap} {its : List Value} {xs : List V} (r : Vals xs its) (z : xs.length ≤ sizeLine) (k : ∀ b u, s.heap.get? b = some u → h'.get? b = some u) {p : Addr} (hp : s.heap.objs.size ≤ p) (g : h'.get? p = some (tupO its)) :
    Inv X pins σ (upd H p (.frz (tupO its) (.tup xs))) { s with heap := h' } :=
  Inv.laid (t' := s.toks) I k hp ⟨g, z, its, r, tupO its, g, rfl, _, rfl⟩
theorem laidP (I : Inv X pins σ H s) {its : List Value} {xs : List V} (r : Vals xs its) (z : xs.length ≤ sizeLine) {Q : VK} (q : ∀ p o, H p = none → o.dict = none → Q (.ref p) (upd H p (.frz o (.tup xs)))) :
    EP X pins σ Q (.ref s.heap.objs.size) { s with heap := s.heap.push (tupO its) } :=
  ⟨.ref s.heap.objs.size, _, laidN I r z (fun b u e => Heap.get?_push_of_some _ e) (Nat.le_refl _) (Heap.get?_push_size _ rfl), rfl, q _ _ (I.hok.fresh (Nat.le_refl _)) rfl⟩
/-! ### a display -/
def tTupN (t : TA) : TE := fun σ H Q => t σ H fun xs H1 => xs.length ≤ sizeLine ∧ ∀ p o, H1 p = none → o.dict = none → Q (.ref p) (upd H1 p (.frz o (.tup xs)))
theorem pe_tupN {es : List Expr} {k : Nat} {pos : Pos} {t : TA} (h : PA X es t) : PE X (.Tuple es k pos) (tTupN t) :=
  ⟨fun pins s σ H Q I hq => wpAny_Tuple_spliced (thn (h.run pos pins s σ H _ I hq) fun us s1 ⟨xs, H1, I1, r, z, q⟩ => ⟨by rw [← r.length]; exact z, laidP I1 r z q⟩)⟩
/-! ### +, *, slices -/
def rCatN (K : PySem.W.Frag) : R2 := fun x y H Q => ∃ a b xs ys, x = .ref a ∧ y = .ref b ∧ SqT K H a xs ∧ SqT K H b ys ∧ xs.length + ys.length ≤ sizeLine ∧
  (xs = [] → Q (.ref b) H) ∧ (xs ≠ [] → ys = [] → Q (.ref a) H) ∧ (∀ p o, H p = none → o.dict = none → Q (.ref p) (upd H p (.frz o (.tup (xs ++ ys)))))
theorem op_catN : OpR X (binaryOp .Add) (rCatN X.K) := by
  intro pins s σ H x y v u Q I rx ry h
  obtain ⟨a, b, xs, ys, rfl, rfl, ha, hb, hz, q0, q1, q2⟩ := h
  cases rx
  cases ry
  obtain ⟨its, rv, tp, _⟩ := I.tuple ha
  obtain ⟨jts, rw, tq, _⟩ := I.tuple hb
  have e1 := rv.length
  have e2 := rw.length
  cases its with
  | nil =>
    have hx : xs = [] := List.eq_nil_of_length_eq_zero (by simpa using e1)
    exact cat_tup0 tp tq ⟨.ref b, H, I, rfl, q0 hx⟩
  | cons i0 its =>
    have hx : xs ≠ [] := fun z => by rw [z] at e1; cases e1
    refine HT.cat_tup tp tq (fun z => nomatch z) (fun z => ⟨.ref a, H, I, rfl, q1 hx ?_⟩) (fun _ => laidP I (rv.append rw) (by rw [List.length_append]; exact hz) q2) (by rw [← e1, ← e2]; exact hz)
    rw [z] at e2
    exact List.eq_nil_of_length_eq_zero e2
def rSlN (K : PySem.W.Frag) : V → Option Int → Option Int → Hp → VK → Prop := fun x lo hi H Q => ∃ a xs, x = .ref a ∧ SqT K H a xs ∧
  (HT.sIx xs.length 0 lo = 0 ∧ HT.sIx xs.length xs.length hi = xs.length → Q (.ref a) H) ∧ ∀ p o, H p = none → o.dict = none → Q (.ref p) (upd H p (.frz o (.tup (cutV xs lo hi))))
theorem sl_tupN : SlR X (rSlN X.K) := by
  intro pins s σ H x v vl vu lo hi sl Q I rx hs pl pu h
  obtain ⟨a, xs, rfl, hx, q1, q2⟩ := h
  by_cases hw : HT.sIx xs.length 0 lo = 0 ∧ HT.sIx xs.length xs.length hi = xs.length
  · exact sl_tupA pins s σ H _ v vl vu lo hi sl Q I rx hs pl pu ⟨a, xs, rfl, hx, q1, fun z => absurd hw z⟩
  · cases rx
    obtain ⟨its, rv, tp, hz⟩ := I.tuple hx
    have el : its.toArray.size = xs.length := by rw [List.size_toArray]; exact rv.length.symm
    refine ⟨"tuple", _, PyProof.Rows.slot_tuple_getitem.lookup, tp.typeIs, ?_⟩
    refine HT.getItem_tuple_cut tp hs pl pu (by rw [el]; exact hw) ?_ (by rw [el]; exact hz)
    rw [el]
    exact laidP I ((rv.drop _).take _) (Nat.le_trans (cutV_length xs lo hi) hz) q2
/-- t * 1: t itself -/
theorem tup_mul_same (l : Addr) (items : Array Value) (n : Nat) (dd : Option Addr) (sl : Array (Option Value)) (x : Int) (u : Tok) (c0 : (decide (x < -(2 ^ 63)) || decide (x ≥ 2 ^ 63)) = false) (c1 : (items.isEmpty || x == 1) = true) :
    Meets (Builtin.«tuple.__mul__» ⟨[.ref l, .int x u], []⟩) (fun _ R s => s.heap.get? l = some { cls := .type "tuple", dict := dd, data := .seq items n, slots := sl } ∧ R (.ok (.ret (Value.ref l))) s) :=
  .of_wp fun prog w A R s h => by
    obtain ⟨hp, g, d, tk, os⟩ := s
    obtain ⟨hl, h⟩ := h
    have f1 := AutoSeq1.idx_int
    wp_walk using AutoSeq1.wpAny_loadPart' hl
    repeat (first
      | (refine wpAny_ite_false (decide_eq_false (by rw [c0]; decide)) ?_; wp_walk using AutoSeq1.wpAny_loadPart' hl)
      | (refine wpAny_ite_true (decide_eq_true c1) ?_; wp_walk using AutoSeq1.wpAny_loadPart' hl))
    exact ⟨_, rfl, h⟩
def rRepN (K : PySem.W.Frag) : R2 := fun x y H Q => ∃ l k xs, x = .ref l ∧ y = .int k ∧ SqT K H l xs ∧ xs ≠ [] ∧ 1 ≤ k ∧ k ≤ 1000 ∧ xs.length ≤ 1000 ∧ (k = 1 → Q (.ref l) H) ∧ ∀ p o, H p = none → o.dict = none → Q (.ref p) (upd H p (.frz o (.tup (List.replicate k.toNat xs).flatten)))
theorem op_repN : OpR X (binaryOp .Mult) (rRepN X.K) := by
  intro pins s σ H x y v u Q I rx ry h
  obtain ⟨l, k, xs, rfl, rfl, hT, hne, k1, k2, hz, q1, q2⟩ := h
  cases rx
  obtain ⟨t, rfl⟩ := ry
  obtain ⟨its, rv, ⟨⟨cls, dd, data, sl⟩, ho, hc, n, hd⟩, hs⟩ := I.tuple hT
  simp only at hc hd
  subst hc hd
  have el : its.length = xs.length := rv.length.symm
  have fe : its.toArray.isEmpty = false := by
    cases its with
    | nil => exact absurd (List.eq_nil_of_length_eq_zero el.symm) hne
    | cons _ _ => rfl
  have g0 : (decide (k < -(2 ^ 63)) || decide (k ≥ 2 ^ 63)) = false := by
    simp only [Bool.or_eq_false_iff, decide_eq_false_iff_not]
    exact ⟨by omega, by omega⟩
  by_cases hk : k = 1
  · refine wpAny_binaryOp_repeat_ref (T := "tuple") (U := "int") (by decide) ⟨_, ho, rfl⟩ (fun s' => typeIs_int s' k t) noFill_tuple_mul F.fills_int_mul F.slot_int_rmul repeat_tuple F.slot_int_index.lookup
      (call_meets F.slot_int_rmul (typeIs_int s k t) F.entry_int_rmul (F.args_int_rmul_2 _ _) (int_rmul_tuple k t l its.toArray n dd sl) ⟨ho, rfl, ⟨_, ho, rfl⟩, ?_⟩)
    exact call_meets F.slot_tuple_mul ⟨_, ho, rfl⟩ F.entry_tuple_mul (F.args_tuple_mul_2 _ _) (tup_mul_same l its.toArray n dd sl k t g0 (by rw [hk]; simp)) ⟨ho, ⟨.ref l, H, I, rfl, q1 hk⟩⟩
  · have g1 : (its.toArray.isEmpty || k == 1) = false := by
      rw [fe, Bool.false_or]
      exact beq_eq_false_iff_ne.mpr hk
    have g2 : (decide (k ≤ 0) || its.toArray.isEmpty) = false := by
      rw [fe, Bool.or_false]
      exact decide_eq_false (by omega)
    have es : its.toArray.size = xs.length := by rw [List.size_toArray, el]
    have a1 : ((xs.length : Nat) : Int) * k ≤ 1000 * 1000 := Int.mul_le_mul (by omega) (by omega) (by omega) (by omega)
    have a2 : k.toNat * xs.length ≤ 1000 * 1000 := Nat.mul_le_mul (by omega) hz
    have fl : (List.replicate k.toNat xs).flatten.length ≤ sizeLine := by
      rw [PyProof.Rows.lm_len_rep_flat, sizeLine_eq]
      omega
    have fl' : (List.replicate k.toNat its).flatten.length ≤ sizeLine := by
      rw [PyProof.Rows.lm_len_rep_flat, el, sizeLine_eq]
      omega
    refine wpAny_binaryOp_repeat_ref (T := "tuple") (U := "int") (by decide) ⟨_, ho, rfl⟩ (fun s' => typeIs_int s' k t) noFill_tuple_mul F.fills_int_mul F.slot_int_rmul repeat_tuple F.slot_int_index.lookup
      (call_meets F.slot_int_rmul (typeIs_int s k t) F.entry_int_rmul (F.args_int_rmul_2 _ _) (int_rmul_tuple k t l its.toArray n dd sl) ⟨ho, rfl, ⟨_, ho, rfl⟩, ?_⟩)
    refine call_meets F.slot_tuple_mul ⟨_, ho, rfl⟩ F.entry_tuple_mul (F.args_tuple_mul_2 _ _) (tuple_mulW l its.toArray n dd sl k t g0 g1 g2 (by rw [es]; omega) ?_ (by rw [size_rep, List.size_toArray]; exact fl')) ⟨ho, ?_⟩
    · unfold Builtin.Tuple.tupleTooMany
      rw [sizeLine_eq, es]
      exact decide_eq_false (by omega)
    · rw [size_rep]
      exact laidP I (rv.rep k.toNat) fl q2
/-! ### tuple(x) -/
theorem call_tupleN : CallR X (.type "tuple") (fun xs H Q => ∃ p ys, xs = [.ref p] ∧ ((SqL X.K H p ys ∧ ∀ l o, H l = none → o.dict = none → Q (.ref l) (upd H l (.frz o (.tup ys)))) ∨ (SqT X.K H p ys ∧ Q (.ref p) H))) := by
  intro pins s σ H xs us Q I r h
  obtain ⟨p, ys, rfl, h⟩ := h
  obtain ⟨u, rfl, rx⟩ := vals1 r
  cases rx
  rcases h with ⟨hq, q⟩ | ⟨hq, q⟩
  · obtain ⟨its, rv, pl, hz⟩ := I.list hq
    have el := rv.length
    refine call_tuple_list pl.isList (fun h' kp => ?_) (by simp only [List.size_toArray]; omega)
    have I1 : Inv X pins σ H { s with heap := h' } := I.kept (t' := s.toks) kp
    exact laidP I1 rv hz q
  · obtain ⟨its, rv, tp, hz⟩ := I.tuple hq
    exact call_tuple_same tp ⟨.ref p, H, I, rfl, q⟩
/-! ### methods -/
/-- t.index(y), flat items, the first place -/
def rIxN (K : PySem.W.Frag) : V → List V → Hp → VK → Prop := fun x xs H Q => ∃ (a : Addr) (ys : List V) (y : V) (j : Nat) (z : V), x = V.ref a ∧ xs = [y] ∧ SqT K H a ys ∧ flatV y = true ∧ ys.all flatV = true ∧ ys[j]? = some z ∧ eqV z y = true ∧
  (∀ (m : Nat) (z' : V), m < j → ys[m]? = some z' → eqV z' y = false) ∧ Q (.int (j : Nat)) H
theorem mt_tupIx : MtR X "tuple.index" (rIxN X.K) := by
  intro pins s σ H x xs v us Q I rx rxs h
  obtain ⟨a, ys, y, j, z, rfl, rfl, hs, fy, fys, hz, hzj, hno, q⟩ := h
  cases rx
  obtain ⟨uy, rfl, ry⟩ := vals1 rxs
  obtain ⟨its, rv, ⟨⟨cls, dd, data, sl⟩, ho, hc, n, hd⟩, hlen⟩ := I.tuple hs
  simp only at hc hd
  subst hc hd
  obtain ⟨u, hu, ru⟩ := rv.get hz
  obtain ⟨hjl, hje⟩ := List.getElem?_eq_some_iff.mp hu
  have hj : j < its.toArray.size := by simpa using hjl
  have e0 := rv.length
  refine call_meets F.slot_tuple_index ⟨_, ho, rfl⟩ F.entry_tuple_index (F.args_tuple_index_2 _ _) (TI.tuple_indexAt a its.toArray n dd sl uy (eqU y) j hj ?_ fun m hm hmj => ?_)
    ⟨ho, fun u' hu' => mem_eqAt ry fy rv fys u' (by simpa using hu'), ⟨.int (j : Nat), H, I.tok _, ⟨_, rfl⟩, q⟩⟩
  · have e1 : its.toArray[j] = u := by simpa using hje
    rw [e1, eqU_of ru (flat_at fys hz), hzj]
  · have hmy : m < ys.length := by
      have : m < its.length := by simpa using hm
      omega
    have hy' : ys[m]? = some ys[m] := List.getElem?_eq_getElem hmy
    obtain ⟨u2, hu2, ru2⟩ := rv.get hy'
    obtain ⟨_, hme⟩ := List.getElem?_eq_some_iff.mp hu2
    have e1 : its.toArray[m] = u2 := by simpa using hme
    rw [e1, eqU_of ru2 (flat_at fys hy')]
    exact hno m _ hmj hy'
/-- the receiver's type is known, it has no dict of its own -/
def Recv (X : Cx) (T : String) (x : V) (H : Hp) : Prop := ∀ {pins : List (Addr × Obj)} {σ : L2.St} {s : Shared} {v : Value}, Inv X pins σ H s → RelV x v → s.TypeIs v T ∧ ∀ a, v = .ref a → ∃ ob, s.heap.get? a = some ob ∧ ob.dict = none
theorem recv_tup {a : Addr} {xs : List V} (h : TupN X.K H a xs) : Recv X "tuple" (.ref a) H := fun I r => by
  cases r
  obtain ⟨o, its, n, h1, h2, h3, _⟩ := tupN_obj I h
  exact ⟨⟨o, h1, h2⟩, fun b e => by cases e; exact ⟨o, h1, h3⟩⟩
theorem recv_lst {a : Addr} {xs : List V} (h : SqL X.K H a xs) : Recv X "list" (.ref a) H := fun I r => by
  cases r
  obtain ⟨its, _, pl, _⟩ := I.list h
  refine ⟨pl.isList.typeIs, fun b e => ?_⟩
  cases e
  obtain ⟨o, n, e, c, hd, _⟩ := pl
  exact ⟨o, e, hd⟩
/-- a method, by the receiver's type -/
def tMeth (X : Cx) (T : String) (r : V → List V → Hp → VK → Prop) (to : TE) (t : TA) : TE := fun σ H Q => to σ H fun x H1 => Recv X T x H1 ∧ t σ H1 fun xs H2 => r x xs H2 Q
theorem pe_methN {o e : Expr} {es : List Expr} {to : TE} {t : TA} {name : Str} {apos cpos : Pos} {T id : String} {r : V → List V → Hp → VK → Prop} (pa : PlainAttrs T) (slot : PySem.Slot T name id) (hty : typeOf (.builtin id) = pure (.type "method_descriptor")) (hm : MtR X id r) (ho : PE X o to) (ha : PA X (e :: es) t)
    (hb : attributeBase o name X.env (eval o X.env) = eval o X.env) (hl : (apos.endLine == cpos.line) = true) (hn : es.length < 20) (hs : ∀ y ∈ e :: es, ∀ z q, y ≠ Expr.Starred z q) (h1 : starEach (e :: es) X.env = (false, eval e X.env) :: starEach es X.env) (h2 : (backTo cpos (starEach (e :: es) X.env)).all (fun x => !x.1) = true) :
    PE X (.Call (.Attribute o name apos) (e :: es) [] cpos) (tMeth X T r to t) := by
  refine ⟨fun pins s σ H Q I h => ?_⟩
  have few : ((backTo cpos (starEach (e :: es) X.env)).all (fun x => !x.1) && (backToKw cpos (keywordEach [] X.env)).all (fun x => x.1.isSome) && decide ((e :: es).length + ([] : List Keyword).length + (if ([] : List Keyword).isEmpty then 0 else 1) < 30)) = true := by
    rw [h2]
    simp only [Bool.true_and, Bool.and_eq_true, decide_eq_true_eq]
    exact ⟨rfl, by simp; omega⟩
  refine wpAny_Call_method_late hb few hl rfl (thn (ho.run pins s σ H _ I h) fun v s1 ⟨x, H1, I1, rx, ty, q⟩ => ?_)
  obtain ⟨g1, g2⟩ := ty I1 rx
  refine ⟨T, id, pa, slot, hty, g1, g2, ?_⟩
  have hA := ha.run cpos pins s1 σ H1 _ I1 q
  rw [h1] at h2 hA ⊢
  have pl : (backTo cpos ((false, eval e X.env) :: starEach es X.env)).any (·.1) = false := by
    rw [List.any_eq_false]
    intro z hz
    have := List.all_eq_true.mp h2 z hz
    simpa using this
  exact Calls.callWith_builtin pl (Calls.evalArgs_plain (thn hA fun us s2 ⟨vs, H2, I2, r2, q2⟩ => hm pins s2 σ H2 x vs v us Q I2 rx r2 q2))
end
end MP

/-! Mini, part D0: dicts whose keys are tuples of ints. -/
set_option linter.all false
set_option Elab.async false
set_option maxRecDepth 100000
set_option maxHeartbeats 4000000
namespace MP
open PySem PySem.Spec PyProof.Rows L2
/-- an entry: the key's items, its tuple, the value -/
abbrev TEnt := List Int × Addr × Value
def hashT (ks : List Int) : Int := reduceHash (Builtin.Tuple.tupleHashOf (ks.map hashInt))
def entT (x : TEnt) : DictEntry := ⟨hashT x.1, .ref x.2.1, x.2.2⟩
/-- what is true of such a dict's own object -/
def DRaw (d : Addr) (xs : List TEnt) (h : Heap) : Prop := (d == sysModules) = false ∧ xs.length ≤ sizeLine ∧ ∃ o es ep, h.get? d = some o ∧ o.ExactDict ∧ o.data = .dict es ep ∧ es.toList = xs.map entT ∧ (xs.map (·.1)).Nodup
abbrev hoT (d : Addr) (xs : List TEnt) : HO := .ext (DRaw d xs)
theorem hoT_ok {P : Program} {w : World} {H : Hp} {h : Heap} {d : Addr} {xs : List TEnt} (r : DRaw d xs h) : ObjOk P w H h d (hoT d xs) :=
  ⟨r, let ⟨_, _, o, _, _, e, _⟩ := r; ⟨o, e⟩, fun h1 h2 p k => let ⟨a, b, o, es, ep, e, q⟩ := p; ⟨a, b, o, es, ep, k o e, q⟩⟩
/-- the dict at d, its own or one that stays -/
def TDic (K : PySem.W.Frag) (H : Hp) (d : Addr) (xs : List TEnt) : Prop := (H d = some (hoT d xs) ∨ ∃ o, H d = some (.frz o (hoT d xs))) ∧ ∀ x ∈ xs, SqT K H x.2.1 (x.1.map V.int)
def mixE (x : TEnt) : List Key × Addr × Value := (x.1.map .inl, x.2.1, x.2.2)
theorem inl_inj : ∀ {a b : List Int}, (a.map Sum.inl : List Key) = b.map Sum.inl → a = b
  | [], [], _ => rfl
  | [], _ :: _, e => by simp at e
  | _ :: _, [], e => by simp at e
  | x :: a, y :: b, e => by
    simp only [List.map_cons, List.cons.injEq, Sum.inl.injEq] at e
    rw [e.1, inl_inj e.2]
section
variable {X : Cx} {pins : List (Addr × Obj)} {σ : L2.St} {H : Hp} {s : Shared} {d b : Addr} {xs : List TEnt} {ks : List Key} {A : Around} {E : Value → Shared → Prop}
theorem mix_ent (P : Program) (w : World) (x : TEnt) : entryOfKey (tupleKind (mixKind P w)) (mixE x) = entT x := by
  show DictEntry.mk (reduceHash (Builtin.Tuple.tupleHashOf ((x.1.map Sum.inl).map (keyH w)))) _ _ = DictEntry.mk (reduceHash (Builtin.Tuple.tupleHashOf (x.1.map hashInt))) _ _
  rw [List.map_map]
  rfl
theorem key_is (I : Inv X pins σ H s) (h : SqT X.K H b (ks.map kV)) : (tupleKind (mixKind X.prog X.w)).is s.heap ks b := by
  obtain ⟨its, rv, ⟨o, h1, h2, n, h3⟩, _⟩ := I.tuple h
  exact ⟨o, its.toArray, n, h1, h2, h3, by simpa using items_are rv⟩
theorem key_int (I : Inv X pins σ H s) {ns : List Int} (h : SqT X.K H b (ns.map V.int)) : (tupleKind (mixKind X.prog X.w)).is s.heap (ns.map Sum.inl) b := by
  refine key_is I ?_
  rw [List.map_map]
  exact h
theorem TDic.raw (t : TDic X.K H d xs) (I : Inv X pins σ H s) : DRaw d xs s.heap := by
  rcases t.1 with e | ⟨o, e⟩
  · exact (I.hok d _ e).1
  · exact (I.hok d _ e).2.1
theorem TDic.dic (t : TDic X.K H d xs) (I : Inv X pins σ H s) : (d == sysModules) = false ∧ xs.length ≤ sizeLine ∧ s.heap.DictOfH (tupleKind (mixKind X.prog X.w)) d (xs.map mixE) := by
  obtain ⟨z, n, o, es, ep, h1, h2, h3, h4, h5⟩ := t.raw I
  refine ⟨z, n, o, es, ep, h1, h2, h3, ?_, fun x hx => ?_, ?_⟩
  · rw [h4, List.map_map]
    exact List.map_congr_left fun x _ => (mix_ent _ _ x).symm
  · obtain ⟨y, hy, rfl⟩ := List.mem_map.mp hx
    exact key_int I (t.2 y hy)
  · rw [List.map_map]
    have : (fun x : List Key × Addr × Value => x.1) ∘ mixE = (fun a : List Int => (a.map Sum.inl : List Key)) ∘ (fun x : TEnt => x.1) := rfl
    rw [this, ← List.map_map]
    exact List.Pairwise.map _ (fun a b h e => h (inl_inj e)) h5
def lookT (xs : List TEnt) (ks : List Key) : Option Value := (atKey (xs.map mixE) ks).map (·.2)
/-- d[t] -/
def rGetT (K : PySem.W.Frag) : R2 := fun x y H Q => ∃ d b xs ks v w, x = .ref d ∧ y = .ref b ∧ TDic K H d xs ∧ SqT K H b (ks.map kV) ∧ lookT xs ks = some w ∧ RelV v w ∧ Q v H
theorem ix_getT (hu : X.A.units + 1 < cLine) : IxR X (rGetT X.K) := by
  intro value slice pins s σ H x y v u Q I rx ry h hs
  obtain ⟨d, b, xs, ks, v', w, rfl, rfl, t, hk, hl, rv, q⟩ := h
  cases rx
  cases ry
  obtain ⟨z, n, dd⟩ := t.dic I
  obtain ⟨p, hp, hp2⟩ := Option.map_eq_some_iff.mp hl
  exact subscriptTail_builtinR (x := w) dd.typeIs slot_dict_getitem.lookup (wpAny_getItem_heap (tupleKind_room_in1 hu) (key_is I hk) dd hp ⟨hp2, v', H, I.tok _, by rw [hp2]; exact rv, q⟩) hs
/-- d[i], an int key -/
def rGetK : R2 := fun x y H Q => ∃ d i kvs v, x = .ref d ∧ y = .int i ∧ Rd H d (.dK kvs) ∧ valV kvs (.inl i) = some v ∧ Q v H
theorem ix_getK : IxR X rGetK := by
  intro value slice pins s σ H x y v u Q I rx ry h hs
  obtain ⟨d, i, kvs, v', rfl, rfl, e, hl, q⟩ := h
  cases rx
  obtain ⟨z, hd, vs, rel, dd⟩ := dk_rd I.hok e
  obtain ⟨w, hw, rw⟩ := RelO.some_of (v := v') (o := valueAt vs (.inl i)) (by rw [← hl]; exact rel.val (.inl i))
  exact subscriptTail_builtinR (x := w) dd.typeIs slot_dict_getitem.lookup (wpAny_getItem_of (kV_is (k := .inl i) ry) dd.mapOf hw ⟨rfl, v', H, I.tok _, rw, q⟩) hs
/-- i in d, an int key -/
def rInK (neg : Bool) : R2 := fun x y H Q => ∃ d i kvs, y = .ref d ∧ x = .int i ∧ Rd H d (.dK kvs) ∧ Q (.bl (if neg then !(valV kvs (.inl i)).isSome else (valV kvs (.inl i)).isSome)) H
theorem op_inK (hu : X.A.units + 1 < cLine) : OpR X (compareOp .In) (rInK false) := by
  intro pins s σ H x y v u Q I rx ry h
  obtain ⟨d, i, kvs, rfl, rfl, e, q⟩ := h
  cases ry
  exact d_in hu I (.inl ⟨kvs, .inl i, e, rfl, rfl⟩) rx fun s' I' => ⟨.bl (valV kvs (.inl i)).isSome, H, I', rfl, q⟩
theorem op_notinK (hu : X.A.units + 1 < cLine) : OpR X (compareOp .NotIn) (rInK true) := by
  intro pins s σ H x y v u Q I rx ry h
  obtain ⟨d, i, kvs, rfl, rfl, e, q⟩ := h
  cases ry
  exact d_notIn hu I (.inl ⟨kvs, .inl i, e, rfl, rfl⟩) rx fun s' I' => ⟨.bl (!(valV kvs (.inl i)).isSome), H, I', rfl, q⟩
/-- t in d -/
def rInT (K : PySem.W.Frag) (neg : Bool) : R2 := fun x y H Q => ∃ d b xs ks, y = .ref d ∧ x = .ref b ∧ TDic K H d xs ∧ SqT K H b (ks.map kV) ∧ Q (.bl (if neg then !(lookT xs ks).isSome else (lookT xs ks).isSome)) H
theorem op_inT (hu : X.A.units + 1 < cLine) : OpR X (compareOp .In) (rInT X.K false) := by
  intro pins s σ H x y v u Q I rx ry h
  obtain ⟨d, b, xs, ks, rfl, rfl, t, hk, q⟩ := h
  cases rx
  cases ry
  obtain ⟨z, n, dd⟩ := t.dic I
  refine wpAny_in_heap (tupleKind_room_in1 hu) (key_is I hk) z dd ⟨_, H, I.tok _, ?_, q⟩
  unfold lookT
  rw [Option.isSome_map]
  rfl
theorem op_notinT (hu : X.A.units + 1 < cLine) : OpR X (compareOp .NotIn) (rInT X.K true) := by
  intro pins s σ H x y v u Q I rx ry h
  obtain ⟨d, b, xs, ks, rfl, rfl, t, hk, q⟩ := h
  cases rx
  cases ry
  obtain ⟨z, n, dd⟩ := t.dic I
  refine wpAny_notIn_heap (tupleKind_room_in1 hu) (key_is I hk) z dd ⟨_, H, I.tok _, ?_, q⟩
  unfold lookT
  rw [Option.isSome_map]
  rfl
/-- d[t] = v -/
def putT (xs : List TEnt) (k : List Int) (a : Addr) (v : Value) : List TEnt := if (xs.find? fun x => decide (x.1 = k)).isSome then xs.map (fun x => if x.1 = k then (x.1, x.2.1, v) else x) else xs ++ [(k, a, v)]
theorem mix_find (xs : List TEnt) (k : List Int) : (atKey (xs.map mixE) (k.map Sum.inl)) = (xs.find? fun x => decide (x.1 = k)).map (·.2) := by
  unfold atKey
  rw [List.find?_map, Option.map_map]
  have : (fun x : List Key × Addr × Value => decide (x.1 = k.map Sum.inl)) ∘ mixE = fun x : TEnt => decide (x.1 = k) := by
    funext x
    show decide ((x.1.map Sum.inl : List Key) = k.map Sum.inl) = decide (x.1 = k)
    rw [Bool.eq_iff_iff]
    simp only [decide_eq_true_eq]
    exact ⟨inl_inj, fun e => by rw [e]⟩
  rw [this]
  rfl
theorem mix_put (xs : List TEnt) (k : List Int) (a : Addr) (v : Value) : storedH (xs.map mixE) (k.map Sum.inl) a v = (putT xs k a v).map mixE := by
  unfold storedH putT
  rw [mix_find, Option.isSome_map]
  split
  · rw [List.map_map, List.map_map]
    refine List.map_congr_left fun x _ => ?_
    show putAt (k.map Sum.inl) v (mixE x) = mixE (if x.1 = k then (x.1, x.2.1, v) else x)
    unfold putAt
    by_cases e : x.1 = k
    · rw [if_pos e, if_pos (show (mixE x).1 = k.map Sum.inl by rw [← e]; rfl)]
      rfl
    · rw [if_neg e, if_neg (show ¬ (mixE x).1 = k.map Sum.inl from fun z => e (inl_inj z))]
  · rw [List.map_append]
    rfl
theorem put_len (xs : List TEnt) (k : List Int) (a : Addr) (v : Value) : (putT xs k a v).length ≤ xs.length + 1 := by
  unfold putT
  split <;> simp
theorem raw_of {P : Program} {w : World} {h : Heap} (z : (d == sysModules) = false) (n : xs.length ≤ sizeLine) (dd : h.DictOfH (tupleKind (mixKind P w)) d (xs.map mixE)) : DRaw d xs h := by
  obtain ⟨o, es, ep, h1, h2, h3, h4, _, h5⟩ := dd
  refine ⟨z, n, o, es, ep, h1, h2, h3, ?_, ?_⟩
  · rw [h4, List.map_map]
    exact List.map_congr_left fun x _ => mix_ent _ _ x
  · rw [List.map_map] at h5
    have e : (fun x : List Key × Addr × Value => x.1) ∘ mixE = (fun a : List Int => (a.map Sum.inl : List Key)) ∘ (fun x : TEnt => x.1) := rfl
    rw [e, ← List.map_map] at h5
    unfold List.Nodup at h5
    rw [List.pairwise_map] at h5
    exact h5.imp fun h e => h (by rw [e])
theorem t_setItem {k : List Int} {v : V} {u : Value} {Q : Unit → Shared → Prop} (hu : A.units + 1 < cLine) (I : Inv X pins σ H s) (e : H d = some (hoT d xs)) (t : TDic X.K H d xs) (hk : SqT X.K H b (k.map V.int)) (hl : xs.length < sizeLine) (rv : RelV v u)
    (h : ∀ s', Inv X pins σ (upd H d (hoT d (putT xs k b u))) s' → Q () s') : wpAny (model X.prog X.w) A (setItem (.ref d) (.ref b) u) Q E s := by
  obtain ⟨z, n, dd⟩ := t.dic I
  refine wpAny_setItem_heap (hsz := by simpa using n) (tupleKind_room_in1 hu) (key_int I hk) dd fun h' dd' sb => h _ ?_
  rw [mix_put] at dd'
  have hd' : ∃ q, h'.get? d = some q := let ⟨q, _, _, hq, _⟩ := dd'; ⟨q, hq⟩
  exact d_write I (by rw [e]; trivial) sb hd' (hoT_ok (raw_of z (by have := put_len xs k b u; omega) dd'))
/-- any of the two kinds -/
def isDic (H : Hp) (d : Addr) : Prop := (∃ kvs, Rd H d (.dK kvs)) ∨ ∃ xs, H d = some (hoT d xs) ∨ ∃ o, H d = some (.frz o (hoT d xs))
theorem recv_dic (h : isDic H d) : Recv X "dict" (.ref d) H := fun {pins σ s v} I r => by
  cases r
  have key : ∃ o : Obj, s.heap.get? d = some o ∧ o.ExactDict := by
    rcases h with ⟨kvs, e⟩ | ⟨xs, e⟩
    · obtain ⟨_, _, vs, _, o, _, _, h1, h2, _⟩ := dk_rd I.hok e
      exact ⟨o, h1, h2⟩
    · have : DRaw d xs s.heap := by
        rcases e with e | ⟨o, e⟩
        · exact (I.hok d _ e).1
        · exact (I.hok d _ e).2.1
      obtain ⟨_, _, o, _, _, h1, h2, _⟩ := this
      exact ⟨o, h1, h2⟩
  obtain ⟨o, h1, h2⟩ := key
  exact ⟨⟨o, h1, h2.1⟩, fun b e => by cases e; exact ⟨o, h1, h2.2.1⟩⟩
/-- d.get(t), d.get(t, x) -/
def rG1T (K : PySem.W.Frag) : V → List V → Hp → VK → Prop := fun x xs H Q => ∃ d b es ks, x = .ref d ∧ xs = [.ref b] ∧ TDic K H d es ∧ SqT K H b (ks.map kV) ∧ (∀ w, lookT es ks = some w → ∃ v, RelV v w ∧ Q v H) ∧ (lookT es ks = none → Q .non H)
theorem mt_g1T (hu : X.A.units + 1 < cLine) : MtR X "dict.get" (rG1T X.K) := by
  intro pins s σ H x xs v us Q I rx rxs h
  obtain ⟨d, b, es, ks, rfl, rfl, t, hk, q1, q2⟩ := h
  cases rx
  obtain ⟨u, rfl, ru⟩ := vals1 rxs
  cases ru
  obtain ⟨z, n, dd⟩ := t.dic I
  refine call_meetsIn PySem.F.slot_dict_get dd.typeIs PySem.F.entry_dict_get (PySem.F.args_dict_get_2 _ _) (meetsH_dict_get (tupleKind (mixKind X.prog X.w)) d b z) ⟨tupleKind_room_in1 hu, ks, _, key_is I hk, dd, ?_⟩
  cases e : lookT es ks with
  | none =>
    have e' : (atKey (es.map mixE) ks).map (·.2) = none := e
    rw [e']
    exact ⟨.non, H, I.tok _, rfl, q2 e⟩
  | some w =>
    have e' : (atKey (es.map mixE) ks).map (·.2) = some w := e
    rw [e']
    obtain ⟨v, rv, q⟩ := q1 w e
    exact ⟨v, H, I.tok _, rv, q⟩
def rG2T (K : PySem.W.Frag) : V → List V → Hp → VK → Prop := fun x xs H Q => ∃ d b es ks y, x = .ref d ∧ xs = [.ref b, y] ∧ TDic K H d es ∧ SqT K H b (ks.map kV) ∧ (∀ w, lookT es ks = some w → ∃ v, RelV v w ∧ Q v H) ∧ (lookT es ks = none → Q y H)
theorem mt_g2T (hu : X.A.units + 1 < cLine) : MtR X "dict.get" (rG2T X.K) := by
  intro pins s σ H x xs v us Q I rx rxs h
  obtain ⟨d, b, es, ks, y, rfl, rfl, t, hk, q1, q2⟩ := h
  cases rx
  obtain ⟨u, r, rfl, ru, rr⟩ := rxs.two
  cases ru
  obtain ⟨z, n, dd⟩ := t.dic I
  refine call_meetsIn PySem.F.slot_dict_get dd.typeIs PySem.F.entry_dict_get (PySem.F.args_dict_get_3 _ _ _) (meetsH_dict_get_default (tupleKind (mixKind X.prog X.w)) d b z r) ⟨tupleKind_room_in1 hu, ks, _, key_is I hk, dd, ?_⟩
  cases e : lookT es ks with
  | none =>
    have e' : (atKey (es.map mixE) ks).map (·.2) = none := e
    rw [e']
    exact ⟨y, H, I.tok _, rr, q2 e⟩
  | some w =>
    have e' : (atKey (es.map mixE) ks).map (·.2) = some w := e
    rw [e']
    obtain ⟨v, rv, q⟩ := q1 w e
    exact ⟨v, H, I.tok _, rv, q⟩
/-- .. of an int key -/
def rG1K : V → List V → Hp → VK → Prop := fun x xs H Q => ∃ d i kvs, x = .ref d ∧ xs = [.int i] ∧ Rd H d (.dK kvs) ∧ Q ((valV kvs (.inl i)).getD .non) H
theorem mt_g1K (hu : X.A.units + 1 < cLine) : MtR X "dict.get" rG1K := by
  intro pins s σ H x xs v us Q I rx rxs h
  obtain ⟨d, i, kvs, rfl, rfl, e, q⟩ := h
  cases rx
  obtain ⟨u, rfl, ru⟩ := vals1 rxs
  exact d_get1 hu I (.inl ⟨kvs, .inl i, e, rfl, rfl⟩) ru fun w' s' I' rw' => ⟨_, H, I', rw', q⟩
def rG2K : V → List V → Hp → VK → Prop := fun x xs H Q => ∃ d i kvs y, x = .ref d ∧ xs = [.int i, y] ∧ Rd H d (.dK kvs) ∧ Q ((valV kvs (.inl i)).getD y) H
theorem mt_g2K (hu : X.A.units + 1 < cLine) : MtR X "dict.get" rG2K := by
  intro pins s σ H x xs v us Q I rx rxs h
  obtain ⟨d, i, kvs, y, rfl, rfl, e, q⟩ := h
  cases rx
  obtain ⟨u, r, rfl, ru, rr⟩ := rxs.two
  exact d_get2 hu I (.inl ⟨kvs, .inl i, e, rfl, rfl⟩) ru rr fun w' s' I' rw' => ⟨_, H, I', rw', q⟩
/-- len(d) -/
def rLenD (K : PySem.W.Frag) : List V → Hp → VK → Prop := fun xs H Q => ∃ d, xs = [.ref d] ∧ ((∃ es, TDic K H d es ∧ Q (.int (es.length : Nat)) H) ∨ ∃ kvs, Rd H d (.dK kvs) ∧ Q (.int (kvs.length : Nat)) H)
theorem call_lenD : CallR X (.builtin "len") (rLenD X.K) := by
  intro pins s σ H xs us Q I r h
  obtain ⟨d, rfl, h⟩ := h
  obtain ⟨u, rfl, ru⟩ := vals1 r
  cases ru
  rcases h with ⟨es, t, q⟩ | ⟨kvs, e, q⟩
  · obtain ⟨z, n, dd⟩ := t.dic I
    refine call_len_dictH z dd (by rw [List.length_map]; rw [sizeLine_eq] at n; omega) ?_
    rw [List.length_map]
    exact ⟨.int (es.length : Nat), H, I.tok _, ⟨_, rfl⟩, q⟩
  · exact d_len I e fun t s' I' => ⟨.int (kvs.length : Nat), H, I', ⟨_, rfl⟩, q⟩
/-! ### {}, {k: v} -/
theorem raw_new (h : Heap) (hb : sysModules < h.objs.size) : DRaw h.objs.size [] (h.push { cls := .type "dict", data := .dict #[] }) :=
  ⟨beq_eq_false_iff_ne.mpr (Nat.ne_of_gt hb), Nat.zero_le _, _, #[], 0, Heap.get?_push_size _ rfl, ⟨rfl, rfl, rfl⟩, rfl, rfl, .nil⟩
def tDic0 : TE := fun _ H Q => ∀ p, H p = none → Q (.ref p) (upd H p (hoT p []))
theorem pe_dic0 {pos : Pos} : PE X (.Dict [] [] pos) tDic0 := ⟨fun pins s σ H Q I h =>
  wpAny_Dict_empty ⟨.ref s.heap.objs.size, _, Inv.laid (t' := s.toks) I (fun _ _ q => Heap.get?_push_of_some _ q) (Nat.le_refl _) (hoT_ok (raw_new s.heap I.big)), rfl, h _ (I.hok.fresh (Nat.le_refl _))⟩⟩
/-- {t: v} -/
def tDic1T (K : PySem.W.Frag) (tk tv : TE) : TE := fun σ H Q => ∀ p, H p = none → tPairs [(tk, tv)] σ (upd H p (hoT p [])) fun ps H2 => H2 p = some (hoT p []) ∧ ∃ b k y, ps = [(.ref b, y)] ∧ SqT K H2 b (k.map V.int) ∧ ∀ w, RelV y w → Q (.ref p) (upd H2 p (hoT p [(k, b, w)]))
theorem pe_dic1T {k v : Expr} {pos : Pos} {tk tv : TE} (hu : X.A.units + 1 < cLine) (hk : PE X k tk) (hv : PE X v tv) : PE X (.Dict [some k] [v] pos) (tDic1T X.K tk tv) := by
  refine ⟨fun pins s σ H Q I q => ?_⟩
  have I0 : Inv X pins σ (upd H s.heap.objs.size (hoT s.heap.objs.size [])) { s with heap := s.heap.push { cls := .type "dict", data := .dict #[] } } := Inv.laid (t' := s.toks) I (fun _ _ q => Heap.get?_push_of_some _ q) (Nat.le_refl _) (hoT_ok (raw_new s.heap I.big))
  have one := (pps_cons (pos := pos) hk hv pps_nil).run pins _ σ _ _ I0 (q _ (I.hok.fresh (Nat.le_refl _)))
  rw [arm_eval_Dict, zip_pairTrees [some k] [v] X.env pos rfl rfl, dictDisplay_pairs (pairTrees [some k] [v] X.env pos) (fun z => by cases z) (by show 1 < 17; decide)]
  refine wpAny_bind (wpAny_standAt (wpAny_bind (wpAny_subDictH (knd := tupleKind (mixKind X.prog X.w)) (Q := fun d s' => wpAny (model X.prog X.w) X.A (pure (Value.ref d)) (EP X pins σ Q) X.xe s') (by show X.A.units < cLine; omega) (by show 1 ≤ 15; decide) (thn one fun ws s1 h1 => ?_))))
  obtain ⟨ps, H2, I2, rel, e, b, k', y, rfl, hb, fin⟩ := h1
  cases rel with
  | cons r0 rt =>
    cases rt
    rename_i p0
    obtain ⟨u, w'⟩ := p0
    obtain ⟨ru, rw'⟩ := r0
    have ru : u = .ref b := ru
    subst ru
    have t2 : TDic X.K H2 s.heap.objs.size [] := ⟨.inl e, fun x hx => nomatch hx⟩
    obtain ⟨z, n, dd⟩ := t2.dic I2
    refine ⟨[(k'.map Sum.inl, b, w')], ⟨rfl, rfl, key_int I2 hb, trivial⟩, dd, fun h' tk hm sb => wpAny_pure ?_⟩
    have hm : h'.DictOfH (tupleKind (mixKind X.prog X.w)) s.heap.objs.size ([(k', b, w')].map mixE) := hm
    have hd' : ∃ q, h'.get? s.heap.objs.size = some q := let ⟨q, _, _, hq, _⟩ := hm; ⟨q, hq⟩
    exact ⟨.ref s.heap.objs.size, _, d_write I2 (by rw [e]; trivial) sb hd' (hoT_ok (raw_of z (by show 1 ≤ sizeLine; decide) hm)), rfl, fin w' rw'⟩
/-! ### for k in d -/
/-- the keys of a dict that stays -/
def ItkT (d : Addr) (o : Obj) (xs : List TEnt) : It where
  go := fun i H => H d = some (.frz o (hoT d xs)) ∧ i < xs.length
  yld := fun i H x H' => H' = H ∧ ∃ e, xs[i]? = some e ∧ x = .ref e.2.1
  stop := fun i H => H d = some (.frz o (hoT d xs)) ∧ xs.length ≤ i
theorem frzD {o : Obj} (I : Inv X pins σ H s) (h : H d = some (.frz o (hoT d xs))) : (d == sysModules) = false ∧ s.heap.get? d = some o ∧ o.ExactDict ∧ ∃ (es : Array DictEntry) (ep : Nat), o.data = .dict es ep ∧ es.toList = xs.map entT := by
  obtain ⟨e, ⟨z, n, o', es, ep, h1, h2, h3, h4, _⟩, _⟩ := I.hok d _ h
  rw [e] at h1
  cases h1
  exact ⟨z, e, h2, es, ep, h3, h4⟩
theorem ent_len {es : Array DictEntry} (h : es.toList = xs.map entT) : es.size = xs.length := by
  have := congrArg List.length h
  simpa using this
theorem turn_kT {P : Program} {w : World} {K : PySem.W.Frag} {tg : Expr} {o : Obj} {es : Array DictEntry} {ep : Nat} (it : Addr) (hod : o.data = .dict es ep) (he : es.toList = xs.map entT) : Turn P w K tg (ItkT d o xs) [it] it (fun i h => h.IsKeyIter it d i xs.length ep) where
  mem := by simp
  obj := fun i h st b hb => by
    obtain rfl : b = it := by simpa using hb
    obtain ⟨oi, e, c, dd⟩ := st
    exact ⟨oi, e, fun v z => by rw [dd] at z; cases z⟩
  keep := fun i h h' st k => st.at fun oi e => k it (by simp) oi e
  item := by
    intro X hP hw hK hc i pins s σ H E I hf st hg
    subst hP hw hK
    obtain ⟨hd, hi⟩ := hg
    obtain ⟨f0, f1, f2, f3, f4, f5⟩ := hf it (by simp)
    obtain ⟨hs, hgd, hx, es', ep', hdt, het⟩ := frzD I hd
    obtain ⟨rfl, rfl⟩ := dict_ep hod hdt
    have en : es'[i]? = some (entT xs[i]) := by rw [← Array.getElem?_toList, het, List.getElem?_map, List.getElem?_eq_getElem hi]; rfl
    refine next_key_item st hgd hdt (ent_len het) en fun h' st' sb => ?_
    have I1 : Inv X pins σ H { s with heap := h' } := I.turned (t' := s.toks) (fun b ob hb e => (sb.2 b hb).trans e) f0 f1 f3 f4 f5
    obtain ⟨oi, e, c, dd⟩ := id st'
    exact ⟨_, rfl, go_of (s := { s with heap := h' }) e c dd (by decide) ⟨.ref xs[i].2.1, H, I1, rfl, ⟨rfl, xs[i], List.getElem?_eq_getElem hi, rfl⟩, st', fun b hb => (hf b hb).1⟩⟩
  done := by
    intro X hP hw hK hc i pins s σ H E I hf st hg
    subst hP hw hK
    obtain ⟨hd, hi⟩ := hg
    obtain ⟨f0, f1, f2, f3, f4, f5⟩ := hf it (by simp)
    obtain ⟨hs, hgd, hx, es', ep', hdt, het⟩ := frzD I hd
    obtain ⟨rfl, rfl⟩ := dict_ep hod hdt
    exact next_key_end (I.ok.hd hc) st hgd hdt (ent_len het) hi fun h' eb => ⟨rfl, I.turned (t' := s.toks) (fun b ob hb e => eb b ob hb e) f0 f1 f3 f4 f5⟩
  self := fun A i s Q E st h => by
    refine wpAny_pyIter_slot st.typeIs F.slot_dict_keyiterator_iter (wpAny_call_entry F.slot_dict_keyiterator_iter st.typeIs F.entry_dict_keyiterator_iter ?_ (F.args_dict_keyiterator_iter_1 _))
    exact wpAny_pure ⟨_, rfl, "dict_keyiterator", _, st.typeIs, F.slot_dict_keyiterator_next.lookup, h⟩
def iKeysT (td : TE) : TI := fun σ H R => td σ H fun x H1 => ∃ d o, x = .ref d ∧ ((∃ kvs, H1 d = some (.frz o (.dK kvs)) ∧ R (Itk d o kvs) H1) ∨ ∃ xs, H1 d = some (.frz o (hoT d xs)) ∧ R (ItkT d o xs) H1)
theorem pi_keysT {tg e : Expr} {td : TE} (he : PE X e td) : PI X tg e (iKeysT td) := by
  refine ⟨fun pins s σ H R I h => thn (he.run pins s σ H _ I h) fun u s1 ⟨x, H1, I1, rx, d, o, ex, q⟩ => ?_⟩
  subst ex
  obtain rfl : u = Value.ref d := rx
  rcases q with ⟨kvs, hd, q⟩ | ⟨xs, hd, q⟩
  · obtain ⟨hs, hgd, hx, es, ep, vs, hdt, hsz, kv, hm⟩ := I1.frzK hd
    exact iter_keys hs hgd hx hdt (pi_one (tk := s1.toks) I1 _ (turn_keys _ hdt) ⟨_, Heap.get?_push_size _ rfl, rfl, by rw [hsz] <;> rfl⟩ q)
  · obtain ⟨hs, hgd, hx, es, ep, hdt, het⟩ := frzD I1 hd
    exact iter_keys hs hgd hx hdt (pi_one (tk := s1.toks) I1 _ (turn_kT _ hdt het) ⟨_, Heap.get?_push_size _ rfl, rfl, by rw [ent_len het] <;> rfl⟩ q)
end
end MP

/-! Mini, part C1: how values lie in the layer's heap; what a reading of a term asks. -/
set_option linter.all false
set_option Elab.async false
set_option maxRecDepth 100000
namespace MP
open PySem PySem.Spec PyProof.Rows L2

def Ext (F G : Hp) : Prop := ∀ a o, F a = some o → G a = some o
theorem Ext.refl (F : Hp) : Ext F F := fun _ _ h => h
theorem Ext.trans {F G H : Hp} (a : Ext F G) (b : Ext G H) : Ext F H := fun x o h => b x o (a x o h)
theorem Ext.upd {H : Hp} {p : Addr} {o : HO} (h : H p = none) : Ext H (L2.upd H p o) := fun a u e => by
  rw [upd_ne (ne_of_none e h)]
  exact e
theorem Ext.upd2 {F H : Hp} {p : Addr} {o : HO} (e : Ext F H) : Ext (L2.upd F p o) (L2.upd H p o) := fun a u h => by
  by_cases hp : a = p
  · subst hp
    rw [upd_same] at h ⊢
    exact h
  · rw [upd_ne hp] at h ⊢
    exact e a u h
theorem Ext.none {F H : Hp} (e : Ext F H) {p : Addr} (h : H p = none) : F p = none := by
  cases q : F p with
  | none => rfl
  | some o =>
    rw [e p o q] at h
    cases h
theorem ext_rd {F H : Hp} {a : Addr} {u : HO} (e : Ext F H) (h : Rd F a u) : Rd H a u := by
  rcases h with h | ⟨o, h⟩
  · exact .inl (e a _ h)
  · exact .inr ⟨o, e a _ h⟩
theorem ext_l {K : PySem.W.Frag} {F H : Hp} {a : Addr} {xs : List V} (e : Ext F H) (h : SqL K F a xs) : SqL K H a xs := by
  rcases h with h | h
  · exact .inl (ext_rd e h)
  · exact .inr h
theorem ext_t {K : PySem.W.Frag} {F H : Hp} {a : Addr} {xs : List V} (e : Ext F H) (h : SqT K F a xs) : SqT K H a xs := by
  rcases h with h | h
  · exact .inl (ext_rd e h)
  · exact .inr h

theorem ext_n {K : PySem.W.Frag} {F H : Hp} {a : Addr} {xs : List V} (e : Ext F H) (h : TupN K F a xs) : TupN K H a xs := by
  rcases h with ⟨o, h, d⟩ | h
  · exact .inl ⟨o, e a _ h, d⟩
  · exact .inr h

/-! ### data in the heap -/
/-- a key as data -/
def keyT (e : TEnt) : PyData := .tuple (e.1.map .int)
mutual
inductive Rp (K : PySem.W.Frag) (F : Hp) : V → PyData → Prop
  | non : Rp K F .non .none
  | bl (b : Bool) : Rp K F (.bl b) (.bool b)
  | int (i : Int) : Rp K F (.int i) (.int i)
  | str (x : Str) : Rp K F (.str x) (.str x)
  | lst {a : Addr} {xs : List V} {ds : List PyData} : F a = some (.lst xs) → RpA K F xs ds → Rp K F (.ref a) (.list ds)
  | tup {a : Addr} {xs : List V} {ds : List PyData} : TupN K F a xs → RpA K F xs ds → Rp K F (.ref a) (.tuple ds)
  | dicT {a : Addr} {o : Obj} {es : List TEnt} {vs : List V} {ds : List PyData} {kvs : List (PyData × PyData)} : F a = some (.frz o (hoT a es)) → (∀ e ∈ es, TupN K F e.2.1 (e.1.map V.int)) → (es.map (·.1)).Nodup → Vals vs (es.map (·.2.2)) → RpA K F vs ds → kvs = (.bool true, .none) :: (es.map keyT).zip ds → Rp K F (.ref a) (.dict kvs)
  | dicK {a : Addr} {o : Obj} {es : List (Int × V)} {ds : List PyData} {kvs : List (PyData × PyData)} : F a = some (.frz o (.dK (es.map fun e => (.inl e.1, e.2)))) → (es.map (·.1)).Nodup → RpA K F (es.map (·.2)) ds → kvs = (.bool false, .none) :: (es.map fun e => PyData.int e.1).zip ds → Rp K F (.ref a) (.dict kvs)
inductive RpA (K : PySem.W.Frag) (F : Hp) : List V → List PyData → Prop
  | nil : RpA K F [] []
  | cons {v : V} {vs : List V} {d : PyData} {ds : List PyData} : Rp K F v d → RpA K F vs ds → RpA K F (v :: vs) (d :: ds)
end
section
variable {K : PySem.W.Frag} {F G : Hp}
mutual
theorem Rp.mono0 (e : Ext F G) : ∀ {v : V} {d : PyData}, Rp K F v d → Rp K G v d
  | _, _, .non => .non
  | _, _, .bl b => .bl b
  | _, _, .int i => .int i
  | _, _, .str x => .str x
  | _, _, .lst h1 h2 => .lst (e _ _ h1) (RpA.mono0 e h2)
  | _, _, .tup h1 h2 => .tup (ext_n e h1) (RpA.mono0 e h2)
  | _, _, .dicT h1 h2 h0 h3 h4 h5 => .dicT (e _ _ h1) (fun x hx => ext_n e (h2 x hx)) h0 h3 (RpA.mono0 e h4) h5
  | _, _, .dicK h1 h2 h3 h4 => .dicK (e _ _ h1) h2 (RpA.mono0 e h3) h4
theorem RpA.mono0 (e : Ext F G) : ∀ {vs : List V} {ds : List PyData}, RpA K F vs ds → RpA K G vs ds
  | _, _, .nil => .nil
  | _, _, .cons h1 h2 => .cons (Rp.mono0 e h1) (RpA.mono0 e h2)
end
theorem Rp.mono (e : Ext F G) (d : PyData) (v : V) (h : Rp K F v d) : Rp K G v d := h.mono0 e
theorem RpA.mono (e : Ext F G) (ds : List PyData) (vs : List V) (h : RpA K F vs ds) : RpA K G vs ds := h.mono0 e
mutual
/-- no dict within -/
def noDic : PyData → Bool
  | .list ds => noDics ds
  | .tuple ds => noDics ds
  | .dict _ => false
  | _ => true
def noDics : List PyData → Bool
  | [] => true
  | d :: ds => noDic d && noDics ds
end
mutual
theorem Rp.dp : ∀ (d : PyData) (v : V), noDic d = true → Rp K F v d → Dp K F v d
  | .none, _, _, h => by cases h; exact .non
  | .bool b, _, _, h => by cases h; exact .bl _
  | .int i, _, _, h => by cases h; exact .int _
  | .str x, _, _, h => by cases h; exact .str _
  | .list ds, _, n, h => by
    cases h with
    | lst h1 h2 => exact .lst (SqL.of h1) (RpA.dp ds _ (by simpa [noDic] using n) h2)
  | .tuple ds, _, n, h => by
    cases h with
    | tup h1 h2 => exact .tup h1.t (RpA.dp ds _ (by simpa [noDic] using n) h2)
  | .dict _, _, n, h => by simp [noDic] at n
theorem RpA.dp : ∀ (ds : List PyData) (vs : List V), noDics ds = true → RpA K F vs ds → DpAll K F vs ds
  | [], _, _, h => by cases h; exact .nil
  | d :: ds, _, n, h => by
    have n : noDic d = true ∧ noDics ds = true := by simpa [noDics] using n
    cases h with
    | cons h1 h2 => exact .cons (Rp.dp d _ n.1 h1) (RpA.dp ds _ n.2 h2)
end
theorem RpA.length : ∀ {vs : List V} {ds : List PyData}, RpA K F vs ds → vs.length = ds.length
  | _, _, .nil => rfl
  | _, _, .cons _ t => congrArg (· + 1) t.length
theorem RpA.append : ∀ {vs ws : List V} {ds es : List PyData}, RpA K F vs ds → RpA K F ws es → RpA K F (vs ++ ws) (ds ++ es)
  | _, _, _, _, .nil, h => h
  | _, _, _, _, .cons a t, h => .cons a (t.append h)
theorem RpA.get : ∀ {vs : List V} {ds : List PyData} {i : Nat} {d : PyData}, RpA K F vs ds → ds[i]? = some d → ∃ v, vs[i]? = some v ∧ Rp K F v d
  | _, _, _, _, .nil, e => by simp at e
  | _, _, 0, _, .cons a _, e => by
    simp at e
    subst e
    exact ⟨_, rfl, a⟩
  | _, _, i + 1, d, .cons _ t, e => by
    obtain ⟨v, h1, h2⟩ := RpA.get (i := i) (d := d) t (by simpa using e)
    exact ⟨v, by simpa using h1, h2⟩
theorem RpA.getV : ∀ {vs : List V} {ds : List PyData} {i : Nat} {v : V}, RpA K F vs ds → vs[i]? = some v → ∃ d, ds[i]? = some d ∧ Rp K F v d
  | _, _, _, _, .nil, e => by simp at e
  | _, _, 0, _, .cons a _, e => by
    simp at e
    subst e
    exact ⟨_, rfl, a⟩
  | _, _, i + 1, v, .cons _ t, e => by
    obtain ⟨d, h1, h2⟩ := RpA.getV (i := i) (v := v) t (by simpa using e)
    exact ⟨d, by simpa using h1, h2⟩
theorem RpA.set : ∀ {vs : List V} {ds : List PyData} (i : Nat) {v : V} {d : PyData}, Rp K F v d → RpA K F vs ds → RpA K F (vs.set i v) (ds.set i d)
  | _, _, _, _, _, _, .nil => .nil
  | _, _, 0, _, _, r, .cons _ t => .cons r t
  | _, _, i + 1, _, _, r, .cons a t => .cons a (RpA.set i r t)
theorem RpA.take : ∀ {vs : List V} {ds : List PyData} (n : Nat), RpA K F vs ds → RpA K F (vs.take n) (ds.take n)
  | _, _, 0, _ => by simpa using RpA.nil
  | _, _, _ + 1, .nil => .nil
  | _, _, n + 1, .cons a t => .cons a (RpA.take n t)
theorem RpA.drop : ∀ {vs : List V} {ds : List PyData} (n : Nat), RpA K F vs ds → RpA K F (vs.drop n) (ds.drop n)
  | _, _, 0, h => h
  | _, _, _ + 1, .nil => .nil
  | _, _, n + 1, .cons _ t => RpA.drop n t
theorem RpA.rep {vs : List V} {ds : List PyData} (h : RpA K F vs ds) : ∀ k : Nat, RpA K F (List.replicate k vs).flatten (List.replicate k ds).flatten
  | 0 => .nil
  | k + 1 => by
    rw [List.replicate_succ, List.replicate_succ, List.flatten_cons, List.flatten_cons]
    exact h.append (RpA.rep h k)
theorem RpA.reverse : ∀ {vs : List V} {ds : List PyData}, RpA K F vs ds → RpA K F vs.reverse ds.reverse
  | _, _, .nil => .nil
  | _, _, .cons a t => by
    rw [List.reverse_cons, List.reverse_cons]
    exact t.reverse.append (.cons a .nil)
theorem RpA.ints : ∀ {vs : List V} {ns : List Int}, RpA K F vs (ns.map PyData.int) → vs = ns.map V.int
  | _, [], h => by cases h; rfl
  | _, n :: ns, h => by
    cases h with
    | cons a t =>
      cases a
      rw [t.ints]
      rfl
theorem RpA.of_ints : ∀ (ns : List Int), RpA K F (ns.map V.int) (ns.map PyData.int)
  | [] => .nil
  | n :: ns => .cons (.int n) (RpA.of_ints ns)
theorem allI_eq : ∀ {ds : List PyData} {ns : List Int}, allI ds = some ns → ds = ns.map PyData.int
  | [], ns, h => by
    cases h
    rfl
  | .int i :: r, ns, h => by
    unfold allI at h
    cases e : allI r with
    | none => rw [e] at h; cases h
    | some ms =>
      rw [e] at h
      cases h
      rw [allI_eq e]
      rfl
  | .none :: _, _, h => by unfold allI at h; cases h
  | .bool _ :: _, _, h => by unfold allI at h; cases h
  | .str _ :: _, _, h => by unfold allI at h; cases h
  | .list _ :: _, _, h => by unfold allI at h; cases h
  | .tuple _ :: _, _, h => by unfold allI at h; cases h
  | .dict _ :: _, _, h => by unfold allI at h; cases h
theorem allB_eq : ∀ {ds : List PyData} {ns : List Bool}, allB ds = some ns → ds = ns.map PyData.bool
  | [], ns, h => by
    cases h
    rfl
  | .bool i :: r, ns, h => by
    unfold allB at h
    cases e : allB r with
    | none => rw [e] at h; cases h
    | some ms =>
      rw [e] at h
      cases h
      rw [allB_eq e]
      rfl
  | .none :: _, _, h => by unfold allB at h; cases h
  | .int _ :: _, _, h => by unfold allB at h; cases h
  | .str _ :: _, _, h => by unfold allB at h; cases h
  | .list _ :: _, _, h => by unfold allB at h; cases h
  | .tuple _ :: _, _, h => by unfold allB at h; cases h
  | .dict _ :: _, _, h => by unfold allB at h; cases h
theorem RpA.bools : ∀ {vs : List V} {ns : List Bool}, RpA K F vs (ns.map PyData.bool) → vs = ns.map V.bl
  | _, [], h => by cases h; rfl
  | _, n :: ns, h => by
    cases h with
    | cons a t =>
      cases a
      rw [t.bools]
      rfl
end

/-! ### a def's state: the kept part P of the heap, what was read by all at the entry (F0), the list handed in to be changed (io), what is read by all now (F) -/
def isOwn : Option Slot → Bool
  | some (.own _) => true
  | some (.io _) => true
  | some (.mdk _ _) => true
  | _ => false
def MutAt (env : Env) (σ : L2.St) (i : Nat) (p : Addr) : Prop := isOwn env[i]? = true ∧ σ[i]? = some (some (.ref p))
/-- the object u at p tells the dict kvs of the kind k -/
def DicO (K : PySem.W.Frag) (F : Hp) (p : Addr) (u : HO) : Bool → List (PyData × PyData) → Prop
  | true, kvs => ∃ es vs ds, u = hoT p es ∧ (∀ e ∈ es, TupN K F e.2.1 (e.1.map V.int)) ∧ (es.map (·.1)).Nodup ∧ Vals vs (es.map (·.2.2)) ∧ RpA K F vs ds ∧ kvs = (es.map keyT).zip ds
  | false, kvs => ∃ (es : List (Int × V)) (ds : List PyData), u = .dK (es.map fun e => (.inl e.1, e.2)) ∧ (es.map (·.1)).Nodup ∧ RpA K F (es.map (·.2)) ds ∧ kvs = (es.map fun e => PyData.int e.1).zip ds
theorem DicO.mono {K : PySem.W.Frag} {F G : Hp} {p : Addr} {u : HO} {k : Bool} {kvs : List (PyData × PyData)} (e : Ext F G) (h : DicO K F p u k kvs) : DicO K G p u k kvs := by
  cases k with
  | true =>
    obtain ⟨es, vs, ds, h1, h2, h0, h3, h4, h5⟩ := h
    exact ⟨es, vs, ds, h1, fun x hx => ext_n e (h2 x hx), h0, h3, h4.mono0 e, h5⟩
  | false =>
    obtain ⟨es, ds, h1, h2, h3, h4⟩ := h
    exact ⟨es, ds, h1, h2, h3.mono0 e, h4⟩
theorem DicO.frz {K : PySem.W.Frag} {F : Hp} {p : Addr} {u : HO} {k : Bool} {kvs : List (PyData × PyData)} {o : Obj} (h : DicO K F p u k kvs) (e : F p = some (.frz o u)) : Rp K F (.ref p) (mkD k kvs) := by
  cases k with
  | true =>
    obtain ⟨es, vs, ds, rfl, h2, h0, h3, h4, rfl⟩ := h
    exact .dicT e h2 h0 h3 h4 rfl
  | false =>
    obtain ⟨es, ds, rfl, h2, h3, rfl⟩ := h
    exact .dicK e h2 h3 rfl
theorem Rp.dic {K : PySem.W.Frag} {F : Hp} {x : V} {k : Bool} {kvs : List (PyData × PyData)} (h : Rp K F x (mkD k kvs)) : ∃ p u o, x = .ref p ∧ F p = some (.frz o u) ∧ DicO K F p u k kvs := by
  cases h with
  | dicT h1 h2 h0 h3 h4 h5 =>
    cases h5
    exact ⟨_, _, _, rfl, h1, _, _, _, rfl, h2, h0, h3, h4, rfl⟩
  | dicK h1 h2 h3 h4 =>
    cases h4
    exact ⟨_, _, _, rfl, h1, _, _, rfl, h2, h3, rfl⟩
/-- a dict's pairs, its kind ahead -/
theorem Rp.dicF {K : PySem.W.Frag} {F : Hp} {x : V} {kvs : List (PyData × PyData)} (h : Rp K F x (.dict kvs)) : ∃ k r, kvs = (.bool k, .none) :: r := by
  cases h with
  | dicT h1 h2 h0 h3 h4 h5 => exact ⟨_, _, h5⟩
  | dicK h1 h2 h3 h4 => exact ⟨_, _, h4⟩
theorem DicO.mut {K : PySem.W.Frag} {F : Hp} {p : Addr} {u : HO} {k : Bool} {kvs : List (PyData × PyData)} (h : DicO K F p u k kvs) : Mut (some u) := by
  cases k with
  | true =>
    obtain ⟨es, vs, ds, rfl, _⟩ := h
    trivial
  | false =>
    obtain ⟨es, ds, rfl, _⟩ := h
    trivial
def SlotOk (K : PySem.W.Frag) (P F H : Hp) (io : Option Addr) (sv : Option (Option V)) : Slot → Prop
  | .un => True
  | .val d => ∃ v, sv = some (some v) ∧ Rp K F v d
  | .own ds => ∃ p vs, sv = some (some (.ref p)) ∧ H p = some (.lst vs) ∧ RpA K F vs ds ∧ F p = none ∧ P p = none
  | .io ds => ∃ p vs, io = some p ∧ sv = some (some (.ref p)) ∧ H p = some (.lst vs) ∧ RpA K F vs ds ∧ F p = none ∧ P p = none
  | .scr ns => ∃ a, sv = some (some (.ref a)) ∧ SqL K F a (ns.map V.int)
  | .mdk k kvs => ∃ p u, sv = some (some (.ref p)) ∧ H p = some u ∧ DicO K F p u k kvs ∧ F p = none ∧ P p = none
structure StOk (K : PySem.W.Frag) (P F0 : Hp) (io : Option Addr) (F : Hp) (env : Env) (σ : L2.St) (H : Hp) : Prop where
  pH : Ext P H
  f0 : Ext F0 F
  fH : Ext F H
  hid : ∀ p o, P p = some o → F0 p = none → F p = none
  len : σ.length = env.length
  sl : ∀ (i : Nat) (s : Slot), env[i]? = some s → SlotOk K P F H io σ[i]? s
  dist : ∀ (i j : Nat) (p : Addr), MutAt env σ i p → MutAt env σ j p → i = j
/-- an expression's value x, told as v -/
def ValOk (K : PySem.W.Frag) (P F H : Hp) (env : Env) (σ : L2.St) (x : V) : Val → Prop
  | .fz d => Rp K F x d
  | .fr ds => ∃ p vs, x = .ref p ∧ H p = some (.lst vs) ∧ RpA K F vs ds ∧ F p = none ∧ P p = none ∧ ∀ i, ¬ MutAt env σ i p
  | .fd k kvs => ∃ p u, x = .ref p ∧ H p = some u ∧ DicO K F p u k kvs ∧ F p = none ∧ P p = none ∧ ∀ i, ¬ MutAt env σ i p
  | .pk i => σ[i]? = some (some x)
/-- a value that waits for its use -/
def VOk (K : PySem.W.Frag) (F : Hp) (σ : L2.St) (x : V) : Val → Prop
  | .fz d => Rp K F x d
  | .pk i => σ[i]? = some (some x)
  | .fd _ _ => True
  | .fr _ => False
/-- a value at its use -/
def OpOk (K : PySem.W.Frag) (F H : Hp) (x : V) (d : PyData) : Prop := Rp K F x d ∨ (∃ p vs ds, x = .ref p ∧ d = .list ds ∧ H p = some (.lst vs) ∧ RpA K F vs ds) ∨ ∃ p u k kvs, x = .ref p ∧ d = mkD k kvs ∧ H p = some u ∧ DicO K F p u k kvs
section
variable {K : PySem.W.Frag} {P F0 F F' H H' : Hp} {io : Option Addr} {env : Env} {σ : L2.St} {x : V} {d : PyData} {v : Val}
theorem StOk.ext (s : StOk K P F0 io F env σ H) (hH : Ext H H') (hF : Ext F F') (hFH : Ext F' H') (hn : ∀ p o, H p = some o → F p = none → F' p = none) : StOk K P F0 io F' env σ H' := by
  refine ⟨s.pH.trans hH, s.f0.trans hF, hFH, fun p o h1 h2 => hn p o (s.pH p o h1) (s.hid p o h1 h2), s.len, fun i sl h => ?_, s.dist⟩
  have q := s.sl i sl h
  cases sl with
  | un => trivial
  | val d =>
    obtain ⟨v, h1, h2⟩ := q
    exact ⟨v, h1, Rp.mono hF _ _ h2⟩
  | own ds =>
    obtain ⟨p, vs, h1, h2, h3, h4, h5⟩ := q
    exact ⟨p, vs, h1, hH _ _ h2, RpA.mono hF _ _ h3, hn p _ h2 h4, h5⟩
  | io ds =>
    obtain ⟨p, vs, h0, h1, h2, h3, h4, h5⟩ := q
    exact ⟨p, vs, h0, h1, hH _ _ h2, RpA.mono hF _ _ h3, hn p _ h2 h4, h5⟩
  | scr ns =>
    obtain ⟨a, h1, h2⟩ := q
    exact ⟨a, h1, ext_l hF h2⟩
  | mdk k kvs =>
    obtain ⟨p, u, h1, h2, h3, h4, h5⟩ := q
    exact ⟨p, u, h1, hH _ _ h2, h3.mono hF, hn p _ h2 h4, h5⟩
/-- a slot's list stands in the heap -/
theorem StOk.own (s : StOk K P F0 io F env σ H) {i : Nat} {p : Addr} (h : MutAt env σ i p) : (∃ u, H p = some u) ∧ F p = none ∧ P p = none := by
  obtain ⟨h1, h2⟩ := h
  cases e : env[i]? with
  | none => rw [e] at h1; cases h1
  | some sl =>
    have q := s.sl i sl e
    rw [e] at h1
    cases sl with
    | un => cases h1
    | val d => cases h1
    | own ds =>
      obtain ⟨p', vs, q1, q2, q3, q4, q5⟩ := q
      rw [h2] at q1
      cases q1
      exact ⟨⟨_, q2⟩, q4, q5⟩
    | io ds =>
      obtain ⟨p', vs, _, q1, q2, q3, q4, q5⟩ := q
      rw [h2] at q1
      cases q1
      exact ⟨⟨_, q2⟩, q4, q5⟩
    | scr ns => cases h1
    | mdk k kvs =>
      obtain ⟨p', u, q1, q2, q3, q4, q5⟩ := q
      rw [h2] at q1
      cases q1
      exact ⟨⟨_, q2⟩, q4, q5⟩
theorem StOk.fresh (s : StOk K P F0 io F env σ H) {p : Addr} (h : H p = none) : F p = none ∧ P p = none ∧ ∀ i, ¬ MutAt env σ i p :=
  ⟨s.fH.none h, s.pH.none h, fun i m => by
    obtain ⟨⟨vs, q⟩, _⟩ := s.own m
    rw [h] at q
    cases q⟩
/-- a new object that all may read -/
theorem StOk.allocF (s : StOk K P F0 io F env σ H) {p : Addr} (h : H p = none) (o : HO) : StOk K P F0 io (upd F p o) env σ (upd H p o) ∧ Ext F (upd F p o) := by
  have hF := s.fH.none h
  refine ⟨s.ext (Ext.upd h) (Ext.upd hF) s.fH.upd2 fun q u h1 h2 => ?_, Ext.upd hF⟩
  rw [upd_ne (ne_of_none h1 h)]
  exact h2
/-- a new object of one's own -/
theorem StOk.alloc (s : StOk K P F0 io F env σ H) {p : Addr} (h : H p = none) (o : HO) : StOk K P F0 io F env σ (upd H p o) :=
  s.ext (Ext.upd h) (Ext.refl F) (s.fH.trans (Ext.upd h)) fun _ _ _ h2 => h2
/-- a new list is given up to be read by all -/
theorem StOk.freeze (s : StOk K P F0 io F env σ H) {p : Addr} {o : HO} (h : H p = some o) (hF : F p = none) (hP : P p = none) (hm : ∀ i, ¬ MutAt env σ i p) : StOk K P F0 io (upd F p o) env σ H ∧ Ext F (upd F p o) := by
  have hF' : Ext F (upd F p o) := Ext.upd hF
  have ne : ∀ i q, MutAt env σ i q → q ≠ p := fun i q m e => hm i (e ▸ m)
  refine ⟨⟨s.pH, s.f0.trans hF', fun a u e => ?_, fun a u h1 h2 => ?_, s.len, fun i sl h => ?_, s.dist⟩, hF'⟩
  · by_cases ha : a = p
    · subst ha
      rw [upd_same] at e
      cases e
      exact h
    · rw [upd_ne ha] at e
      exact s.fH a u e
  · rw [upd_ne (fun e => by rw [e, hP] at h1; cases h1)]
    exact s.hid a u h1 h2
  · have q := s.sl i sl h
    cases sl with
    | un => trivial
    | val d =>
      obtain ⟨v, h1, h2⟩ := q
      exact ⟨v, h1, Rp.mono hF' _ _ h2⟩
    | own ds =>
      obtain ⟨p', vs, h1, h2, h3, h4, h5⟩ := q
      have m : MutAt env σ i p' := ⟨by rw [h]; rfl, h1⟩
      exact ⟨p', vs, h1, h2, RpA.mono hF' _ _ h3, by rw [upd_ne (ne i p' m)]; exact h4, h5⟩
    | io ds =>
      obtain ⟨p', vs, h0, h1, h2, h3, h4, h5⟩ := q
      have m : MutAt env σ i p' := ⟨by rw [h]; rfl, h1⟩
      exact ⟨p', vs, h0, h1, h2, RpA.mono hF' _ _ h3, by rw [upd_ne (ne i p' m)]; exact h4, h5⟩
    | scr ns =>
      obtain ⟨a, h1, h2⟩ := q
      exact ⟨a, h1, ext_l hF' h2⟩
    | mdk k kvs =>
      obtain ⟨p', u, h1, h2, h3, h4, h5⟩ := q
      have m : MutAt env σ i p' := ⟨by rw [h]; rfl, h1⟩
      exact ⟨p', u, h1, h2, h3.mono hF', by rw [upd_ne (ne i p' m)]; exact h4, h5⟩
theorem ValOk.frz (s : StOk K P F0 io F env σ H) (h : ValOk K P F H env σ x v) : ∃ F', StOk K P F0 io F' env σ H ∧ Ext F F' ∧ VOk K F' σ x v.frz := by
  cases v with
  | fz d => exact ⟨F, s, Ext.refl F, h⟩
  | fr ds =>
    obtain ⟨p, vs, rfl, h1, h2, h3, h4, h5⟩ := h
    obtain ⟨s', e⟩ := s.freeze h1 h3 h4 h5
    exact ⟨_, s', e, .lst upd_same (RpA.mono e _ _ h2)⟩
  | fd k kvs => exact ⟨F, s, Ext.refl F, trivial⟩
  | pk i => exact ⟨F, s, Ext.refl F, h⟩
theorem VOk.mono (e : Ext F F') (h : VOk K F σ x v) : VOk K F' σ x v := by
  cases v with
  | fz d => exact Rp.mono e _ _ h
  | fr ds => exact h
  | fd kvs => exact h
  | pk i => exact h
theorem frz_frz (v : Val) : v.frz.frz = v.frz := by cases v <;> rfl
theorem OpOk.mono (hF : Ext F F') (hH : Ext H H') (h : OpOk K F H x d) : OpOk K F' H' x d := by
  rcases h with h | ⟨p, vs, ds, h1, h2, h3, h4⟩ | ⟨p, u, k, kvs, h1, h2, h3, h4⟩
  · exact .inl (Rp.mono hF _ _ h)
  · exact .inr (.inl ⟨p, vs, ds, h1, h2, hH _ _ h3, RpA.mono hF _ _ h4⟩)
  · exact .inr (.inr ⟨p, u, k, kvs, h1, h2, hH _ _ h3, h4.mono hF⟩)
/-- all of it stands in the heap -/
theorem OpOk.rp (hF : Ext F H) (h : OpOk K F H x d) (n : ∀ kvs, d ≠ .dict kvs) : Rp K H x d := by
  rcases h with h | ⟨p, vs, ds, rfl, rfl, h3, h4⟩ | ⟨p, u, k, kvs, h1, h2, h3, h4⟩
  · exact Rp.mono hF _ _ h
  · exact .lst h3 (RpA.mono hF _ _ h4)
  · exact absurd h2 (n _)
/-- a dict at its use -/
theorem OpOk.dict {k : Bool} {kvs : List (PyData × PyData)} (hF : Ext F H) (h : OpOk K F H x (mkD k kvs)) : ∃ p u, x = .ref p ∧ (H p = some u ∨ ∃ o, H p = some (.frz o u)) ∧ DicO K F p u k kvs := by
  rcases h with h | ⟨p, vs, ds, _, h2, _⟩ | ⟨p, u, k', kvs', h1, h2, h3, h4⟩
  · obtain ⟨p, u, o, h1, h2, h3⟩ := h.dic
    exact ⟨p, u, h1, .inr ⟨o, hF _ _ h2⟩, h3⟩
  · cases h2
  · cases h2
    exact ⟨p, u, h1, .inl h3, h4⟩
theorem OpOk.dicF {kvs : List (PyData × PyData)} (h : OpOk K F H x (.dict kvs)) : ∃ k r, kvs = (.bool k, .none) :: r := by
  rcases h with h | ⟨p, vs, ds, _, h2, _⟩ | ⟨p, u, k', kvs', h1, h2, h3, h4⟩
  · exact h.dicF
  · cases h2
  · cases h2
    exact ⟨_, _, rfl⟩
theorem OpOk.list {ds : List PyData} (hF : Ext F H) (h : OpOk K F H x (.list ds)) : ∃ p vs, x = .ref p ∧ H p = some (.lst vs) ∧ RpA K F vs ds := by
  rcases h with h | ⟨p, vs, ds', rfl, e, h3, h4⟩ | ⟨_, _, _, _, _, e, _⟩
  · cases h with
    | lst h1 h2 => exact ⟨_, _, rfl, hF _ _ h1, h2⟩
  · cases e
    exact ⟨p, vs, rfl, h3, h4⟩
  · cases e
theorem OpOk.tupN {ds : List PyData} (hF : Ext F H) (h : OpOk K F H x (.tuple ds)) : ∃ p vs, x = .ref p ∧ TupN K H p vs ∧ RpA K F vs ds := by
  rcases h with h | ⟨p, vs, ds', rfl, e, h3, h4⟩ | ⟨_, _, _, _, _, e, _⟩
  · cases h with
    | tup h1 h2 => exact ⟨_, _, rfl, ext_n hF h1, h2⟩
  · cases e
  · cases e
theorem OpOk.tuple {ds : List PyData} (hF : Ext F H) (h : OpOk K F H x (.tuple ds)) : ∃ p vs, x = .ref p ∧ SqT K H p vs ∧ RpA K F vs ds :=
  let ⟨p, vs, h1, h2, h3⟩ := h.tupN hF
  ⟨p, vs, h1, h2.t, h3⟩
theorem OpOk.int {i : Int} (h : OpOk K F H x (.int i)) : x = .int i := by
  rcases h with h | ⟨_, _, _, _, e, _⟩ | ⟨_, _, _, _, _, e, _⟩
  · cases h
    rfl
  · cases e
  · cases e
theorem OpOk.bool {i : Bool} (h : OpOk K F H x (.bool i)) : x = .bl i := by
  rcases h with h | ⟨_, _, _, _, e, _⟩ | ⟨_, _, _, _, _, e, _⟩
  · cases h
    rfl
  · cases e
  · cases e
theorem OpOk.none (h : OpOk K F H x .none) : x = .non := by
  rcases h with h | ⟨_, _, _, _, e, _⟩ | ⟨_, _, _, _, _, e, _⟩
  · cases h
    rfl
  · cases e
  · cases e
theorem OpOk.str {z : Str} (h : OpOk K F H x (.str z)) : x = .str z := by
  rcases h with h | ⟨_, _, _, _, e, _⟩ | ⟨_, _, _, _, _, e, _⟩
  · cases h
    rfl
  · cases e
  · cases e
/-- at its use: the slot's list as it stands there -/
theorem VOk.look (s : StOk K P F0 io F env σ H) (h : VOk K F σ x v) (hl : v.look env = some d) : OpOk K F H x d := by
  cases v with
  | fz d' =>
    cases hl
    exact .inl h
  | fr ds => exact h.elim
  | fd k kvs => cases hl
  | pk i =>
    have h2 : σ[i]? = some (some x) := h
    simp only [Val.look] at hl
    cases q : env[i]? with
    | none => rw [q] at hl; cases hl
    | some sl =>
      rw [q] at hl
      have z := s.sl i sl q
      cases sl with
      | un => cases hl
      | val _ => cases hl
      | own ds =>
        cases hl
        obtain ⟨p, vs, z1, z2, z3, _⟩ := z
        rw [h2] at z1
        cases z1
        exact .inr (.inl ⟨p, vs, ds, rfl, rfl, z2, z3⟩)
      | io ds =>
        cases hl
        obtain ⟨p, vs, _, z1, z2, z3, _⟩ := z
        rw [h2] at z1
        cases z1
        exact .inr (.inl ⟨p, vs, ds, rfl, rfl, z2, z3⟩)
      | scr _ => cases hl
      | mdk k kvs =>
        cases hl
        obtain ⟨p, u, z1, z2, z3, _⟩ := z
        rw [h2] at z1
        cases z1
        exact .inr (.inr ⟨p, u, k, kvs, rfl, rfl, z2, z3⟩)
/-- arguments that wait for their use -/
def VsOk (K : PySem.W.Frag) (F : Hp) (σ : L2.St) : List V → List Val → Prop
  | [], [] => True
  | x :: xs, v :: vs => VOk K F σ x v ∧ VsOk K F σ xs vs
  | _, _ => False
theorem VsOk.mono (e : Ext F F') : ∀ {xs : List V} {vs : List Val}, VsOk K F σ xs vs → VsOk K F' σ xs vs
  | [], [], _ => trivial
  | _ :: _, _ :: _, ⟨a, b⟩ => ⟨a.mono e, VsOk.mono e b⟩
  | [], _ :: _, h => h.elim
  | _ :: _, [], h => h.elim
theorem VsOk.fz : ∀ {xs : List V} {vs : List Val} {ds : List PyData}, VsOk K F σ xs vs → fzAll vs = some ds → RpA K F xs ds
  | [], [], ds, _, e => by
    cases e
    exact .nil
  | x :: xs, v :: vs, ds, ⟨a, b⟩, e => by
    cases v with
    | fz d =>
      simp only [fzAll] at e
      cases q : fzAll vs with
      | none => rw [q] at e; cases e
      | some es =>
        rw [q] at e
        cases e
        exact .cons a (VsOk.fz b q)
    | fr ds => exact a.elim
    | fd k ds => simp [fzAll] at e
    | pk i => simp [fzAll] at e
  | [], _ :: _, _, h, _ => h.elim
  | _ :: _, [], _, h, _ => h.elim
def OpsOk (K : PySem.W.Frag) (F H : Hp) : List V → List PyData → Prop
  | [], [] => True
  | x :: xs, d :: ds => OpOk K F H x d ∧ OpsOk K F H xs ds
  | _, _ => False
theorem VsOk.look (s : StOk K P F0 io F env σ H) : ∀ {xs : List V} {vs : List Val} {ds : List PyData}, VsOk K F σ xs vs → lookAll env vs = some ds → OpsOk K F H xs ds
  | [], [], ds, _, e => by
    cases e
    trivial
  | x :: xs, v :: vs, ds, ⟨a, b⟩, e => by
    simp only [lookAll] at e
    cases q : v.look env with
    | none => rw [q] at e; cases e
    | some d =>
      cases q2 : lookAll env vs with
      | none => rw [q, q2] at e; cases e
      | some es =>
        rw [q, q2] at e
        cases e
        exact ⟨VOk.look s a q, VsOk.look s b q2⟩
  | [], _ :: _, _, h, _ => h.elim
  | _ :: _, [], _, h, _ => h.elim
end

/-! ### what a reading asks -/
abbrev WX0 := Nat → Hp → Prop
def PostV (W : WX0) (K : PySem.W.Frag) (P F0 : Hp) (io : Option Addr) (F : Hp) (σ : L2.St) (Q : VK) : R (Val × Env) → Prop
  | .stuck => False
  | .exc c => ∀ H', Ext P H' → W c H'
  | .ok (v, env') => ∀ x F' H', StOk K P F0 io F' env' σ H' → Ext F F' → ValOk K P F' H' env' σ x v → Q x H'
def PostT (W : WX0) (K : PySem.W.Frag) (P F0 : Hp) (io : Option Addr) (F : Hp) (σ : L2.St) (Q : Bool → Hp → Prop) : R (Bool × Env) → Prop
  | .stuck => False
  | .exc c => ∀ H', Ext P H' → W c H'
  | .ok (b, env') => ∀ F' H', StOk K P F0 io F' env' σ H' → Ext F F' → Q b H'
def PostA (W : WX0) (K : PySem.W.Frag) (P F0 : Hp) (io : Option Addr) (F : Hp) (σ : L2.St) (Q : List V → Hp → Prop) : R (List Val × Env) → Prop
  | .stuck => False
  | .exc c => ∀ H', Ext P H' → W c H'
  | .ok (vs, env') => ∀ xs F' H', StOk K P F0 io F' env' σ H' → Ext F F' → VsOk K F' σ xs vs → Q xs H'
def PostO (W : WX0) (K : PySem.W.Frag) (P F0 : Hp) (io : Option Addr) (F : Hp) (σ : L2.St) (Q : Option Int → Hp → Prop) : R (Option Int × Env) → Prop
  | .stuck => False
  | .exc c => ∀ H', Ext P H' → W c H'
  | .ok (o, env') => ∀ F' H', StOk K P F0 io F' env' σ H' → Ext F F' → Q o H'
/-- the readings -/
def TV (W : WX0) (K : PySem.W.Frag) (f : Env → R (Val × Env)) : TE := fun σ H Q => ∃ P F0 io F env, StOk K P F0 io F env σ H ∧ PostV W K P F0 io F σ Q (f env)
def TTt (W : WX0) (K : PySem.W.Frag) (f : Env → R (Bool × Env)) : TT := fun σ H Q => ∃ P F0 io F env, StOk K P F0 io F env σ H ∧ PostT W K P F0 io F σ Q (f env)
def TAa (W : WX0) (K : PySem.W.Frag) (f : Env → R (List Val × Env)) : TA := fun σ H Q => ∃ P F0 io F env, StOk K P F0 io F env σ H ∧ PostA W K P F0 io F σ Q (f env)
def TOo (W : WX0) (K : PySem.W.Frag) (f : Env → R (Option Int × Env)) : TO := fun σ H Q => ∃ P F0 io F env, StOk K P F0 io F env σ H ∧ PostO W K P F0 io F σ Q (f env)
section
variable {X : Cx} {W : WX0} {K : PySem.W.Frag} {P F0 F F' H H' : Hp} {io : Option Addr} {env env' : Env} {σ : L2.St} {x : V} {Q : VK}
theorem PE.imp {e : Expr} {t t' : TE} (h : PE X e t) (i : ∀ σ H Q, t' σ H Q → t σ H Q) : PE X e t' := ⟨fun pins s σ H Q I q => h.run pins s σ H Q I (i σ H Q q)⟩
theorem PT.imp {e : Expr} {t t' : TT} (h : PT X e t) (i : ∀ σ H Q, t' σ H Q → t σ H Q) : PT X e t' := ⟨fun pins s σ H Q I q => h.run pins s σ H Q I (i σ H Q q)⟩
theorem PA.imp {e : List Expr} {t t' : TA} (h : PA X e t) (i : ∀ σ H Q, t' σ H Q → t σ H Q) : PA X e t' := ⟨fun pos pins s σ H Q I q => h.run pos pins s σ H Q I (i σ H Q q)⟩
theorem PO.imp {e : Option Expr} {t t' : TO} (h : PO X e t) (i : ∀ σ H Q, t' σ H Q → t σ H Q) : PO X e t' := ⟨fun pins s σ H Q I q => h.run pins s σ H Q I (i σ H Q q)⟩
theorem PostV.mono {r : R (Val × Env)} (e : Ext F F') (h : PostV W K P F0 io F σ Q r) : PostV W K P F0 io F' σ Q r := by
  cases r with
  | stuck => exact h
  | exc c => exact h
  | ok p => exact fun x G H' s e2 v => h x G H' s (e.trans e2) v
theorem PostT.mono {Q : Bool → Hp → Prop} {r : R (Bool × Env)} (e : Ext F F') (h : PostT W K P F0 io F σ Q r) : PostT W K P F0 io F' σ Q r := by
  cases r with
  | stuck => exact h
  | exc c => exact h
  | ok p => exact fun G H' s e2 => h G H' s (e.trans e2)
theorem PostA.mono {Q : List V → Hp → Prop} {r : R (List Val × Env)} (e : Ext F F') (h : PostA W K P F0 io F σ Q r) : PostA W K P F0 io F' σ Q r := by
  cases r with
  | stuck => exact h
  | exc c => exact h
  | ok p => exact fun x G H' s e2 v => h x G H' s (e.trans e2) v
theorem PostO.mono {Q : Option Int → Hp → Prop} {r : R (Option Int × Env)} (e : Ext F F') (h : PostO W K P F0 io F σ Q r) : PostO W K P F0 io F' σ Q r := by
  cases r with
  | stuck => exact h
  | exc c => exact h
  | ok p => exact fun G H' s e2 => h G H' s (e.trans e2)
/-- a value that is there -/
theorem PostV.fz {d : PyData} (h : PostV W K P F0 io F σ Q (.ok (.fz d, env))) (s : StOk K P F0 io F env σ H) (r : Rp K F x d) : Q x H := h x F H s (Ext.refl F) r
/-- a new tuple -/
theorem PostV.tup {ds : List PyData} {vs : List V} {p : Addr} {o : Obj} (h : PostV W K P F0 io F σ Q (.ok (.fz (.tuple ds), env))) (s : StOk K P F0 io F env σ H) (r : RpA K F vs ds) (hp : H p = none) (ho : o.dict = none) : Q (.ref p) (upd H p (.frz o (.tup vs))) := by
  obtain ⟨s', e⟩ := s.allocF hp (.frz o (.tup vs))
  exact h (.ref p) _ _ s' e (.tup (.of upd_same ho) (RpA.mono e _ _ r))
/-- a new list -/
theorem PostV.lst {ds : List PyData} {vs : List V} {p : Addr} (h : PostV W K P F0 io F σ Q (.ok (.fr ds, env))) (s : StOk K P F0 io F env σ H) (r : RpA K F vs ds) (hp : H p = none) : Q (.ref p) (upd H p (.lst vs)) := by
  obtain ⟨h1, h2, h3⟩ := s.fresh hp
  exact h (.ref p) F _ (s.alloc hp (.lst vs)) (Ext.refl F) ⟨p, vs, rfl, upd_same, r, h1, h2, h3⟩
/-- a family of ends, by what is read by all -/
structure PR (W : WX0) (P : Hp) (β : Type) where
  post : Hp → R β → Prop
  nos : ∀ F, post F .stuck → False
  exc : ∀ F c, post F (.exc c) → ∀ H', Ext P H' → W c H'
  mono : ∀ {F F' : Hp} {r : R β}, Ext F F' → post F r → post F' r
def prV (W : WX0) (K : PySem.W.Frag) (P F0 : Hp) (io : Option Addr) (σ : L2.St) (Q : VK) : PR W P (Val × Env) := ⟨fun F => PostV W K P F0 io F σ Q, fun _ h => h, fun _ _ h => h, fun e h => h.mono e⟩
def prT (W : WX0) (K : PySem.W.Frag) (P F0 : Hp) (io : Option Addr) (σ : L2.St) (Q : Bool → Hp → Prop) : PR W P (Bool × Env) := ⟨fun F => PostT W K P F0 io F σ Q, fun _ h => h, fun _ _ h => h, fun e h => h.mono e⟩
def prA (W : WX0) (K : PySem.W.Frag) (P F0 : Hp) (io : Option Addr) (σ : L2.St) (Q : List V → Hp → Prop) : PR W P (List Val × Env) := ⟨fun F => PostA W K P F0 io F σ Q, fun _ h => h, fun _ _ h => h, fun e h => h.mono e⟩
def prO (W : WX0) (K : PySem.W.Frag) (P F0 : Hp) (io : Option Addr) (σ : L2.St) (Q : Option Int → Hp → Prop) : PR W P (Option Int × Env) := ⟨fun F => PostO W K P F0 io F σ Q, fun _ h => h, fun _ _ h => h, fun e h => h.mono e⟩
/-- one term's value goes on -/
theorem TV.go {β : Type} (C : PR W P β) {f : Env → R (Val × Env)} {k : Val × Env → R β} {Q' : VK} (s : StOk K P F0 io F env σ H) (h : C.post F ((f env).bind k))
    (q : ∀ v e1, f env = .ok (v, e1) → ∀ x F1 H1, StOk K P F0 io F1 e1 σ H1 → Ext F F1 → ValOk K P F1 H1 e1 σ x v → C.post F1 (k (v, e1)) → Q' x H1) : TV W K f σ H Q' := by
  refine ⟨P, F0, io, F, env, s, ?_⟩
  cases e : f env with
  | stuck => rw [e] at h; exact (C.nos _ h).elim
  | exc c => rw [e] at h; exact C.exc _ _ h
  | ok p =>
    rw [e] at h
    exact fun x F1 H1 s1 e1 v1 => q p.1 p.2 e x F1 H1 s1 e1 v1 (C.mono e1 h)
/-- .. given up to be read by all -/
theorem TV.goF {β : Type} (C : PR W P β) {f : Env → R (Val × Env)} {k : Val × Env → R β} {Q' : VK} (s : StOk K P F0 io F env σ H) (h : C.post F ((f env).bind k))
    (q : ∀ v e1, f env = .ok (v, e1) → ∀ x F1 H1, StOk K P F0 io F1 e1 σ H1 → Ext F F1 → VOk K F1 σ x v.frz → C.post F1 (k (v, e1)) → Q' x H1) : TV W K f σ H Q' := by
  refine TV.go C s h fun v e1 he x F1 H1 s1 x1 v1 hk => ?_
  obtain ⟨F2, s2, x2, v2⟩ := v1.frz s1
  exact q v e1 he x F2 H1 s2 (x1.trans x2) v2 (C.mono x2 hk)
theorem TTt.go {β : Type} (C : PR W P β) {f : Env → R (Bool × Env)} {k : Bool × Env → R β} {Q' : Bool → Hp → Prop} (s : StOk K P F0 io F env σ H) (h : C.post F ((f env).bind k))
    (q : ∀ b e1, f env = .ok (b, e1) → ∀ F1 H1, StOk K P F0 io F1 e1 σ H1 → Ext F F1 → C.post F1 (k (b, e1)) → Q' b H1) : TTt W K f σ H Q' := by
  refine ⟨P, F0, io, F, env, s, ?_⟩
  cases e : f env with
  | stuck => rw [e] at h; exact (C.nos _ h).elim
  | exc c => rw [e] at h; exact C.exc _ _ h
  | ok p =>
    rw [e] at h
    exact fun F1 H1 s1 e1 => q p.1 p.2 e F1 H1 s1 e1 (C.mono e1 h)
theorem TAa.go {β : Type} (C : PR W P β) {f : Env → R (List Val × Env)} {k : List Val × Env → R β} {Q' : List V → Hp → Prop} (s : StOk K P F0 io F env σ H) (h : C.post F ((f env).bind k))
    (q : ∀ vs e1, f env = .ok (vs, e1) → ∀ xs F1 H1, StOk K P F0 io F1 e1 σ H1 → Ext F F1 → VsOk K F1 σ xs vs → C.post F1 (k (vs, e1)) → Q' xs H1) : TAa W K f σ H Q' := by
  refine ⟨P, F0, io, F, env, s, ?_⟩
  cases e : f env with
  | stuck => rw [e] at h; exact (C.nos _ h).elim
  | exc c => rw [e] at h; exact C.exc _ _ h
  | ok p =>
    rw [e] at h
    exact fun xs F1 H1 s1 e1 v1 => q p.1 p.2 e xs F1 H1 s1 e1 v1 (C.mono e1 h)
theorem TOo.go {β : Type} (C : PR W P β) {f : Env → R (Option Int × Env)} {k : Option Int × Env → R β} {Q' : Option Int → Hp → Prop} (s : StOk K P F0 io F env σ H) (h : C.post F ((f env).bind k))
    (q : ∀ b e1, f env = .ok (b, e1) → ∀ F1 H1, StOk K P F0 io F1 e1 σ H1 → Ext F F1 → C.post F1 (k (b, e1)) → Q' b H1) : TOo W K f σ H Q' := by
  refine ⟨P, F0, io, F, env, s, ?_⟩
  cases e : f env with
  | stuck => rw [e] at h; exact (C.nos _ h).elim
  | exc c => rw [e] at h; exact C.exc _ _ h
  | ok p =>
    rw [e] at h
    exact fun F1 H1 s1 e1 => q p.1 p.2 e F1 H1 s1 e1 (C.mono e1 h)
theorem PR.of {β γ : Type} {C : PR W P β} {o : Option γ} {k : γ → R β} (h : C.post F ((R.of o).bind k)) : ∃ a, o = some a ∧ C.post F (k a) := by
  cases o with
  | none => exact (C.nos _ h).elim
  | some a => exact ⟨a, rfl, h⟩
theorem PR.bind {β γ : Type} {C : PR W P β} {o : R γ} {k : γ → R β} (h : C.post F (o.bind k)) (hx : ∀ c, o ≠ .exc c) : ∃ a, o = .ok a ∧ C.post F (k a) := by
  cases o with
  | stuck => exact (C.nos _ h).elim
  | exc c => exact (hx c rfl).elim
  | ok a => exact ⟨a, rfl, h⟩
theorem R.of_cases {α β : Type} {o : Option α} {k : α → R β} {Pr : R β → Prop} (h : Pr ((R.of o).bind k)) (hs : ¬ Pr .stuck) : ∃ a, o = some a ∧ Pr (k a) := by
  cases o with
  | none => exact absurd h hs
  | some a => exact ⟨a, rfl, h⟩
/-- a two-place operation -/
theorem tv_op2 {f g : Env → R (Val × Env)} {op : PyData → PyData → R Val} {r : R2}
    (hr : ∀ {P F0 F H : Hp} {io : Option Addr} {env : Env} {σ : L2.St} {x y : V} {dx dy : PyData} {Q : VK}, StOk K P F0 io F env σ H → OpOk K F H x dx → OpOk K F H y dy → PostV W K P F0 io F σ Q ((op dx dy).bind fun v => .ok (v, env)) → r x y H Q) :
    ∀ σ H Q, TV W K (ev2 f g op) σ H Q → tOp r (TV W K f) (TV W K g) σ H Q := by
  rintro σ H Q ⟨P, F0, io, F, env, s, h⟩
  refine TV.goF (prV W K P F0 io σ Q) s h fun v e1 _ x F1 H1 s1 x1 v1 h1 => ?_
  refine TV.goF (prV W K P F0 io σ Q) s1 h1 fun w e2 _ y F2 H2 s2 x2 v2 h2 => ?_
  obtain ⟨dx, l1, h3⟩ := R.of_cases h2 (fun z => z)
  obtain ⟨dy, l2, h4⟩ := R.of_cases h3 (fun z => z)
  exact hr s2 (VOk.look s2 (v1.mono x2) l1) (VOk.look s2 v2 l2) h4
/-- a one-place operation -/
theorem tv_op1 {f : Env → R (Val × Env)} {op : PyData → R Val} {r : V → Hp → VK → Prop}
    (hr : ∀ {P F0 F H : Hp} {io : Option Addr} {env : Env} {σ : L2.St} {x : V} {dx : PyData} {Q : VK}, StOk K P F0 io F env σ H → OpOk K F H x dx → PostV W K P F0 io F σ Q ((op dx).bind fun v => .ok (v, env)) → r x H Q) :
    ∀ σ H Q, TV W K (ev1 f op) σ H Q → tUn r (TV W K f) σ H Q := by
  rintro σ H Q ⟨P, F0, io, F, env, s, h⟩
  refine TV.goF (prV W K P F0 io σ Q) s h fun v e1 _ x F1 H1 s1 x1 v1 h1 => ?_
  obtain ⟨dx, l1, h3⟩ := R.of_cases h1 (fun z => z)
  exact hr s1 (VOk.look s1 v1 l1) h3
end
end MP

/-! Mini, part D1: what is asked of a dict and stored in it. -/
set_option linter.all false
set_option Elab.async false
set_option maxRecDepth 100000
set_option maxHeartbeats 4000000
namespace MP
open PySem PySem.Spec PyProof.Rows L2
/-- a key's item as data -/
def pkD : Key → PyData
  | .inl i => .int i
  | .inr x => .str x
theorem eqDs_key : ∀ (k : List Int) (ks : List Key), eqDs (k.map .int) (ks.map pkD) = decide ((k.map Sum.inl : List Key) = ks)
  | [], [] => by simp [eqDs]
  | [], _ :: _ => by simp [eqDs]
  | _ :: _, [] => by simp [eqDs]
  | x :: k, y :: ks => by
    simp only [List.map_cons, eqDs, eqDs_key k ks]
    cases y with
    | inl i =>
      rw [Bool.eq_iff_iff]
      simp [pkD, eqD]
    | inr z => simp [pkD, eqD]
theorem keys_of {K : PySem.W.Frag} {F : Hp} : ∀ {vs : List V} {as : List PyData}, RpA K F vs as → as.all keyI = true → ∃ ks : List Key, vs = ks.map kV ∧ as = ks.map pkD
  | _, _, .nil, _ => ⟨[], rfl, rfl⟩
  | _, _, .cons a t, h => by
    rw [List.all_cons, Bool.and_eq_true] at h
    obtain ⟨ks, rfl, rfl⟩ := keys_of t h.2
    cases a with
    | int i => exact ⟨.inl i :: ks, rfl, rfl⟩
    | str x => exact ⟨.inr x :: ks, rfl, rfl⟩
    | _ => simp [keyI] at h
theorem ints_of {K : PySem.W.Frag} {F : Hp} : ∀ {vs : List V} {as : List PyData}, RpA K F vs as → as.all intD = true → ∃ ks : List Int, vs = ks.map V.int ∧ as = ks.map .int
  | _, _, .nil, _ => ⟨[], rfl, rfl⟩
  | _, _, .cons a t, h => by
    rw [List.all_cons, Bool.and_eq_true] at h
    obtain ⟨ks, rfl, rfl⟩ := ints_of t h.2
    cases a with
    | int i => exact ⟨i :: ks, rfl, rfl⟩
    | _ => simp [intD] at h
/-- the answers agree -/
def AnsT (K : PySem.W.Frag) (F : Hp) : Option PyData → Option Value → Prop
  | some d, some w => ∃ v, RelV v w ∧ Rp K F v d
  | none, none => True
  | _, _ => False
section
variable {K : PySem.W.Frag} {F : Hp}
theorem look_nil (ks : List Key) : lookT [] ks = none := rfl
theorem look_cons (e : TEnt) (es : List TEnt) (ks : List Key) : lookT (e :: es) ks = if (e.1.map Sum.inl : List Key) = ks then some e.2.2 else lookT es ks := by
  unfold lookT atKey
  rw [List.map_cons, List.find?_cons]
  by_cases h : (e.1.map Sum.inl : List Key) = ks
  · rw [if_pos h, show decide ((mixE e).1 = ks) = true from decide_eq_true h]
    rfl
  · rw [if_neg h, show decide ((mixE e).1 = ks) = false from decide_eq_false h]
theorem look_ok (ks : List Key) : ∀ {es : List TEnt} {vs : List V} {ds : List PyData}, Vals vs (es.map (·.2.2)) → RpA K F vs ds → AnsT K F (dlook ((es.map keyT).zip ds) (.tuple (ks.map pkD))) (lookT es ks)
  | [], _, _, .nil, .nil => trivial
  | e :: es, _, _, .cons r t, .cons a b => by
    rw [look_cons, List.map_cons, List.zip_cons_cons]
    unfold dlook
    have q : eqD (keyT e) (.tuple (ks.map pkD)) = decide ((e.1.map Sum.inl : List Key) = ks) := by
      rw [← eqDs_key]
      simp [keyT, eqD]
    rw [q]
    by_cases h : (e.1.map Sum.inl : List Key) = ks
    · rw [if_pos h, if_pos (decide_eq_true h)]
      exact ⟨_, r, a⟩
    · rw [if_neg h, if_neg (by simp [h])]
      exact look_ok ks t b
/-- .. of int keys -/
def AnsK (K : PySem.W.Frag) (F : Hp) : Option PyData → Option V → Prop
  | some d, some v => Rp K F v d
  | none, none => True
  | _, _ => False
theorem look_okK (i : Int) : ∀ {es : List (Int × V)} {ds : List PyData}, RpA K F (es.map (·.2)) ds → AnsK K F (dlook ((es.map fun e => PyData.int e.1).zip ds) (.int i)) (valV (es.map fun e => (Sum.inl e.1, e.2)) (Sum.inl i : Key))
  | [], _, .nil => trivial
  | e :: es, _, .cons a b => by
    rw [List.map_cons, List.map_cons, List.zip_cons_cons]
    unfold dlook
    have q : eqD (.int e.1) (.int i) = decide (e.1 = i) := by rw [Bool.eq_iff_iff]; simp [eqD]
    rw [q]
    by_cases h : e.1 = i
    · rw [if_pos (decide_eq_true h), valV_pos (by show (Sum.inl e.1 : Key) = Sum.inl i; rw [h])]
      exact a
    · rw [if_neg (by simp [h]), valV_neg (by show ¬ (Sum.inl e.1 : Key) = Sum.inl i; simpa using h)]
      exact look_okK i b
theorem put_notin {es : List TEnt} {k : List Int} {b : Addr} {w : Value} (h : k ∉ es.map (·.1)) : putT es k b w = es ++ [(k, b, w)] := by
  unfold putT
  rw [if_neg]
  rw [List.find?_isSome]
  rintro ⟨x, hx, e⟩
  exact h (by rw [← of_decide_eq_true e]; exact List.mem_map_of_mem hx)
theorem put_in {es : List TEnt} {k : List Int} {b : Addr} {w : Value} (h : k ∈ es.map (·.1)) : putT es k b w = es.map (fun x => if x.1 = k then (x.1, x.2.1, w) else x) := by
  unfold putT
  rw [if_pos]
  rw [List.find?_isSome]
  obtain ⟨x, hx, e⟩ := List.mem_map.mp h
  exact ⟨x, hx, decide_eq_true e⟩
theorem put_cons_ne {e : TEnt} {es : List TEnt} {k : List Int} {b : Addr} {w : Value} (h : e.1 ≠ k) : putT (e :: es) k b w = e :: putT es k b w := by
  by_cases m : k ∈ es.map (·.1)
  · rw [put_in (by rw [List.map_cons]; exact List.mem_cons_of_mem _ m), put_in m, List.map_cons, if_neg h]
  · rw [put_notin (by rw [List.map_cons, List.mem_cons]; rintro (z | z); exact h z.symm; exact m z), put_notin m]
    rfl
theorem put_cons_eq {e : TEnt} {es : List TEnt} {b : Addr} {w : Value} (h : e.1 ∉ es.map (·.1)) : putT (e :: es) e.1 b w = (e.1, e.2.1, w) :: es := by
  rw [put_in (by rw [List.map_cons]; exact List.mem_cons_self ..), List.map_cons, if_pos rfl]
  congr 1
  have : ∀ x ∈ es, (fun x : TEnt => if x.1 = e.1 then (x.1, x.2.1, w) else x) x = id x := fun x hx => by
    show (if x.1 = e.1 then (x.1, x.2.1, w) else x) = x
    rw [if_neg fun z => h (by rw [← z]; exact List.mem_map_of_mem hx)]
  rw [List.map_congr_left this, List.map_id]
theorem put_keys {es : List TEnt} {k : List Int} {b : Addr} {w : Value} : ∀ x ∈ putT es k b w, (∃ y ∈ es, x.1 = y.1 ∧ x.2.1 = y.2.1) ∨ x = (k, b, w) := fun x hx => by
  by_cases m : k ∈ es.map (·.1)
  · rw [put_in m] at hx
    obtain ⟨y, hy, rfl⟩ := List.mem_map.mp hx
    refine .inl ⟨y, hy, ?_⟩
    split <;> exact ⟨rfl, rfl⟩
  · rw [put_notin m] at hx
    rcases List.mem_append.mp hx with hx | hx
    · exact .inl ⟨x, hx, rfl, rfl⟩
    · exact .inr (List.mem_singleton.mp hx)
theorem put_nodup {es : List TEnt} {k : List Int} {b : Addr} {w : Value} (n : (es.map (·.1)).Nodup) : ((putT es k b w).map (·.1)).Nodup := by
  by_cases m : k ∈ es.map (·.1)
  · rw [put_in m, List.map_map]
    have : (fun x : TEnt => x.1) ∘ (fun x : TEnt => if x.1 = k then (x.1, x.2.1, w) else x) = fun x => x.1 := by
      funext x
      show (if x.1 = k then (x.1, x.2.1, w) else x).1 = x.1
      split <;> rfl
    rw [this]
    exact n
  · rw [put_notin m, List.map_append]
    refine List.nodup_append.mpr ⟨n, by simp, fun a ha b hb => ?_⟩
    simp at hb
    rintro rfl
    exact m (hb ▸ ha)
theorem put_ok (k : List Int) (b : Addr) {w : Value} {v : V} {d : PyData} (rv : RelV v w) (rd : Rp K F v d) : ∀ {es : List TEnt} {vs : List V} {ds : List PyData}, (es.map (·.1)).Nodup → Vals vs (es.map (·.2.2)) → RpA K F vs ds →
    ∃ vs' ds', Vals vs' ((putT es k b w).map (·.2.2)) ∧ RpA K F vs' ds' ∧ dput ((es.map keyT).zip ds) (.tuple (k.map .int)) d = ((putT es k b w).map keyT).zip ds'
  | [], _, _, _, .nil, .nil => ⟨[v], [d], .cons rv .nil, .cons rd .nil, rfl⟩
  | e :: es, _, _, n, .cons r t, .cons a c => by
    rw [List.map_cons, List.nodup_cons] at n
    rw [List.map_cons, List.zip_cons_cons]
    unfold dput
    have q : eqD (keyT e) (.tuple (k.map .int)) = decide (e.1 = k) := by
      have h1 := eqDs_key e.1 (k.map Sum.inl)
      rw [List.map_map] at h1
      have h2 : eqD (keyT e) (.tuple (k.map .int)) = eqDs (e.1.map .int) (k.map (pkD ∘ Sum.inl)) := by
        simp only [keyT, eqD]
        rfl
      rw [h2, h1, Bool.eq_iff_iff]
      simp only [decide_eq_true_eq]
      exact ⟨inl_inj, fun z => by rw [z]⟩
    rw [q]
    by_cases h : e.1 = k
    · subst h
      rw [if_pos (by simp), put_cons_eq n.1]
      exact ⟨_, _, .cons rv t, .cons rd c, rfl⟩
    · rw [if_neg (by simp [h]), put_cons_ne h]
      obtain ⟨vs', ds', h1, h2, h3⟩ := put_ok k b rv rd n.2 t c
      refine ⟨_, _, .cons r h1, .cons a h2, ?_⟩
      rw [h3]
      rfl
theorem putK_map (i : Int) (v : V) : ∀ es : List (Int × V), (es.map (·.1)).Nodup → ∃ es' : List (Int × V), putK (es.map fun e => ((Sum.inl e.1 : Key), e.2)) (Sum.inl i) v = es'.map (fun e => (Sum.inl e.1, e.2)) ∧ (es'.map (·.1)).Nodup ∧ ∀ {ds : List PyData} {d : PyData}, RpA K F (es.map (·.2)) ds → Rp K F v d →
      ∃ ds', RpA K F (es'.map (·.2)) ds' ∧ dput ((es.map fun e => PyData.int e.1).zip ds) (.int i) d = (es'.map fun e => PyData.int e.1).zip ds' := by
  intro es n
  have key : ∀ es : List (Int × V), (es.map (·.1)).Nodup → i ∈ es.map (·.1) → (∀ {ds : List PyData} {d : PyData}, RpA K F (es.map (·.2)) ds → Rp K F v d →
      ∃ ds', RpA K F ((es.map fun e => if e.1 = i then (e.1, v) else e).map (·.2)) ds' ∧ dput ((es.map fun e => PyData.int e.1).zip ds) (.int i) d = ((es.map fun e => if e.1 = i then (e.1, v) else e).map fun e => PyData.int e.1).zip ds') := by
    intro es
    induction es with
    | nil => intro _ h; cases h
    | cons e es ih =>
      intro n hm ds d r rd
      rw [List.map_cons, List.nodup_cons] at n
      rw [List.map_cons] at r
      cases r with
      | cons a c =>
        rename_i d0 ds0
        simp only [List.map_cons, List.zip_cons_cons]
        unfold dput
        have q : eqD (.int e.1) (.int i) = decide (e.1 = i) := by rw [Bool.eq_iff_iff]; simp [eqD]
        rw [q]
        by_cases h : e.1 = i
        · rw [if_pos h, if_pos (by simp [h])]
          have e2 : (es.map fun e => if e.1 = i then (e.1, v) else e) = es := by
            have : ∀ x ∈ es, (fun e : Int × V => if e.1 = i then (e.1, v) else e) x = id x := fun x hx => by
              show (if x.1 = i then (x.1, v) else x) = x
              rw [if_neg fun z => n.1 (by rw [h, ← z]; exact List.mem_map_of_mem hx)]
            rw [List.map_congr_left this, List.map_id]
          rw [e2]
          exact ⟨d :: ds0, .cons rd c, rfl⟩
        · rw [if_neg h, if_neg (by simp [h])]
          have hm' : i ∈ es.map (·.1) := by
            rcases List.mem_cons.mp hm with z | z
            · exact absurd z.symm h
            · exact z
          obtain ⟨ds', h1, h2⟩ := ih n.2 hm' c rd
          exact ⟨d0 :: ds', .cons a h1, by rw [h2]; rfl⟩
  have key2 : ∀ es : List (Int × V), i ∉ es.map (·.1) → (∀ {ds : List PyData} {d : PyData}, RpA K F (es.map (·.2)) ds → Rp K F v d →
      ∃ ds', RpA K F ((es ++ [(i, v)]).map (·.2)) ds' ∧ dput ((es.map fun e => PyData.int e.1).zip ds) (.int i) d = ((es ++ [(i, v)]).map fun e => PyData.int e.1).zip ds') := by
    intro es
    induction es with
    | nil =>
      intro _ ds d r rd
      cases r
      exact ⟨[d], .cons rd .nil, rfl⟩
    | cons e es ih =>
      intro hm ds d r rd
      rw [List.map_cons, List.mem_cons, not_or] at hm
      rw [List.map_cons] at r
      cases r with
      | cons a c =>
        rename_i d0 ds0
        rw [List.map_cons, List.zip_cons_cons]
        unfold dput
        have q : eqD (.int e.1) (.int i) = decide (e.1 = i) := by rw [Bool.eq_iff_iff]; simp [eqD]
        rw [q, if_neg (by simp; exact fun z => hm.1 z.symm)]
        obtain ⟨ds', h1, h2⟩ := ih hm.2 c rd
        exact ⟨d0 :: ds', .cons a h1, by rw [h2]; rfl⟩
  have hv : (valV (es.map fun e => ((Sum.inl e.1 : Key), e.2)) (Sum.inl i)).isSome = decide (i ∈ es.map (·.1)) := by
    rw [← valV_any, List.any_map, Bool.eq_iff_iff]
    simp only [List.any_eq_true, decide_eq_true_eq, List.mem_map, Function.comp]
    constructor
    · rintro ⟨x, h1, h2⟩
      exact ⟨x, h1, by simpa using h2⟩
    · rintro ⟨x, h1, h2⟩
      exact ⟨x, h1, by simpa using h2⟩
  by_cases m : i ∈ es.map (·.1)
  · refine ⟨es.map fun e => if e.1 = i then (e.1, v) else e, ?_, ?_, fun r rd => key es n m r rd⟩
    · unfold putK
      rw [if_pos (by rw [valV_any, hv]; exact decide_eq_true m), List.map_map, List.map_map]
      refine List.map_congr_left fun x _ => ?_
      show (if (Sum.inl x.1 : Key) = Sum.inl i then ((Sum.inl x.1 : Key), v) else (Sum.inl x.1, x.2)) = (Sum.inl (if x.1 = i then (x.1, v) else x).1, (if x.1 = i then (x.1, v) else x).2)
      by_cases h : x.1 = i
      · rw [if_pos h, if_pos (by rw [h])]
      · rw [if_neg h, if_neg (by simpa using h)]
    · rw [List.map_map]
      have : (fun x : Int × V => x.1) ∘ (fun e : Int × V => if e.1 = i then (e.1, v) else e) = fun x => x.1 := by
        funext x
        show (if x.1 = i then (x.1, v) else x).1 = x.1
        split <;> rfl
      rw [this]
      exact n
  · refine ⟨es ++ [(i, v)], ?_, ?_, fun r rd => key2 es m r rd⟩
    · rw [putK_new v (by
        have := hv
        rw [decide_eq_false m] at this
        cases q : valV (es.map fun e => ((Sum.inl e.1 : Key), e.2)) (Sum.inl i) with
        | none => rfl
        | some _ => rw [q] at this; cases this), List.map_append]
      rfl
    · rw [List.map_append]
      refine List.nodup_append.mpr ⟨n, by simp, fun a ha b hb => ?_⟩
      simp at hb
      rintro rfl
      exact m (hb ▸ ha)
end
end MP

/-! Mini, part D2: the keys of a dict in their order. -/
set_option linter.all false
set_option Elab.async false
set_option maxRecDepth 100000
set_option maxHeartbeats 4000000
namespace MP
open PySem PySem.Spec PyProof.Rows L2
/-! ### the order of tuples -/
theorem lexB_refl : ∀ a : List Int, lexB a a = true
  | [] => rfl
  | x :: a => by
    unfold lexB
    rw [if_neg (by omega), if_neg (by omega)]
    exact lexB_refl a
theorem lexB_anti : ∀ a b : List Int, lexB a b = true → lexB b a = true → a = b
  | [], [], _, _ => rfl
  | [], _ :: _, _, h => by simp [lexB] at h
  | _ :: _, [], h, _ => by simp [lexB] at h
  | x :: a, y :: b, h, h' => by
    unfold lexB at h h'
    by_cases h1 : x < y
    · rw [if_neg (by omega), if_pos h1] at h'
      cases h'
    · by_cases h2 : y < x
      · rw [if_neg h1, if_pos h2] at h
        cases h
      · rw [if_neg h1, if_neg h2] at h
        rw [if_neg h2, if_neg h1] at h'
        rw [lexB_anti a b h h', show x = y by omega]
theorem lexB_total : ∀ a b : List Int, lexB a b = true ∨ lexB b a = true
  | [], _ => .inl rfl
  | _ :: _, [] => .inr rfl
  | x :: a, y :: b => by
    unfold lexB
    by_cases h1 : x < y
    · exact .inl (by rw [if_pos h1])
    · by_cases h2 : y < x
      · exact .inr (by rw [if_pos h2])
      · rw [if_neg h1, if_neg h2, if_neg h2, if_neg h1]
        exact lexB_total a b
theorem lexB_trans : ∀ a b c : List Int, lexB a b = true → lexB b c = true → lexB a c = true
  | [], _, _, _, _ => rfl
  | _ :: _, [], _, h, _ => by simp [lexB] at h
  | _ :: _, _ :: _, [], _, h => by simp [lexB] at h
  | x :: a, y :: b, z :: c, h, h' => by
    unfold lexB at h h' ⊢
    by_cases h1 : x < y
    · by_cases h3 : y < z
      · rw [if_pos (by omega)]
      · by_cases h4 : z < y
        · rw [if_neg h3, if_pos h4] at h'; cases h'
        · rw [if_pos (by omega)]
    · by_cases h2 : y < x
      · rw [if_neg h1, if_pos h2] at h; cases h
      · rw [if_neg h1, if_neg h2] at h
        by_cases h3 : y < z
        · rw [if_pos (by omega)]
        · by_cases h4 : z < y
          · rw [if_neg h3, if_pos h4] at h'; cases h'
          · rw [if_neg h3, if_neg h4] at h'
            rw [if_neg (by omega), if_neg (by omega)]
            exact lexB_trans a b c h h'
theorem lexB_lt : ∀ a b : List Int, lexLt itemOrd (b.map Sum.inl) (a.map Sum.inl) = !lexB a b
  | [], [] => rfl
  | [], _ :: _ => rfl
  | _ :: _, [] => rfl
  | x :: a, y :: b => by
    rw [List.map_cons, List.map_cons, lex_cons, lexB_lt a b]
    show (decide (y < x) || (!decide (x < y) && !lexB a b)) = !lexB (x :: a) (y :: b)
    conv => rhs; unfold lexB
    by_cases h1 : x < y
    · rw [if_pos h1]
      simp [h1]
      omega
    · by_cases h2 : y < x
      · rw [if_neg h1, if_pos h2]
        simp [h2]
      · rw [if_neg h1, if_neg h2]
        simp [h1, h2]
theorem insT_perm (x : List Int) : ∀ l, (insT x l).Perm (x :: l)
  | [] => .refl _
  | y :: ys => by
    unfold insT
    split
    · exact .refl _
    · exact ((insT_perm x ys).cons y).trans (.swap x y ys)
theorem sortT_perm : ∀ l, (sortT l).Perm l
  | [] => .refl _
  | x :: xs => (insT_perm x _).trans ((sortT_perm xs).cons x)
theorem insT_sorted (x : List Int) : ∀ {l : List (List Int)}, l.Pairwise (fun a b => lexB a b = true) → (insT x l).Pairwise (fun a b => lexB a b = true)
  | [], _ => by simp [insT]
  | y :: ys, h => by
    unfold insT
    split
    · rename_i hxy
      rw [List.pairwise_cons] at h ⊢
      refine ⟨fun z hz => ?_, List.pairwise_cons.mpr h⟩
      rcases List.mem_cons.mp hz with rfl | hz
      · exact hxy
      · exact lexB_trans _ _ _ hxy (h.1 z hz)
    · rename_i hxy
      have hyx := (lexB_total x y).resolve_left hxy
      rw [List.pairwise_cons] at h ⊢
      refine ⟨fun z hz => ?_, insT_sorted x h.2⟩
      rcases List.mem_cons.mp ((insT_perm x ys).mem_iff.mp hz) with rfl | hz
      · exact hyx
      · exact h.1 z hz
theorem sortT_sorted : ∀ l, (sortT l).Pairwise (fun a b => lexB a b = true)
  | [] => .nil
  | x :: xs => insT_sorted x (sortT_sorted xs)
theorem sortT_one : ∀ {a b : List (List Int)}, a.Perm b → a.Pairwise (fun a b => lexB a b = true) → b.Pairwise (fun a b => lexB a b = true) → a = b
  | [], b, p, _, _ => List.Perm.nil_eq p
  | x :: xs, b, p, ha, hb => by
    cases b with
    | nil => exact absurd p.length_eq (by simp)
    | cons y ys =>
      rw [List.pairwise_cons] at ha hb
      have e : x = y := by
        have h1 : x ∈ y :: ys := p.mem_iff.mp List.mem_cons_self
        have h2 : y ∈ x :: xs := p.symm.mem_iff.mp List.mem_cons_self
        rcases List.mem_cons.mp h1 with h1 | h1
        · exact h1
        · rcases List.mem_cons.mp h2 with h2 | h2
          · exact h2.symm
          · exact lexB_anti _ _ (ha.1 y h2) (hb.1 x h1)
      subst e
      rw [sortT_one (List.perm_cons x |>.mp p) ha.2 hb.2]
/-- a list of values that is some order of told ones is told in some order -/
theorem perm_map {α β : Type} (f : α → β) {l m : List β} (p : l.Perm m) : ∀ {xs : List α}, xs.map f = m → ∃ ys : List α, ys.Perm xs ∧ ys.map f = l := by
  induction p with
  | nil =>
    intro xs e
    exact ⟨xs, .refl _, e⟩
  | cons x p ih =>
    intro xs e
    cases xs with
    | nil => cases e
    | cons a xs =>
      rw [List.map_cons] at e
      injection e with e1 e2
      obtain ⟨ys, h1, h2⟩ := ih e2
      exact ⟨a :: ys, h1.cons a, by rw [List.map_cons, e1, h2]⟩
  | swap x y l =>
    intro xs e
    match xs, e with
    | a :: b :: xs, e =>
      simp only [List.map_cons, List.cons.injEq] at e
      exact ⟨b :: a :: xs, .swap a b xs, by simp only [List.map_cons, e.1, e.2.1, e.2.2]⟩
  | trans p q ih1 ih2 =>
    intro xs e
    obtain ⟨ys, h1, h2⟩ := ih2 e
    obtain ⟨zs, h3, h4⟩ := ih1 h2
    exact ⟨zs, h3.trans h1, h4⟩
section
variable {X : Cx}
open PyProof.Rows.G in
/-- sorted(d), the keys tuples of ints -/
theorem call_sortT (hcalm : X.calm = true) : CallR X (.builtin "sorted") (fun vs H Q => ∃ d es, vs = [.ref d] ∧ TDic X.K H d es ∧ (∀ e ∈ es, e.1 ≠ []) ∧ ∀ (es' : List TEnt) (l : Addr), es'.Perm es → es'.Pairwise (fun a b => lexB a.1 b.1 = true) → H l = none → Q (.ref l) (upd H l (.lst (es'.map fun e => V.ref e.2.1)))) := by
  intro pins s σ H xs us Q I r q
  obtain ⟨d, es, rfl, t, hne, q⟩ := q
  obtain ⟨u, rfl, ru⟩ := vals1 r
  cases ru
  obtain ⟨z, hn, o, ent, ep, h1, h2, h3, h4, h5⟩ := t.raw I
  have hsz : ent.size = es.length := ent_len h4
  refine Calls.call_function_entry kind_sorted plain_sorted entry_sorted (args_sorted1 _) ?_
  unfold Builtin.«sorted»
  refine wpAny_bind (m := checkCount "sorted" 1 1 _) (wpAny_pure ?_)
  refine wpAny_bind (PySem.W.kdu_collect (A := X.A.in1) (KdlSrc.rawDict (es := ent) (ep := ep) z) (I.ok.hd hcalm) ⟨o, h1, h2, h3⟩ (by omega) fun h' tk acc hk hacc => ?_)
  have hvs : acc.toList = es.map fun e => Value.ref e.2.1 := by
    apply List.ext_getElem?
    intro i
    by_cases hi : i < es.length
    · have hi' : i < ent.size := by omega
      have hia : i < acc.size := by rw [hacc.1]; exact hi'
      obtain ⟨_, e1⟩ := hacc.2 i _ (Array.getElem?_eq_getElem hia)
      rw [Array.getElem?_toList, Array.getElem?_eq_getElem hia, e1, List.getElem?_map, List.getElem?_eq_getElem hi]
      have e2 : ent[i]? = some (entT es[i]) := by rw [← Array.getElem?_toList, h4, List.getElem?_map, List.getElem?_eq_getElem hi]; rfl
      rw [Array.getElem?_eq_getElem hi'] at e2
      rw [Option.some.inj e2]
      rfl
    · rw [Array.getElem?_toList, Array.getElem?_eq_none (by rw [hacc.1]; omega), List.getElem?_eq_none (by simpa using hi)]
  have I1 : Inv X pins σ H { s with heap := h', toks := tk } := I.kept hk
  have hal : acc.toList.length = es.length := by rw [hvs, List.length_map]
  refine wpAny_bind (wpAny_newList ?_ (by rw [hal]; exact hn))
  have hoL : (h'.push (seqObj "list" acc.toList.toArray 0)).get? h'.objs.size = some (seqObj "list" acc.toList.toArray 0) := Heap.get?_push_size _ rfl
  show wpAny _ _ _ _ _ { s with heap := h'.push (seqObj "list" acc.toList.toArray 0), toks := tk }
  have tup : ∀ e ∈ es, ∃ (ob : Obj) (its : Array Value) (n : Nat), (h'.push (seqObj "list" acc.toList.toArray 0)).get? e.2.1 = some ob ∧ ob.cls = .type "tuple" ∧ ob.data = .seq its n ∧ Vals (e.1.map V.int) its.toList := fun e he => by
    obtain ⟨its, rv, ⟨ob, g1, g2, n, g3⟩, _⟩ := I1.tuple (t.2 e he)
    exact ⟨ob, its.toArray, n, Heap.get?_push_of_some _ g1, g2, g3, by simpa using rv⟩
  have items : ∀ (k : List Int) (us : List Value) (i : Nat), Vals (k.map V.int) us → tupItems (fun _ => false) i us = some (k.map Sum.inl) := by
    intro k
    induction k with
    | nil => intro us i r; cases r; rfl
    | cons n k ih =>
      intro us i r
      rw [List.map_cons] at r
      cases r with
      | cons r0 rt =>
        obtain ⟨tk', rfl⟩ := r0
        show (if (fun _ : Nat => false) i = true then none else (tupItems (fun _ => false) (i + 1) _).map (Sum.inl n :: ·)) = _
        rw [if_neg Bool.false_ne_true, ih _ _ rt]
        rfl
  have key : ∀ e ∈ es, tupKeyC (h'.push (seqObj "list" acc.toList.toArray 0)) (fun _ => false) (.ref e.2.1) = some (e.1.map Sum.inl) := fun e he => by
    obtain ⟨ob, its, n, g1, g2, g3, g4⟩ := tup e he
    have c1 : isTupObj (h'.push (seqObj "list" acc.toList.toArray 0)) (.ref e.2.1) = true := by
      simp [isTupObj, g1, g2]
    unfold tupKeyC
    rw [if_pos c1]
    unfold tupKey
    simp only [g1, g3]
    exact items e.1 _ 0 g4
  have hts : ∃ fs, TupsOf (h'.push (seqObj "list" acc.toList.toArray 0)) (fun _ => false) acc.toList fs := by
    have : ∀ l : List TEnt, (∀ e ∈ l, e ∈ es) → ∃ fs, TupsOf (h'.push (seqObj "list" acc.toList.toArray 0)) (fun _ => false) (l.map fun e => Value.ref e.2.1) fs := by
      intro l
      induction l with
      | nil => exact fun _ => ⟨[], .nil⟩
      | cons e l ih =>
        intro hl
        obtain ⟨fs, hf⟩ := ih fun x hx => hl x (List.mem_cons_of_mem _ hx)
        have he := hl e List.mem_cons_self
        obtain ⟨ob, its, n, g1, g2, g3, g4⟩ := tup e he
        cases hk0 : e.1 with
        | nil => exact absurd hk0 (hne e he)
        | cons k0 ks =>
          rw [hk0, List.map_cons] at g4
          cases hit : its.toList with
          | nil => rw [hit] at g4; cases g4
          | cons v0 vr =>
            rw [hit] at g4
            cases g4 with
            | cons r0 rt =>
              obtain ⟨tk', rfl⟩ := r0
              refine ⟨.int k0 tk' :: fs, .cons ⟨e.2.1, ob, its, n, rfl, g1, g2, g3, by rw [← Array.getElem?_toList, hit]; rfl, fun _ => ⟨k0, tk', rfl⟩, fun z => nomatch z⟩ hf⟩
    obtain ⟨fs, hf⟩ := this es fun _ h => h
    exact ⟨fs, by rw [← hvs] at hf; exact hf⟩
  obtain ⟨fs, hf⟩ := hts
  have hkeys : ∀ v, v ∈ acc.toList → ∃ l, tupKeyC (h'.push (seqObj "list" acc.toList.toArray 0)) (fun _ => false) v = some l := fun v hv => by
    rw [hvs] at hv
    obtain ⟨e, he, rfl⟩ := List.mem_map.mp hv
    exact ⟨_, key e he⟩
  refine wpAny_bind (wpAny_holding (wpAny_call_entry slot_list_sort ⟨_, hoL, rfl⟩ entry_list_sort (list_sort_tups (s := { s with heap := h'.push (seqObj "list" acc.toList.toArray 0), toks := tk }) hoL hf hkeys (by rw [hal]; exact hn) fun st' a1 a2 _ => ⟨_, rfl, ?_⟩) (args_list_sort _)))
  have pv : ((arrOf st').map (·.2)).toList.Perm (es.map fun e => Value.ref e.2.1) := by
    have := (Array.perm_iff_toList_perm.mp a1).map (·.2)
    rw [pairsOf_toList, hvs] at this
    rw [Array.toList_map]
    refine this.trans ?_
    rw [List.map_snd_zip (by simp)]
  obtain ⟨es', e1, e2⟩ := perm_map (fun e : TEnt => Value.ref e.2.1) pv rfl
  obtain ⟨e', he'⟩ := sortedHeap_at (vs := acc.toList) (out := (arrOf st').map (·.2)) hoL
  have pairs : ∀ (i : Nat) (p : Keyed), (arrOf st')[i]? = some p → ∃ e, es'[i]? = some e ∧ p.1 = .ref e.2.1 := fun i p hp => by
    have hp2 : ((arrOf st').map (·.2)).toList[i]? = some p.2 := by
      rw [Array.getElem?_toList, Array.getElem?_map, hp]
      rfl
    rw [← e2, List.getElem?_map] at hp2
    cases g : es'[i]? with
    | none => rw [g] at hp2; cases hp2
    | some e =>
      rw [g] at hp2
      refine ⟨e, rfl, ?_⟩
      have hmem : p ∈ (pairsOf acc.toList).toList := (Array.perm_iff_toList_perm.mp a1).mem_iff.mp (List.mem_of_getElem? (by rw [Array.getElem?_toList]; exact hp))
      rw [pairsOf_toList] at hmem
      obtain ⟨e3, _⟩ := mem_zip_self hmem
      rw [e3]
      exact (Option.some.inj hp2).symm
  have hlen : es'.length = es.length := e1.length_eq
  have asz : (arrOf st').size = es.length := by
    have := congrArg List.length e2
    simpa [hlen] using this.symm
  have pw : es'.Pairwise (fun a b => lexB a.1 b.1 = true) := by
    rw [List.pairwise_iff_getElem]
    intro i j hi hj hij
    have := a2 i j (Nat.le_of_lt hij) (by rw [pairsOf_size, hal]; omega)
    have ki : ∀ m (hm : m < es'.length), KK (tupKindC (h'.push (seqObj "list" acc.toList.toArray 0)) (fun _ => false)) (arrOf st') m = es'[m].1.map Sum.inl := fun m hm => by
      have hm2 : m < (arrOf st').size := by omega
      obtain ⟨e, g1, g2⟩ := pairs m _ (Array.getElem?_eq_getElem hm2)
      rw [List.getElem?_eq_getElem hm] at g1
      cases g1
      unfold KK
      rw [Array.getElem?_eq_getElem hm2]
      simp only [g2]
      have : es'[m] ∈ es := e1.mem_iff.mp (List.getElem_mem hm)
      show (tupKeyC _ _ _).getD _ = _
      rw [key _ this]
      rfl
    rw [ki i hi, ki j hj] at this
    have this : lexLt itemOrd (es'[j].1.map Sum.inl) (es'[i].1.map Sum.inl) = false := this
    rw [lexB_lt] at this
    simpa using this
  refine wpAny_pure ⟨_, rfl, .ref h'.objs.size, upd H h'.objs.size (.lst (es'.map fun e => V.ref e.2.1)), I1.laid (t' := tk) (fun b u e => ?_) (Nat.le_refl _)
    (show ObjOk X.prog X.w _ _ _ (.lst (es'.map fun e => V.ref e.2.1)) from ⟨by rw [List.length_map, hlen]; exact hn, ((arrOf st').map (·.2)).toList, e', ?_, by rw [Array.toArray_toList]; exact he'⟩), rfl, q es' _ e1 pw (I1.hok.fresh (Nat.le_refl _))⟩
  · have hb : b < h'.objs.size := Heap.lt_size e
    rw [sortedHeap_old (Nat.ne_of_lt hb) (by rw [size_push']; exact Nat.lt_succ_of_lt hb)]
    exact Heap.get?_push_of_some _ e
  · rw [← e2]
    have : ∀ l : List TEnt, Vals (l.map fun e => V.ref e.2.1) (l.map fun e => Value.ref e.2.1) := fun l => by
      induction l with
      | nil => exact .nil
      | cons x l ih => exact .cons rfl ih
    exact this es'
end
end MP

/-! Mini, part C2: operations. -/
set_option linter.all false
set_option Elab.async false
set_option maxRecDepth 100000
set_option maxHeartbeats 2000000
namespace MP
open PySem PySem.Spec PyProof.Rows L2

theorem line_of {n : Nat} (h : n ≤ cap) : n ≤ sizeLine := Nat.le_trans h (by decide)
theorem line_lt {n : Nat} (h : n < cap) : n < sizeLine := Nat.lt_of_lt_of_le h (by decide)
def OpSem (W : WX0) (K : PySem.W.Frag) (r : R2) (op : PyData → PyData → R Val) : Prop :=
  ∀ {P F0 F H : Hp} {io : Option Addr} {env : Env} {σ : L2.St} {x y : V} {dx dy : PyData} {Q : VK}, StOk K P F0 io F env σ H → OpOk K F H x dx → OpOk K F H y dy → PostV W K P F0 io F σ Q ((op dx dy).bind fun v => .ok (v, env)) → r x y H Q
def opB : BOp → Operator
  | .add => .Add
  | .sub => .Sub
  | .mul => .Mult
  | .fdiv => .FloorDiv
  | .mod => .Mod
  | .pow => .Pow
def opC : COp → CmpOp
  | .eq => .Eq
  | .ne => .NotEq
  | .lt => .Lt
  | .le => .LtE
  | .gt => .Gt
  | .ge => .GtE
  | .is_ => .Is
  | .isnot => .IsNot
  | .in_ => .In
  | .notin => .NotIn
section
variable {X : Cx} {W : WX0}
theorem PostV.ite {K : PySem.W.Frag} {P F0 F : Hp} {io : Option Addr} {env : Env} {σ : L2.St} {Q : VK} {c : Prop} [Decidable c] {v : Val} (h : PostV W K P F0 io F σ Q ((if c then R.ok v else R.stuck).bind fun v => .ok (v, env))) : c ∧ PostV W K P F0 io F σ Q (.ok (v, env)) := by
  by_cases hc : c
  · rw [if_pos hc] at h
    exact ⟨hc, h⟩
  · rw [if_neg hc] at h
    exact h.elim
theorem tup_eq {K : PySem.W.Frag} {F : Hp} {a : Addr} {d d' : List PyData} (e : d = d') (h : Rp K F (.ref a) (.tuple d)) : Rp K F (.ref a) (.tuple d') := e ▸ h
theorem arith_add : OpSem W X.K (fun x y H Q => (∃ i j, x = .int i ∧ y = .int j ∧ Q (.int (i + j)) H) ∨ rCat x y H Q ∨ rCatN X.K x y H Q) (arith .add) := by
  intro P F0 F H io env σ x y dx dy Q s hx hy h
  cases dx <;> cases dy <;> first | exact h.elim | skip
  · obtain rfl := hx.int
    obtain rfl := hy.int
    exact .inl ⟨_, _, rfl, rfl, h.fz s (.int _)⟩
  · obtain ⟨p, vs, rfl, h1, h2⟩ := hx.list s.fH
    obtain ⟨q, ws, rfl, h3, h4⟩ := hy.list s.fH
    obtain ⟨hc, h⟩ := h.ite
    have e1 := h2.length
    have e2 := h4.length
    exact .inr (.inl ⟨p, q, vs, ws, rfl, rfl, h1, h3, line_of (by omega), fun r hr => h.lst s (h2.append h4) hr⟩)
  · obtain ⟨p, vs, rfl, h1, h2⟩ := hx.tuple s.fH
    obtain ⟨q, ws, rfl, h3, h4⟩ := hy.tuple s.fH
    obtain ⟨hc, h⟩ := h.ite
    have e1 := h2.length
    have e2 := h4.length
    refine .inr (.inr ⟨p, q, vs, ws, rfl, rfl, h1, h3, line_of (by omega), fun e => ?_, fun _ e => ?_, fun r o hr ho => h.tup s (h2.append h4) hr ho⟩)
    · subst e
      cases h2
      rcases hy with hy | ⟨_, _, _, _, z, _⟩ | ⟨_, _, _, _, _, z, _⟩
      · exact h.fz s hy
      · cases z
      · cases z
    · subst e
      cases h4
      rcases hx with hx | ⟨_, _, _, _, z, _⟩ | ⟨_, _, _, _, _, z, _⟩
      · exact h.fz s (tup_eq (List.append_nil _).symm hx)
      · cases z
      · cases z
theorem arith_int {op : BOp} {C : Int → Int → Prop} {g : Int → Int → Int} (hi : ∀ {P F0 F : Hp} {io : Option Addr} {env : Env} {σ : L2.St} {Q : VK} {i j : Int}, PostV W X.K P F0 io F σ Q ((arith op (.int i) (.int j)).bind fun v => .ok (v, env)) → C i j ∧ PostV W X.K P F0 io F σ Q (.ok (.fz (.int (g i j)), env)))
    (hn : ∀ dx dy, (∀ i j, dx = .int i → dy = .int j → False) → arith op dx dy = .stuck) : OpSem W X.K (rI C fun i j => .int (g i j)) (arith op) := by
  intro P F0 F H io env σ x y dx dy Q s hx hy h
  by_cases e : ∃ i j, dx = .int i ∧ dy = .int j
  · obtain ⟨i, j, rfl, rfl⟩ := e
    obtain rfl := hx.int
    obtain rfl := hy.int
    obtain ⟨c, h⟩ := hi h
    exact ⟨_, _, rfl, rfl, c, h.fz s (.int _)⟩
  · rw [hn dx dy fun i j e1 e2 => e ⟨i, j, e1, e2⟩] at h
    exact h.elim
theorem arith_sub : OpSem W X.K (rI (fun _ _ => True) fun i j => .int (i - j)) (arith .sub) :=
  arith_int (op := .sub) (C := (fun _ _ => True)) (g := fun i j => i - j) (fun {P F0 F io env σ Q i j} h => ⟨trivial, h⟩) fun dx dy h => by cases dx <;> cases dy <;> first | exact (h _ _ rfl rfl).elim | rfl
theorem arith_fdiv : OpSem W X.K (rI CDiv fun i j => .int (i / j)) (arith .fdiv) :=
  arith_int (op := .fdiv) (C := CDiv) (g := fun i j => i / j) (fun {P F0 F io env σ Q i j} h => PostV.ite (c := 0 < j ∧ j < 1073741824) h) fun dx dy h => by cases dx <;> cases dy <;> first | exact (h _ _ rfl rfl).elim | rfl
theorem arith_mod : OpSem W X.K (rI (fun _ j => 0 < j) fun i j => .int (i % j)) (arith .mod) :=
  arith_int (op := .mod) (C := (fun _ j => 0 < j)) (g := fun i j => i % j) (fun {P F0 F io env σ Q i j} h => PostV.ite (c := 0 < j) h) fun dx dy h => by cases dx <;> cases dy <;> first | exact (h _ _ rfl rfl).elim | rfl
theorem arith_pow : OpSem W X.K (rI CPow fun i j => .int (i ^ j.toNat)) (arith .pow) :=
  arith_int (op := .pow) (C := CPow) (g := fun i j => i ^ j.toNat) (fun {P F0 F io env σ Q i j} h => PostV.ite (c := 0 ≤ j ∧ j ≤ 1000000 ∧ i.natAbs < 2 ^ 64) h) fun dx dy h => by cases dx <;> cases dy <;> first | exact (h _ _ rfl rfl).elim | rfl
theorem op_sub' : OpR X (binaryOp .Sub) (rI (fun _ _ => True) fun i j => .int (i - j)) := opI fun _ _ _ _ _ _ _ _ q => sub_int q
theorem arith_mul : OpSem W X.K (fun x y H Q => rI CMul (fun i j => .int (i * j)) x y H Q ∨ rRep x y H Q ∨ rRepN X.K x y H Q) (arith .mul) := by
  intro P F0 F H io env σ x y dx dy Q s hx hy h
  cases dx <;> cases dy <;> first | exact h.elim | skip
  · obtain rfl := hx.int
    obtain rfl := hy.int
    obtain ⟨c, h⟩ := h.ite
    exact .inl ⟨_, _, rfl, rfl, c, h.fz s (.int _)⟩
  · obtain ⟨p, vs, rfl, h1, h2⟩ := hx.list s.fH
    obtain rfl := hy.int
    obtain ⟨⟨c1, c2, c3⟩, h⟩ := h.ite
    have e1 := h2.length
    exact .inr (.inl ⟨p, _, vs, rfl, rfl, h1, c1, c2, line_of (by rw [e1]; exact c3), fun r hr => h.lst s (h2.rep _) hr⟩)
  · obtain ⟨p, vs, rfl, h1, h2⟩ := hx.tuple s.fH
    obtain rfl := hy.int
    obtain ⟨⟨c0, c1, c2, c3⟩, h⟩ := h.ite
    have e1 := h2.length
    refine .inr (.inr ⟨p, _, vs, rfl, rfl, h1, fun e => ?_, c1, c2, by omega, fun e => ?_, fun r o hr ho => h.tup s (h2.rep _) hr ho⟩)
    · subst e
      simp at e1
      omega
    · subst e
      rcases hx with hx | ⟨_, _, _, _, z, _⟩ | ⟨_, _, _, _, _, z, _⟩
      · exact h.fz s (tup_eq (by simp) hx)
      · cases z
      · cases z
/-- each operator has a rule that serves its answers -/
theorem arith_ok (op : BOp) : ∃ r, OpR X (binaryOp (opB op)) r ∧ OpSem W X.K r (arith op) := by
  cases op with
  | add => exact ⟨_, OpR.or (r := fun x y H Q => ∃ i j, x = .int i ∧ y = .int j ∧ Q (.int (i + j)) H) op_add (op_cat.or op_catN), arith_add⟩
  | sub => exact ⟨_, op_sub', arith_sub⟩
  | mul => exact ⟨_, op_mul.or (op_rep.or op_repN), arith_mul⟩
  | fdiv => exact ⟨_, op_fdiv, arith_fdiv⟩
  | mod => exact ⟨_, op_mod, arith_mod⟩
  | pow => exact ⟨_, op_pow, arith_pow⟩

/-! ### comparisons -/
mutual
theorem eqOk_lay : ∀ (n : Nat) (d : PyData), eqOk n d = true → d.canLay0 = true ∧ d.depth ≤ n
  | n, .none, _ => by simp [PyData.canLay0, PyData.depth]
  | n, .bool _, _ => by simp [PyData.canLay0, PyData.depth]
  | n, .int _, _ => by simp [PyData.canLay0, PyData.depth]
  | n, .str s, h => ⟨by simpa [PyData.canLay0, PyData.strOk, eqOk] using h, by simp [PyData.depth]⟩
  | 0, .list _, h => by simp [eqOk] at h
  | 0, .tuple _, h => by simp [eqOk] at h
  | 0, .dict _, h => by simp [eqOk] at h
  | n + 1, .dict _, h => by simp [eqOk] at h
  | n + 1, .list xs, h => by
    have q := eqOkAll_lay n xs (by simpa [eqOk] using h)
    simp only [PyData.canLay0, PyData.depth]
    exact ⟨q.1, by omega⟩
  | n + 1, .tuple xs, h => by
    have q := eqOkAll_lay n xs (by simpa [eqOk] using h)
    simp only [PyData.canLay0, PyData.depth]
    exact ⟨q.1, by omega⟩
theorem eqOkAll_lay : ∀ (n : Nat) (xs : List PyData), eqOkAll n xs = true → PyData.canLayAll0 xs = true ∧ PyData.depthAll xs ≤ n
  | n, [], _ => by simp [PyData.canLayAll0, PyData.depthAll]
  | n, x :: xs, h => by
    have h' : eqOk n x = true ∧ eqOkAll n xs = true := by simpa [eqOkAll] using h
    have q1 := eqOk_lay n x h'.1
    have q2 := eqOkAll_lay n xs h'.2
    simp only [PyData.canLayAll0, PyData.depthAll]
    exact ⟨by rw [q1.1, q2.1]; rfl, by omega⟩
end
theorem eqOk_shaped {d : PyData} (h : eqOk 40 d = true) : SeqAt.shaped d = true := by
  obtain ⟨h1, h2⟩ := eqOk_lay 40 d h
  show (d.canLay0 && decide (d.depth ≤ 64)) = true
  rw [h1, decide_eq_true (by omega)]
  rfl
mutual
theorem eqD_eqv : ∀ (n : Nat) (a b : PyData), eqOk n a = true → eqOk n b = true → PyData.eqv a b = eqD a b
  | n, .none, b, _, hb => by cases b <;> simp [PyData.eqv, eqD]
  | n, .bool _, b, _, hb => by cases b <;> simp [PyData.eqv, eqD]
  | n, .int _, b, _, hb => by cases b <;> simp [PyData.eqv, eqD]
  | n, .str _, b, _, hb => by cases b <;> simp [PyData.eqv, eqD]
  | 0, .list _, _, h, _ => by simp [eqOk] at h
  | 0, .tuple _, _, h, _ => by simp [eqOk] at h
  | 0, .dict _, _, h, _ => by simp [eqOk] at h
  | n + 1, .dict _, _, h, _ => by simp [eqOk] at h
  | n + 1, .list xs, b, h, hb => by
    cases b <;> first | (simp [PyData.eqv, eqD]; done) | skip
    rename_i ys
    rw [PyData.eqv, eqD]
    exact eqDs_eqv n xs ys (by simpa [eqOk] using h) (by simpa [eqOk] using hb)
  | n + 1, .tuple xs, b, h, hb => by
    cases b <;> first | (simp [PyData.eqv, eqD]; done) | skip
    rename_i ys
    rw [PyData.eqv, eqD]
    exact eqDs_eqv n xs ys (by simpa [eqOk] using h) (by simpa [eqOk] using hb)
theorem eqDs_eqv : ∀ (n : Nat) (a b : List PyData), eqOkAll n a = true → eqOkAll n b = true → PyData.eqvAll a b = eqDs a b
  | n, [], b, _, _ => by cases b <;> simp [PyData.eqvAll, eqDs]
  | n, x :: xs, [], _, _ => by simp [PyData.eqvAll, eqDs]
  | n, x :: xs, y :: ys, h, hb => by
    have h' : eqOk n x = true ∧ eqOkAll n xs = true := by simpa [eqOkAll] using h
    have hb' : eqOk n y = true ∧ eqOkAll n ys = true := by simpa [eqOkAll] using hb
    rw [PyData.eqvAll, eqDs, eqD_eqv n x y h'.1 hb'.1, eqDs_eqv n xs ys h'.2 hb'.2]
end
/-- flat values and flat data -/
theorem flat_of {K : PySem.W.Frag} {F : Hp} {x : V} {d : PyData} (h : Rp K F x d) (f : flatD d = true) : flatV x = true := by
  cases h <;> first | rfl | exact f
theorem eqV_of {K : PySem.W.Frag} {F : Hp} {x y : V} {d e : PyData} (h : Rp K F x d) (h' : Rp K F y e) (f : flatD d = true) (f' : flatD e = true) : eqV x y = eqD d e := by
  cases h <;> cases h' <;> first | rfl | (simp [eqV, eqD]; done) | (simp [flatD] at f; done) | (simp [flatD] at f'; done)
theorem flats_of {K : PySem.W.Frag} {F : Hp} : ∀ {xs : List V} {ds : List PyData}, RpA K F xs ds → ds.all flatD = true → xs.all flatV = true
  | _, _, .nil, _ => rfl
  | _, _, .cons a t, f => by
    rw [List.all_cons, Bool.and_eq_true] at f
    rw [List.all_cons, flat_of a f.1, flats_of t f.2]
    rfl
theorem inV_of {K : PySem.W.Frag} {F : Hp} {x : V} {d : PyData} (h : Rp K F x d) (f : flatD d = true) : ∀ {xs : List V} {ds : List PyData}, RpA K F xs ds → ds.all flatD = true → inV x xs = inD d ds
  | _, _, .nil, _ => rfl
  | _, _, .cons a t, g => by
    rw [List.all_cons, Bool.and_eq_true] at g
    have ih := inV_of h f t g.2
    unfold inV inD at ih ⊢
    rw [List.any_cons, List.any_cons, ih, eqV_of a h g.1 f]
theorem cmp_int {op : COp} {g : Int → Int → Bool} (hi : ∀ i j, cmpD op (.int i) (.int j) = .ok (g i j))
    (hn : ∀ dx dy, (∀ i j, dx = .int i → dy = .int j → False) → cmpD op dx dy = .stuck) : OpSem W X.K (rI0 fun i j => .bl (g i j)) (cmpV op) := by
  intro P F0 F H io env σ x y dx dy Q s hx hy h
  by_cases e : ∃ i j, dx = .int i ∧ dy = .int j
  · obtain ⟨i, j, rfl, rfl⟩ := e
    obtain rfl := hx.int
    obtain rfl := hy.int
    unfold cmpV at h
    rw [hi] at h
    exact ⟨_, _, rfl, rfl, PostV.fz h s (.bl _)⟩
  · unfold cmpV at h
    rw [hn dx dy fun i j e1 e2 => e ⟨i, j, e1, e2⟩] at h
    exact h.elim
theorem cmp_lt : OpSem W X.K (rI0 fun i j => .bl (decide (i < j))) (cmpV .lt) := cmp_int (fun _ _ => rfl) fun dx dy h => by cases dx <;> cases dy <;> first | exact (h _ _ rfl rfl).elim | rfl
theorem cmp_le : OpSem W X.K (rI0 fun i j => .bl (decide (i ≤ j))) (cmpV .le) := cmp_int (fun _ _ => rfl) fun dx dy h => by cases dx <;> cases dy <;> first | exact (h _ _ rfl rfl).elim | rfl
theorem cmp_gt : OpSem W X.K (rI0 fun i j => .bl (decide (j < i))) (cmpV .gt) := cmp_int (fun _ _ => rfl) fun dx dy h => by cases dx <;> cases dy <;> first | exact (h _ _ rfl rfl).elim | rfl
theorem cmp_ge : OpSem W X.K (rI0 fun i j => .bl (decide (j ≤ i))) (cmpV .ge) := cmp_int (fun _ _ => rfl) fun dx dy h => by cases dx <;> cases dy <;> first | exact (h _ _ rfl rfl).elim | rfl
theorem PostV.iteB {K : PySem.W.Frag} {P F0 F : Hp} {io : Option Addr} {env : Env} {σ : L2.St} {Q : VK} {c : Bool} {b : Bool} (h : PostV W K P F0 io F σ Q ((R.bind (if c = true then R.ok b else R.stuck) fun b => R.ok (Val.fz (.bool b))).bind fun v => .ok (v, env))) : c = true ∧ PostV W K P F0 io F σ Q (.ok (.fz (.bool b), env)) := by
  cases c with
  | true => exact ⟨rfl, h⟩
  | false => exact h.elim
mutual
theorem eqOk_nd : ∀ (n : Nat) (d : PyData), eqOk n d = true → noDic d = true
  | n, .none, _ => rfl
  | n, .bool _, _ => rfl
  | n, .int _, _ => rfl
  | n, .str _, _ => rfl
  | 0, .list _, h => by simp [eqOk] at h
  | 0, .tuple _, h => by simp [eqOk] at h
  | 0, .dict _, h => by simp [eqOk] at h
  | n + 1, .dict _, h => by simp [eqOk] at h
  | n + 1, .list xs, h => by
    rw [noDic]
    exact eqOks_nd n xs (by simpa [eqOk] using h)
  | n + 1, .tuple xs, h => by
    rw [noDic]
    exact eqOks_nd n xs (by simpa [eqOk] using h)
theorem eqOks_nd : ∀ (n : Nat) (ds : List PyData), eqOkAll n ds = true → noDics ds = true
  | n, [], _ => rfl
  | n, x :: xs, h => by
    have h' : eqOk n x = true ∧ eqOkAll n xs = true := by simpa [eqOkAll] using h
    rw [noDics, eqOk_nd n x h'.1, eqOks_nd n xs h'.2]
    rfl
end
theorem nd_ne {d : PyData} (h : noDic d = true) : ∀ kvs, d ≠ .dict kvs := fun kvs e => by
  rw [e] at h
  simp [noDic] at h
theorem flat_ne {d : PyData} (h : flatD d = true) : ∀ kvs, d ≠ .dict kvs := fun kvs e => by
  rw [e] at h
  cases h
theorem cmp_eq : OpSem W X.K (rEqD X.K) (cmpV .eq) := by
  intro P F0 F H io env σ x y dx dy Q s hx hy h
  obtain ⟨c, h⟩ := PostV.iteB (c := eqOk 40 dx && eqOk 40 dy) h
  rw [Bool.and_eq_true] at c
  have n1 := eqOk_nd _ _ c.1
  have n2 := eqOk_nd _ _ c.2
  refine ⟨dx, dy, Rp.dp _ _ n1 (hx.rp s.fH (nd_ne n1)), Rp.dp _ _ n2 (hy.rp s.fH (nd_ne n2)), eqOk_shaped c.1, eqOk_shaped c.2, ?_⟩
  rw [eqD_eqv 40 dx dy c.1 c.2]
  exact h.fz s (.bl _)
theorem cmp_ne : OpSem W X.K (rNeD X.K) (cmpV .ne) := by
  intro P F0 F H io env σ x y dx dy Q s hx hy h
  obtain ⟨c, h⟩ := PostV.iteB (c := eqOk 40 dx && eqOk 40 dy) h
  rw [Bool.and_eq_true] at c
  have n1 := eqOk_nd _ _ c.1
  have n2 := eqOk_nd _ _ c.2
  refine ⟨dx, dy, Rp.dp _ _ n1 (hx.rp s.fH (nd_ne n1)), Rp.dp _ _ n2 (hy.rp s.fH (nd_ne n2)), eqOk_shaped c.1, eqOk_shaped c.2, ?_⟩
  rw [eqD_eqv 40 dx dy c.1 c.2]
  exact h.fz s (.bl _)
theorem isNone_op {K : PySem.W.Frag} {F H : Hp} {x : V} {d : PyData} (e : Ext F H) (h : OpOk K F H x d) : decide (x = .non) = isNone d := by
  cases d with
  | dict kvs =>
    obtain ⟨k, r, rfl⟩ := h.dicF
    obtain ⟨p, u, rfl, _⟩ := h.dict e
    rfl
  | none => rw [h.none]; rfl
  | bool b => rw [h.bool]; rfl
  | int b => rw [h.int]; rfl
  | str b => rw [h.str]; rfl
  | list ds =>
    obtain ⟨p, vs, rfl, _⟩ := h.list e
    rfl
  | tuple ds =>
    obtain ⟨p, vs, rfl, _⟩ := h.tuple e
    rfl
theorem isNone_of {K : PySem.W.Frag} {F : Hp} {x : V} {d : PyData} (h : Rp K F x d) : decide (x = .non) = isNone d := by
  cases h <;> simp [isNone]
def rIsA : R2 := fun x y H Q => (y = .non ∧ Q (.bl (decide (x = .non))) H) ∨ rIsB x y H Q
def rNotA : R2 := fun x y H Q => (y = .non ∧ Q (.bl (!decide (x = .non))) H) ∨ rNotB x y H Q
theorem cmp_is : OpSem W X.K rIsA (cmpV .is_) := by
  intro P F0 F H io env σ x y dx dy Q s hx hy h
  cases dy with
  | none =>
    obtain rfl := hy.none
    refine .inl ⟨rfl, ?_⟩
    rw [isNone_op s.fH hx]
    have h : PostV W X.K P F0 io F σ Q (.ok (.fz (.bool (isNone dx)), env)) := by cases dx <;> exact h
    exact h.fz s (.bl _)
  | bool b =>
    cases dx <;> first | exact h.elim | skip
    obtain rfl := hx.bool
    obtain rfl := hy.bool
    refine .inr ⟨_, _, rfl, rfl, ?_⟩
    rw [← Bool.beq_eq_decide_eq]
    exact PostV.fz h s (.bl _)
  | _ => exact False.elim (by cases dx <;> exact h)
theorem cmp_isnot : OpSem W X.K rNotA (cmpV .isnot) := by
  intro P F0 F H io env σ x y dx dy Q s hx hy h
  cases dy with
  | none =>
    obtain rfl := hy.none
    refine .inl ⟨rfl, ?_⟩
    rw [isNone_op s.fH hx]
    have h : PostV W X.K P F0 io F σ Q (.ok (.fz (.bool (!isNone dx)), env)) := by cases dx <;> exact h
    exact h.fz s (.bl _)
  | bool b =>
    cases dx <;> first | exact h.elim | skip
    obtain rfl := hx.bool
    obtain rfl := hy.bool
    refine .inr ⟨_, _, rfl, rfl, ?_⟩
    rw [← Bool.beq_eq_decide_eq]
    exact PostV.fz h s (.bl _)
  | _ => exact False.elim (by cases dx <;> exact h)
theorem cmp_in : OpSem W X.K (fun x y H Q => rIn X.K false x y H Q ∨ rInT X.K false x y H Q ∨ rInK false x y H Q) (cmpV .in_) := by
  intro P F0 F H io env σ x y dx dy Q s hx hy h
  cases dy <;> first | (exfalso; cases dx <;> exact h) | skip
  · rename_i ds
    obtain ⟨p, vs, rfl, h1, h2⟩ := hy.list s.fH
    obtain ⟨c, h⟩ := PostV.iteB (c := flatD dx && ds.all flatD) (b := inD dx ds) (by cases dx <;> exact h)
    rw [Bool.and_eq_true] at c
    have rx := hx.rp s.fH (flat_ne c.1)
    have r2 := RpA.mono s.fH _ _ h2
    refine .inl ⟨p, vs, rfl, .inl (SqL.of h1), flat_of rx c.1, flats_of r2 c.2, ?_⟩
    rw [if_neg Bool.false_ne_true, inV_of rx c.1 r2 c.2]
    exact h.fz s (.bl _)
  · rename_i ds
    obtain ⟨p, vs, rfl, h1, h2⟩ := hy.tuple s.fH
    obtain ⟨c, h⟩ := PostV.iteB (c := flatD dx && ds.all flatD) (b := inD dx ds) (by cases dx <;> exact h)
    rw [Bool.and_eq_true] at c
    have rx := hx.rp s.fH (flat_ne c.1)
    have r2 := RpA.mono s.fH _ _ h2
    refine .inl ⟨p, vs, rfl, .inr h1, flat_of rx c.1, flats_of r2 c.2, ?_⟩
    rw [if_neg Bool.false_ne_true, inV_of rx c.1 r2 c.2]
    exact h.fz s (.bl _)
  · rename_i kvs
    obtain ⟨k, r, rfl⟩ := hy.dicF
    obtain ⟨c, h0⟩ := PostV.iteB (c := askOk k dx) (b := (dlook r dx).isSome) (by cases dx <;> exact h)
    clear h
    obtain ⟨p, u, rfl, hu, ho⟩ := hy.dict s.fH
    cases k with
    | true =>
      cases dx <;> first | (cases c; done) | skip
      rename_i as
      obtain ⟨q, vs, rfl, h1, h2⟩ := hx.tuple s.fH
      obtain ⟨ks, rfl, rfl⟩ := keys_of h2 c
      obtain ⟨es, ws, ds, rfl, k1, k2, k3, k4, rfl⟩ := ho
      refine .inr (.inl ⟨p, q, es, ks, rfl, rfl, ⟨hu, fun e he => ext_t s.fH (k1 e he).t⟩, h1, ?_⟩)
      have a := look_ok ks k3 k4
      have e : (lookT es ks).isSome = (dlook ((es.map keyT).zip ds) (.tuple (ks.map pkD))).isSome := by
        cases e1 : dlook ((es.map keyT).zip ds) (.tuple (ks.map pkD)) with
        | none =>
          cases e2 : lookT es ks with
          | none => rfl
          | some w => rw [e1, e2] at a; exact a.elim
        | some d =>
          cases e2 : lookT es ks with
          | none => rw [e1, e2] at a; exact a.elim
          | some w => rfl
      rw [if_neg Bool.false_ne_true, e]
      exact h0.fz s (.bl _)
    | false =>
      cases dx <;> first | (cases c; done) | skip
      rename_i i
      obtain rfl := hx.int
      obtain ⟨es, ds, rfl, k2, k3, rfl⟩ := ho
      refine .inr (.inr ⟨p, i, _, rfl, rfl, hu, ?_⟩)
      have a := look_okK i k3
      have e : (valV (es.map fun e => (Sum.inl e.1, e.2)) (Sum.inl i : Key)).isSome = (dlook ((es.map fun e => PyData.int e.1).zip ds) (.int i)).isSome := by
        cases e1 : dlook ((es.map fun e => PyData.int e.1).zip ds) (.int i) with
        | none =>
          cases e2 : valV (es.map fun e => (Sum.inl e.1, e.2)) (Sum.inl i : Key) with
          | none => rfl
          | some w => rw [e1, e2] at a; exact a.elim
        | some d =>
          cases e2 : valV (es.map fun e => (Sum.inl e.1, e.2)) (Sum.inl i : Key) with
          | none => rw [e1, e2] at a; exact a.elim
          | some w => rfl
      rw [if_neg Bool.false_ne_true, e]
      exact h0.fz s (.bl _)
theorem cmp_notin : OpSem W X.K (fun x y H Q => rIn X.K true x y H Q ∨ rInT X.K true x y H Q ∨ rInK true x y H Q) (cmpV .notin) := by
  intro P F0 F H io env σ x y dx dy Q s hx hy h
  cases dy <;> first | (exfalso; cases dx <;> exact h) | skip
  · rename_i ds
    obtain ⟨p, vs, rfl, h1, h2⟩ := hy.list s.fH
    obtain ⟨c, h⟩ := PostV.iteB (c := flatD dx && ds.all flatD) (b := !inD dx ds) (by cases dx <;> exact h)
    rw [Bool.and_eq_true] at c
    have rx := hx.rp s.fH (flat_ne c.1)
    have r2 := RpA.mono s.fH _ _ h2
    refine .inl ⟨p, vs, rfl, .inl (SqL.of h1), flat_of rx c.1, flats_of r2 c.2, ?_⟩
    rw [if_pos rfl, inV_of rx c.1 r2 c.2]
    exact h.fz s (.bl _)
  · rename_i ds
    obtain ⟨p, vs, rfl, h1, h2⟩ := hy.tuple s.fH
    obtain ⟨c, h⟩ := PostV.iteB (c := flatD dx && ds.all flatD) (b := !inD dx ds) (by cases dx <;> exact h)
    rw [Bool.and_eq_true] at c
    have rx := hx.rp s.fH (flat_ne c.1)
    have r2 := RpA.mono s.fH _ _ h2
    refine .inl ⟨p, vs, rfl, .inr h1, flat_of rx c.1, flats_of r2 c.2, ?_⟩
    rw [if_pos rfl, inV_of rx c.1 r2 c.2]
    exact h.fz s (.bl _)
  · rename_i kvs
    obtain ⟨k, r, rfl⟩ := hy.dicF
    obtain ⟨c, h0⟩ := PostV.iteB (c := askOk k dx) (b := !(dlook r dx).isSome) (by cases dx <;> exact h)
    clear h
    obtain ⟨p, u, rfl, hu, ho⟩ := hy.dict s.fH
    cases k with
    | true =>
      cases dx <;> first | (cases c; done) | skip
      rename_i as
      obtain ⟨q, vs, rfl, h1, h2⟩ := hx.tuple s.fH
      obtain ⟨ks, rfl, rfl⟩ := keys_of h2 c
      obtain ⟨es, ws, ds, rfl, k1, k2, k3, k4, rfl⟩ := ho
      refine .inr (.inl ⟨p, q, es, ks, rfl, rfl, ⟨hu, fun e he => ext_t s.fH (k1 e he).t⟩, h1, ?_⟩)
      have a := look_ok ks k3 k4
      have e : (lookT es ks).isSome = (dlook ((es.map keyT).zip ds) (.tuple (ks.map pkD))).isSome := by
        cases e1 : dlook ((es.map keyT).zip ds) (.tuple (ks.map pkD)) with
        | none =>
          cases e2 : lookT es ks with
          | none => rfl
          | some w => rw [e1, e2] at a; exact a.elim
        | some d =>
          cases e2 : lookT es ks with
          | none => rw [e1, e2] at a; exact a.elim
          | some w => rfl
      rw [if_pos rfl, e]
      exact h0.fz s (.bl _)
    | false =>
      cases dx <;> first | (cases c; done) | skip
      rename_i i
      obtain rfl := hx.int
      obtain ⟨es, ds, rfl, k2, k3, rfl⟩ := ho
      refine .inr (.inr ⟨p, i, _, rfl, rfl, hu, ?_⟩)
      have a := look_okK i k3
      have e : (valV (es.map fun e => (Sum.inl e.1, e.2)) (Sum.inl i : Key)).isSome = (dlook ((es.map fun e => PyData.int e.1).zip ds) (.int i)).isSome := by
        cases e1 : dlook ((es.map fun e => PyData.int e.1).zip ds) (.int i) with
        | none =>
          cases e2 : valV (es.map fun e => (Sum.inl e.1, e.2)) (Sum.inl i : Key) with
          | none => rfl
          | some w => rw [e1, e2] at a; exact a.elim
        | some d =>
          cases e2 : valV (es.map fun e => (Sum.inl e.1, e.2)) (Sum.inl i : Key) with
          | none => rw [e1, e2] at a; exact a.elim
          | some w => rfl
      rw [if_pos rfl, e]
      exact h0.fz s (.bl _)
theorem cmp_ok (hu : X.A.units + 64 < cLine) (op : COp) : ∃ r, OpR X (compareOp (opC op)) r ∧ OpSem W X.K r (cmpV op) := by
  cases op with
  | eq => exact ⟨_, op_eqD hu, cmp_eq⟩
  | ne => exact ⟨_, op_neD hu, cmp_ne⟩
  | lt => exact ⟨_, op_lt, cmp_lt⟩
  | le => exact ⟨_, op_le, cmp_le⟩
  | gt => exact ⟨_, op_gt, cmp_gt⟩
  | ge => exact ⟨_, op_ge, cmp_ge⟩
  | is_ => exact ⟨_, OpR.or op_isN op_isBl, cmp_is⟩
  | isnot => exact ⟨_, OpR.or op_notN op_notBl, cmp_isnot⟩
  | in_ => exact ⟨_, op_in_seq.or ((op_inT (by omega)).or (op_inK (by omega))), cmp_in⟩
  | notin => exact ⟨_, op_notIn_seq.or ((op_notinT (by omega)).or (op_notinK (by omega))), cmp_notin⟩
/-- a comparison answers a bool -/
theorem cmp_nx (op : COp) (x y : PyData) (c : Nat) : cmpD op x y ≠ .exc c := by
  unfold cmpD
  split <;> first | (intro z; cases z; done) | (split <;> (intro z; cases z))
/-- a comparison answers a bool -/
theorem cmp_bl {op : COp} {dx dy : PyData} {v : Val} (h : cmpV op dx dy = .ok v) : ∃ b, v = .fz (.bool b) ∧ cmpD op dx dy = .ok b := by
  unfold cmpV at h
  cases e : cmpD op dx dy with
  | stuck => rw [e] at h; cases h
  | exc c => rw [e] at h; cases h
  | ok b =>
    rw [e] at h
    cases h
    exact ⟨b, rfl, rfl⟩

/-! ### subscripts -/
theorem ixOf_eq (n : Nat) (i : Int) : ixOf n i = ixN n i := rfl
theorem atI_of {K : PySem.W.Frag} {F : Hp} {xs : List V} {ds : List PyData} {i : Int} {d : PyData} (h : RpA K F xs ds) (e : atD ds i = some d) : ∃ v, atI xs i = some v ∧ Rp K F v d := by
  unfold atD at e
  rw [ixOf_eq, ← h.length] at e
  unfold atI
  cases q : ixN xs.length i with
  | none => rw [q] at e; cases e
  | some j =>
    rw [q] at e
    exact h.get e
theorem idx_dic {P F0 F H : Hp} {io : Option Addr} {env : Env} {σ : L2.St} {x y : V} {kvs : List (PyData × PyData)} {dy : PyData} {Q : VK} (s : StOk X.K P F0 io F env σ H) (hx : OpOk X.K F H x (.dict kvs)) (hy : OpOk X.K F H y dy) (h : PostV W X.K P F0 io F σ Q ((idxD (.dict kvs) dy).bind fun v => .ok (v, env))) : rGetT X.K x y H Q ∨ rGetK x y H Q := by
  obtain ⟨k, r, rfl⟩ := hx.dicF
  obtain ⟨p, u, rfl, hu, ho⟩ := hx.dict s.fH
  have h0 : PostV W X.K P F0 io F σ Q ((if askOk k dy then (match dlook r dy with
    | some v => R.ok (Val.fz v)
    | none => .stuck) else .stuck).bind fun v => .ok (v, env)) := by cases dy <;> exact h
  clear h
  by_cases c : askOk k dy = true
  · rw [if_pos c] at h0
    cases e1 : dlook r dy with
    | none => rw [e1] at h0; exact h0.elim
    | some d =>
      rw [e1] at h0
      cases k with
      | true =>
        cases dy <;> first | (cases c; done) | skip
        obtain ⟨q, vs, rfl, h1, h2⟩ := hy.tuple s.fH
        obtain ⟨ks, rfl, rfl⟩ := keys_of h2 c
        obtain ⟨es, ws, ds, rfl, k1, k2, k3, k4, rfl⟩ := ho
        have a := look_ok ks k3 k4
        rw [e1] at a
        cases e2 : lookT es ks with
        | none => rw [e2] at a; exact a.elim
        | some w =>
          rw [e2] at a
          obtain ⟨v, a1, a2⟩ := a
          exact .inl ⟨p, q, es, ks, v, w, rfl, rfl, ⟨hu, fun e he => ext_t s.fH (k1 e he).t⟩, h1, e2, a1, PostV.fz h0 s a2⟩
      | false =>
        cases dy <;> first | (cases c; done) | skip
        rename_i i
        obtain rfl := hy.int
        obtain ⟨es, ds, rfl, k2, k3, rfl⟩ := ho
        have a := look_okK i k3
        rw [e1] at a
        cases e2 : valV (es.map fun e => (Sum.inl e.1, e.2)) (Sum.inl i : Key) with
        | none => rw [e2] at a; exact a.elim
        | some w =>
          rw [e2] at a
          exact .inr ⟨p, i, _, w, rfl, rfl, hu, e2, PostV.fz h0 s a⟩
  · rw [if_neg c] at h0
    exact h0.elim
theorem idx_ok (hu : X.A.units + 1 < cLine) : IxR X (fun x y H Q => rIx X.K x y H Q ∨ rGetT X.K x y H Q ∨ rGetK x y H Q) ∧ OpSem W X.K (fun x y H Q => rIx X.K x y H Q ∨ rGetT X.K x y H Q ∨ rGetK x y H Q) idxD := by
  refine ⟨ix_seq.or ((ix_getT hu).or ix_getK), ?_⟩
  intro P F0 F H io env σ x y dx dy Q s hx hy h
  by_cases hdic : ∃ kvs, dx = .dict kvs
  · obtain ⟨kvs, rfl⟩ := hdic
    exact .inr (idx_dic s hx hy h)
  cases dx <;> cases dy <;> first | exact h.elim | exact absurd ⟨_, rfl⟩ hdic | skip
  · rename_i ds i
    obtain ⟨p, vs, rfl, h1, h2⟩ := hx.list s.fH
    obtain rfl := hy.int
    simp only [idxD] at h
    cases e : atD ds i with
    | none => rw [e] at h; exact h.elim
    | some d =>
      rw [e] at h
      obtain ⟨v, a, r⟩ := atI_of h2 e
      exact .inl (.inl ⟨p, vs, _, v, rfl, rfl, SqL.of h1, a, PostV.fz h s r⟩)
  · rename_i ds i
    obtain ⟨p, vs, rfl, h1, h2⟩ := hx.tuple s.fH
    obtain rfl := hy.int
    simp only [idxD] at h
    cases e : atD ds i with
    | none => rw [e] at h; exact h.elim
    | some d =>
      rw [e] at h
      obtain ⟨v, a, r⟩ := atI_of h2 e
      exact .inl (.inr (.inl ⟨p, vs, _, v, rfl, rfl, h1, a, PostV.fz h s r⟩))
theorem sxOf_eq (n d : Nat) (o : Option Int) : sxOf n d o = HT.sIx n d o := by
  cases o with
  | none => rfl
  | some v =>
    show (if v < 0 then (v + (n : Int)).toNat else if (n : Int) ≤ v then n else v.toNat) = (if v < 0 then (v + (n : Int)).toNat else min v.toNat n)
    by_cases hv : v < 0
    · rw [if_pos hv, if_pos hv]
    · rw [if_neg hv, if_neg hv]
      by_cases hn : (n : Int) ≤ v
      · rw [if_pos hn]
        omega
      · rw [if_neg hn]
        omega
theorem cut_of {K : PySem.W.Frag} {F : Hp} {xs : List V} {ds : List PyData} {lo hi : Option Int} (h : RpA K F xs ds) : RpA K F (cutV xs lo hi) (cutD ds lo hi) := by
  unfold cutV cutD
  rw [sxOf_eq, sxOf_eq, ← h.length]
  exact (h.drop _).take _
theorem cut_all {α : Type} {xs : List α} {lo hi : Option Int} (h : HT.sIx xs.length 0 lo = 0 ∧ HT.sIx xs.length xs.length hi = xs.length) : cutD xs lo hi = xs := by
  unfold cutD
  rw [sxOf_eq, sxOf_eq, h.1, h.2, List.drop_zero, Nat.sub_zero, List.take_length]
theorem slc_ok : ∃ r, SlR X r ∧ ∀ {P F0 F H : Hp} {io : Option Addr} {env : Env} {σ : L2.St} {x : V} {lo hi : Option Int} {dx : PyData} {Q : VK}, StOk X.K P F0 io F env σ H → OpOk X.K F H x dx →
    PostV W X.K P F0 io F σ Q ((slcD dx lo hi).bind fun v => .ok (v, env)) → r x lo hi H Q := by
  refine ⟨_, sl_list.or sl_tupN, ?_⟩
  intro P F0 F H io env σ x lo hi dx Q s hx h
  cases dx <;> first | exact h.elim | skip
  · obtain ⟨p, vs, rfl, h1, h2⟩ := hx.list s.fH
    exact .inl ⟨p, vs, rfl, SqL.of h1, fun q hq => PostV.lst h s (cut_of h2) hq⟩
  · rename_i ds
    obtain ⟨p, vs, rfl, h1, h2⟩ := hx.tuple s.fH
    refine .inr ⟨p, vs, rfl, h1, fun e => ?_, fun q o hq ho => PostV.tup h s (cut_of h2) hq ho⟩
    rw [h2.length] at e
    rcases hx with hx | ⟨_, _, _, _, z, _⟩ | ⟨_, _, _, _, _, z, _⟩
    · exact PostV.fz h s (tup_eq (cut_all e).symm hx)
    · cases z
    · cases z

/-! ### truth -/
theorem truth_of {K : PySem.W.Frag} {F H : Hp} {x : V} {d : PyData} {b : Bool} (e : Ext F H) (h : OpOk K F H x d) (t : truthD d = .ok b) : TruV K x H b := by
  cases d with
  | none =>
    obtain rfl := h.none
    cases t
    rfl
  | bool c =>
    obtain rfl := h.bool
    cases t
    rfl
  | int i =>
    obtain rfl := h.int
    cases t
    rfl
  | str z => cases t
  | list ds =>
    obtain ⟨p, vs, rfl, h1, h2⟩ := h.list e
    cases t
    refine .inl ⟨vs, SqL.of h1, ?_⟩
    cases h2 <;> rfl
  | tuple ds =>
    obtain ⟨p, vs, rfl, h1, h2⟩ := h.tuple e
    cases t
    refine .inr (.inl ⟨vs, h1, ?_⟩)
    cases h2 <;> rfl
  | dict _ => cases t
end
end MP

/-! Mini, part B: does a text of the program have the form of a term? -/
set_option linter.all false
set_option Elab.async false
set_option maxRecDepth 100000
namespace MP
open PySem

/-- the names of the defs, the constants, the exception classes, by number -/
structure Tb where
  fn : List Str
  gb : List Str
  ex : List Str
  tr : Bool
  sub : Nat → Nat → Bool
/-- what a term is held against: an expression, a list of expressions -/
inductive Tx where
  | e (e : Expr)
  | es (l : List Expr)
def visB (sc : Scope) (x : Str) : Bool := match sc.names.lookup x with
  | some .local => true
  | some .cell => true
  | some .free => true
  | _ => false
def nameOk (N : List Str) (sc : Scope) (i : Nat) (x : Str) : Bool := decide (N[i]? = some x) && visB sc x && !(x == ("__debug__" : Str)) && !(x == ("__classdict__" : Str))
def globOk (sc : Scope) (x : Str) : Bool := (match sc.names.lookup x with
  | some .globalImplicit => true
  | _ => false) && !(x == ("__debug__" : Str)) && !(x == ("__name__" : Str))
def cstOk : PyData → Const → Bool
  | .none, .none => true
  | .bool a, .bool b => a == b
  | .int i, .int j => i == j
  | .str x, .str y => x == y
  | _, _ => false
def biName : Bi → Str
  | .len => "len"
  | .all => "all"
  | .any => "any"
  | .sum => "sum"
  | .min2 => "min"
  | .max2 => "max"
  | .min1 => "min"
  | .int => "int"
  | .list => "list"
  | .tuple => "tuple"
  | .listRg => "list"
  | .tupRg => "tuple"
  | .sorted => "sorted"
def tyName : Ty → Str
  | .int => "int"
  | .bool => "bool"
  | .str => "str"
  | .list => "list"
  | .tuple => "tuple"
def mtName : Mt → Str
  | .index => "index"
  | .count => "count"
  | .get1 => "get"
  | .get2 => "get"
/-- names stored by a target -/
def tgName (N : List Str) (sc : Scope) (i : Nat) (e : Expr) : Bool := match e with
  | .Name x _ => decide (N[i]? = some x) && (match sc.names.lookup x with
    | some .local => true
    | some .cell => true
    | _ => false)
  | _ => false
def tgNames (N : List Str) (sc : Scope) : List Nat → List Expr → Bool
  | [], [] => true
  | i :: is, e :: es => tgName N sc i e && tgNames N sc is es
  | _, _ => false
def tgOk (N : List Str) (sc : Scope) : Tg → Expr → Bool
  | .name i, e => tgName N sc i e
  | .tup js, .Tuple es _ _ => tgNames N sc js es
  | _, _ => false
def ownOf (N : List Str) (own : List Nat) : List (Str × Nat) := own.filterMap fun i => N[i]?.map fun x => (x, i)
/-- the slots of a target -/
def tgSl : Tg → List Nat
  | .name i => [i]
  | .tup js => js
def isTup : Expr → Bool
  | .Tuple _ _ _ => true
  | _ => false

section
variable (T : Tb) (N : List Str)
/-- what is walked -/
def chkIt (k : Scope → Tx → Bool) (sc : Scope) (ik : Ik) (tg iter : Expr) : Bool := match ik with
  | .seq => k sc (.e iter)
  | .rng => (match iter with
    | .Call (.Name x _) es [] _ => decide (x = "range") && globOk sc x && !es.isEmpty && decide (es.length ≤ 3) && k sc (.es es)
    | _ => false)
  | .enum => (match iter with
    | .Call (.Name x _) [e] [] _ => decide (x = "enumerate") && globOk sc x && isTup tg && k sc (.es [e])
    | _ => false)
  | .zip => (match iter with
    | .Call (.Name x _) [e, e2] [] _ => decide (x = "zip") && globOk sc x && isTup tg && k sc (.es [e, e2])
    | _ => false)
  | .rev => (match iter with
    | .Call (.Name x _) [e] [] _ => decide (x = "reversed") && globOk sc x && k sc (.es [e])
    | _ => false)
  | .items => (match iter with
    | .Call (.Attribute e m p) [] [] q => decide (m = "items") && (p.endLine == q.line) && isTup tg && k sc (.e e)
    | _ => false)
def isCD : Expr → Bool
  | .Call _ _ _ _ => true
  | .Dict _ _ _ => true
  | _ => false
def isNo : E → Bool
  | .no => true
  | _ => false
def chk : E → Scope → Tx → Bool
  | .cst d => fun _ t => match t with
    | .e (.Constant c _ _) => cstOk d c
    | _ => false
  | .glob g => fun sc t => match t with
    | .e (.Name x _) => decide (T.gb[g]? = some x) && globOk sc x
    | _ => false
  | .var i => fun sc t => match t with
    | .e (.Name x _) => nameOk N sc i x
    | _ => false
  | .peek i => fun sc t => match t with
    | .e (.Name x _) => nameOk N sc i x
    | _ => false
  | .bin op a b => fun sc t => match t with
    | .e (.BinOp l o r _) => decide (o = opB op) && chk a sc (.e l) && chk b sc (.e r)
    | _ => false
  | .neg a => fun sc t => match t with
    | .e (.UnaryOp .USub x _) => chk a sc (.e x)
    | _ => false
  | .cmp op a b => fun sc t => match t with
    | .e (.Compare l [o] [r] _) => decide (o = opC op) && chk a sc (.e l) && chk b sc (.e r)
    | _ => false
  | .chn o1 o2 a b c => fun sc t => match t with
    | .e (.Compare l [p1, p2] [m, r] _) => decide (p1 = opC o1) && decide (p2 = opC o2) && chk a sc (.e l) && chk b sc (.e m) && chk c sc (.e r)
    | _ => false
  | .and a b => fun sc t => match t with
    | .e (.BoolOp .And [x, y] _) => chk a sc (.e x) && chk b sc (.e y)
    | .e (.BoolOp .And (x :: y :: z :: rest) pos) => chk a sc (.e x) && chk b sc (.e (.BoolOp .And (y :: z :: rest) pos))
    | _ => false
  | .or a b => fun sc t => match t with
    | .e (.BoolOp .Or [x, y] _) => chk a sc (.e x) && chk b sc (.e y)
    | .e (.BoolOp .Or (x :: y :: z :: rest) pos) => chk a sc (.e x) && chk b sc (.e (.BoolOp .Or (y :: z :: rest) pos))
    | _ => false
  | .orV a b => fun sc t => match t with
    | .e (.BoolOp .Or [x, y] _) => chk a sc (.e x) && chk b sc (.e y)
    | _ => false
  | .not a => fun sc t => match t with
    | .e (.UnaryOp .Not x _) => chk a sc (.e x)
    | _ => false
  | .ite c a b => fun sc t => match t with
    | .e (.IfExp x y z _) => chk c sc (.e x) && chk a sc (.e y) && chk b sc (.e z)
    | _ => false
  | .tup as => fun sc t => match t with
    | .e (.Tuple es _ _) => chk as sc (.es es)
    | _ => false
  | .lst as => fun sc t => match t with
    | .e (.List es _) => chk as sc (.es es)
    | _ => false
  | .dct0 _ => fun _ t => match t with
    | .e (.Dict [] [] _) => true
    | _ => false
  | .dct1 _ a b => fun sc t => match t with
    | .e (.Dict [some x] [y] _) => chk a sc (.e x) && chk b sc (.e y)
    | _ => false
  | .frzd a => fun sc t => match t with
    | .e x => isCD x && chk a sc (.e x)
    | _ => false
  | .no => fun _ _ => false
  | .nil => fun _ t => match t with
    | .es [] => true
    | _ => false
  | .cons a as => fun sc t => match t with
    | .es (x :: xs) => chk a sc (.e x) && chk as sc (.es xs)
    | _ => false
  | .idx a i => fun sc t => match t with
    | .e (.Subscript x y _) => chk a sc (.e x) && chk i sc (.e y)
    | _ => false
  | .slc a lo hi => fun sc t => match t with
    | .e (.Subscript x (.Slice l u none _) _) => chk a sc (.e x) && (match l with
      | none => isNo lo
      | some y => chk lo sc (.e y)) && (match u with
      | none => isNo hi
      | some y => chk hi sc (.e y))
    | _ => false
  | .call f as => fun sc t => match t with
    | .e (.Call (.Name x _) es [] _) => decide (T.fn[f]? = some x) && globOk sc x && !es.isEmpty && chk as sc (.es es)
    | _ => false
  | .callIo f i as => fun sc t => match t with
    | .e (.Call (.Name x _) (.Name y _ :: es) [] _) => decide (T.fn[f]? = some x) && globOk sc x && nameOk N sc i y && chk as sc (.es es)
    | _ => false
  | .callScr f i as => fun sc t => match t with
    | .e (.Call (.Name x _) (.Name y _ :: es) [] _) => decide (T.fn[f]? = some x) && globOk sc x && nameOk N sc i y && chk as sc (.es es)
    | _ => false
  | .callPk f as => fun sc t => match t with
    | .e (.Call (.Name x _) es [] _) => decide (T.fn[f]? = some x) && globOk sc x && !es.isEmpty && chk as sc (.es es)
    | _ => false
  | .rg tp as => fun sc t => match t with
    | .e (.Call (.Name x _) [.Call (.Name y _) es [] _] [] _) => decide (x = if tp then "tuple" else "list") && globOk sc x && decide (y = "range") && globOk sc y && !es.isEmpty && decide (es.length ≤ 2) && chk as sc (.es es)
    | _ => false
  | .rev a => fun sc t => match t with
    | .e (.Subscript x (.Slice none none (some (.UnaryOp .USub (.Constant (.int 1) _ _) _)) _) _) => chk a sc (.e x)
    | _ => false
  | .bi b as => fun sc t => match t with
    | .e (.Call (.Name x _) es [] _) => decide (x = biName b) && globOk sc x && !es.isEmpty && chk as sc (.es es)
    | _ => false
  | .isi a ty => fun sc t => match t with
    | .e (.Call (.Name x _) [y, .Name z _] [] _) => decide (x = "isinstance") && globOk sc x && decide (z = tyName ty) && globOk sc z && chk a sc (.e y)
    | _ => false
  | .meth m o as => fun sc t => match t with
    | .e (.Call (.Attribute x nm p) es [] q) => decide (nm = mtName m) && (p.endLine == q.line) && !es.isEmpty && decide (es.length ≤ 3) && chk o sc (.e x) && chk as sc (.es es)
    | _ => false
  | .comp own tg ik src cnd elt => fun sc t => match t with
    | .e (.ListComp el [⟨target, iter, ifs, 0⟩] scope _) => L2.blkC N sc scope (ownOf N own) && decide ((ownOf N own).map (·.2) = own) && (tgSl tg).all (fun j => decide (j ∈ own)) && chkIt (fun s t => chk src s t) sc ik target iter &&
        tgOk N scope tg target && chk elt (L2.relS scope sc) (.e el) && (match ifs with
          | [] => isNo cnd
          | [c] => chk cnd (L2.relS scope sc) (.e c)
          | _ => false)
    | _ => false
  | .lenScr i => fun sc t => match t with
    | .e (.Call (.Name x _) [.Name y _] [] _) => decide (x = "len") && globOk sc x && nameOk N sc i y
    | _ => false
  | .idxScr i a => fun sc t => match t with
    | .e (.Subscript (.Name y _) z _) => nameOk N sc i y && chk a sc (.e z)
    | _ => false
end
end MP

/-! Mini, part C3: promises of defs; the terms' readings (expressions). -/
set_option linter.all false
set_option Elab.async false
set_option maxRecDepth 100000
set_option maxHeartbeats 2000000
namespace MP
open PySem PySem.Spec PyProof.Rows L2

/-! ### promises -/
/-- the heap without the list that is handed in -/
def offIo (io : Option Addr) (H : Hp) : Hp := fun q => if io = some q then none else H q
theorem offIo_none (H : Hp) : offIo none H = H := by
  funext q
  unfold offIo
  rw [if_neg (by intro z; cases z)]
theorem offIo_ext (io : Option Addr) (H : Hp) : Ext (offIo io H) H := fun a o e => by
  unfold offIo at e
  by_cases h : io = some a
  · rw [if_pos h] at e; cases e
  · rw [if_neg h] at e; exact e
theorem offIo_of {io : Option Addr} {H : Hp} {a : Addr} {o : HO} (e : H a = some o) (h : io ≠ some a) : offIo io H a = some o := by
  unfold offIo
  rw [if_neg h]
  exact e
/-- an answer of a def -/
def RvOk (K : PySem.W.Frag) (P F H : Hp) (io : Option Addr) (x : V) : RV → Prop
  | .fz d => Rp K F x d
  | .fr ds => ∃ p vs, x = .ref p ∧ H p = some (.lst vs) ∧ RpA K F vs ds ∧ F p = none ∧ P p = none ∧ io ≠ some p
  | .fd k kvs => ∃ p u, x = .ref p ∧ H p = some u ∧ DicO K F p u k kvs ∧ F p = none ∧ P p = none ∧ io ≠ some p
def IoOk (K : PySem.W.Frag) (F H : Hp) (us : List PyData) : Option Addr → Prop
  | none => True
  | some p => ∃ vs, H p = some (.lst vs) ∧ RpA K F vs us ∧ F p = none
def ArgOk (K : PySem.W.Frag) (F H : Hp) (io : Option Addr) (vs : List V) (ds : List PyData) : Ex0 → Prop
  | .non => io = none ∧ RpA K F vs ds
  | .io us => ∃ p rest, io = some p ∧ vs = .ref p :: rest ∧ IoOk K F H us (some p) ∧ RpA K F rest ds
  | .scr ns => ∃ a rest, io = none ∧ vs = .ref a :: rest ∧ SqL K F a (ns.map V.int) ∧ RpA K F rest ds
/-- behind a call, the heap ahead of it being H, what is read by all F -/
def PostF (K : PySem.W.Frag) (xa : Nat → Addr) (H F : Hp) (io : Option Addr) (Q : VK) (E : XK) : R (RV × List PyData) → Prop
  | .stuck => False
  | .exc c => ∀ H', Ext (offIo io H) H' → E (.ref (xa c)) none H'
  | .ok (r, us) => ∀ x F' H', Ext (offIo io H) H' → Ext F F' → Ext F' H' → (∀ p o, H p = some o → F p = none → F' p = none) → IoOk K F' H' us io → RvOk K (offIo io H) F' H' io x r → Q x H'
/-- the promise of a def that answers as run says -/
def spF (K : PySem.W.Frag) (xa : Nat → Addr) (np : Nat) (run : Ex0 → List PyData → R (RV × List PyData)) : Sp := fun vs H Q E => vs.length = np ∧
  ∃ F io x0 ds, Ext F H ∧ ArgOk K F H io vs ds x0 ∧ PostF K xa H F io Q E (run x0 ds)

/-- what is fixed for a law: the program's parts -/
structure Wld where
  P : Program
  w : World
  K : PySem.W.Frag
  mg : Str → Option Value
  base : Heap
  T : Tb
  gb : Gb
  xa : Nat → Addr
/-- the defs answer as cl says, with n calls to go -/
def argc (x : Ex0) (ds : List PyData) : Nat := match x with
  | .non => ds.length
  | _ => ds.length + 1
def FnsOk (L : Wld) (n : Nat) (cl : Cl) : Prop := ∀ (f : Nat) (x : Str), L.T.fn[f]? = some x → ∃ (a : Addr) (fd : FuncData) (ps : List Str), L.mg x = some (.ref a) ∧ PySem.W.keepIn L.K (.ref a) = true ∧ Binds L.K fd ps [] ∧
  FnOk L.P L.w L.K L.mg L.base (L2.CX L.P L.w) n a fd ps (spF L.K L.xa ps.length (cl f)) ∧ ∀ x0 ds, cl f x0 ds ≠ .stuck → argc x0 ds = ps.length
def GbOk (L : Wld) : Prop := ∀ (g : Nat) (x : Str) (d : PyData), L.T.gb[g]? = some x → L.gb g = some d → ∃ (v : V) (u : Value), L.mg x = some u ∧ RelV v u ∧ ∀ F : Hp, Rp L.K F v d
def bltNames : List Str := ["len", "all", "any", "sum", "min", "max", "int", "bool", "str", "list", "tuple", "sorted", "range", "enumerate", "zip", "reversed", "isinstance"]
def BltOk (L : Wld) : Prop := ∀ x ∈ bltNames, L.mg x = none
/-- the class behind an exception's number -/
def XW (L : Wld) (W : WX0) : WX := fun cls d _ H => ∃ c, cls = .ref (L.xa c) ∧ d = none ∧ W c H
def XE0 (L : Wld) (W : WX0) : XK := fun cls d H => ∃ c, cls = .ref (L.xa c) ∧ d = none ∧ W c H
structure XOk (L : Wld) (N : List Str) (n : Nat) (cl : Cl) (sc : Scope) (W : WX0) (X : Cx) : Prop where
  hP : X.prog = L.P
  hw : X.w = L.w
  hK : X.K = L.K
  hmg : X.mg = L.mg
  hbase : X.base = L.base
  hN : X.N = N
  nd : N.Nodup
  hsc : X.env.scope = sc
  calm : X.calm = true
  room : Room n X.A
  fns : FnsOk L n cl
  gb : GbOk L
  blt : BltOk L
  tk : Takes X (XW L W)
section
variable {L : Wld} {N : List Str} {n : Nat} {cl : Cl} {sc : Scope} {W : WX0} {X : Cx}
theorem XOk.vis (o : XOk L N n cl sc W X) {i : Nat} {x : Str} (h : nameOk N sc i x = true) : X.N[i]? = some x ∧ Vis X.env.scope x ∧ (x == ("__debug__" : Str)) = false ∧ (x == ("__classdict__" : Str)) = false := by
  unfold nameOk at h
  simp only [Bool.and_eq_true, decide_eq_true_eq, Bool.not_eq_true'] at h
  obtain ⟨⟨⟨h1, h2⟩, h3⟩, h4⟩ := h
  refine ⟨o.hN ▸ h1, ?_, h3, h4⟩
  rw [o.hsc]
  unfold visB at h2
  unfold Vis
  split at h2
  · exact .inl ‹_›
  · exact .inr (.inl ‹_›)
  · exact .inr (.inr ‹_›)
  · cases h2
theorem XOk.gl (o : XOk L N n cl sc W X) {x : Str} (h : globOk sc x = true) : Gl X x ∧ (x == ("__debug__" : Str)) = false ∧ x ≠ ("__name__" : Str) := by
  unfold globOk at h
  simp only [Bool.and_eq_true, Bool.not_eq_true'] at h
  obtain ⟨⟨h1, h2⟩, h3⟩ := h
  refine ⟨?_, h2, fun e => ?_⟩
  · show X.env.scope.names.lookup x = some .globalImplicit
    rw [o.hsc]
    split at h1
    · assumption
    · cases h1
  · rw [e, beq_self_eq_true] at h3
    cases h3
theorem XOk.bl (o : XOk L N n cl sc W X) {x : Str} (h : x ∈ bltNames) : X.mg x = none := by
  rw [o.hmg]
  exact o.blt x h
theorem PE.orN {e : Expr} {t : TE} (h : PE X e t) : PE X e t := h
/-- an own object is locked, and read by all from then on -/
theorem StOk.lock {K : PySem.W.Frag} {P F0 F H : Hp} {io : Option Addr} {env : MP.Env} {σ : L2.St} {p : Addr} {u : HO} (s : StOk K P F0 io F env σ H) (h : H p = some u) (hF : F p = none) (hP : P p = none) (hm : ∀ j, ¬ MutAt env σ j p) (o : Obj) :
    StOk K P F0 io (upd F p (.frz o u)) env σ (upd H p (.frz o u)) ∧ Ext F (upd F p (.frz o u)) := by
  have hF' : Ext F (upd F p (.frz o u)) := Ext.upd hF
  have ne : ∀ i q, MutAt env σ i q → q ≠ p := fun i q m e => hm i (e ▸ m)
  refine ⟨⟨fun a w e => ?_, s.f0.trans hF', s.fH.upd2, fun a w h1 h2 => ?_, s.len, fun i sl hi => ?_, s.dist⟩, hF'⟩
  · rw [upd_ne (fun z => by rw [z, hP] at e; cases e)]
    exact s.pH a w e
  · rw [upd_ne (fun z => by rw [z, hP] at h1; cases h1)]
    exact s.hid a w h1 h2
  · have q := s.sl i sl hi
    cases sl with
    | un => trivial
    | val d =>
      obtain ⟨v, h1, h2⟩ := q
      exact ⟨v, h1, h2.mono0 hF'⟩
    | own ds =>
      obtain ⟨p', vs, h1, h2, h3, h4, h5⟩ := q
      have n := ne i p' ⟨by rw [hi]; rfl, h1⟩
      exact ⟨p', vs, h1, by rw [upd_ne n]; exact h2, h3.mono0 hF', by rw [upd_ne n]; exact h4, h5⟩
    | io ds =>
      obtain ⟨p', vs, h0, h1, h2, h3, h4, h5⟩ := q
      have n := ne i p' ⟨by rw [hi]; rfl, h1⟩
      exact ⟨p', vs, h0, h1, by rw [upd_ne n]; exact h2, h3.mono0 hF', by rw [upd_ne n]; exact h4, h5⟩
    | scr ns =>
      obtain ⟨a, h1, h2⟩ := q
      exact ⟨a, h1, ext_l hF' h2⟩
    | mdk k kvs =>
      obtain ⟨p', w, h1, h2, h3, h4, h5⟩ := q
      have n := ne i p' ⟨by rw [hi]; rfl, h1⟩
      exact ⟨p', w, h1, by rw [upd_ne n]; exact h2, h3.mono hF', by rw [upd_ne n]; exact h4, h5⟩
/-- a slot's object is given up -/
theorem StOk.give {K : PySem.W.Frag} {P F0 F H : Hp} {io : Option Addr} {env : MP.Env} {σ : L2.St} {i : Nat} {p : Addr} (s : StOk K P F0 io F env σ H) (m : MutAt env σ i p) : StOk K P F0 io F (env.set i .un) σ H ∧ ∀ j, ¬ MutAt (env.set i .un) σ j p := by
  have back : ∀ {j q}, MutAt (env.set i .un) σ j q → j ≠ i ∧ MutAt env σ j q := fun {j q} ⟨a, b⟩ => by
    by_cases hji : j = i
    · subst hji
      by_cases hl : j < env.length
      · rw [List.getElem?_set_self hl] at a
        cases a
      · rw [List.getElem?_eq_none (by simpa using hl)] at a
        cases a
    · rw [List.getElem?_set_ne (Ne.symm hji)] at a
      exact ⟨hji, a, b⟩
  refine ⟨⟨s.pH, s.f0, s.fH, s.hid, by rw [List.length_set]; exact s.len, fun j sl hj => ?_, fun j k q mj mk => s.dist j k q (back mj).2 (back mk).2⟩, fun j mj => (back mj).1 (s.dist j i p (back mj).2 m)⟩
  by_cases hji : j = i
  · subst hji
    by_cases hl : j < env.length
    · rw [List.getElem?_set_self hl] at hj
      cases hj
      trivial
    · rw [List.getElem?_eq_none (by simpa using hl)] at hj
      cases hj
  · rw [List.getElem?_set_ne (Ne.symm hji)] at hj
    exact s.sl j sl hj
/-- a slot that is given up holds its value, read by all -/
theorem StOk.keepV {K : PySem.W.Frag} {P F0 F H : Hp} {io : Option Addr} {env : MP.Env} {σ : L2.St} {i : Nat} {v : V} {d : PyData} (s : StOk K P F0 io F (env.set i .un) σ H) (hσ : σ[i]? = some (some v)) (r : Rp K F v d) : StOk K P F0 io F (env.set i (.val d)) σ H := by
  have back : ∀ {j q}, MutAt (env.set i (.val d)) σ j q → MutAt (env.set i .un) σ j q := fun {j q} ⟨a, b⟩ => by
    by_cases hji : j = i
    · subst hji
      by_cases hl : j < env.length
      · rw [List.getElem?_set_self hl] at a
        cases a
      · rw [List.getElem?_eq_none (by simpa using hl)] at a
        cases a
    · rw [List.getElem?_set_ne (Ne.symm hji)] at a
      exact ⟨by rw [List.getElem?_set_ne (Ne.symm hji)]; exact a, b⟩
  refine ⟨s.pH, s.f0, s.fH, s.hid, by have := s.len; rw [List.length_set] at this ⊢; exact this, fun j sl hj => ?_, fun j k q mj mk => s.dist j k q (back mj) (back mk)⟩
  by_cases hji : j = i
  · subst hji
    by_cases hl : j < env.length
    · rw [List.getElem?_set_self hl] at hj
      cases hj
      exact ⟨v, hσ, r⟩
    · rw [List.getElem?_eq_none (by simpa using hl)] at hj
      cases hj
  · rw [List.getElem?_set_ne (Ne.symm hji)] at hj
    exact s.sl j sl (by rw [List.getElem?_set_ne (Ne.symm hji)]; exact hj)
/-- names -/
theorem pe_readVar (o : XOk L N n cl sc W X) {i : Nat} {x : Str} {pos : Pos} (h : nameOk N sc i x = true) : PE X (.Name x pos) (TV W L.K (readVar i)) := by
  obtain ⟨h1, h2, h3, h4⟩ := o.vis h
  have pv := pe_var (X := X) (pos := pos) (i := i) h1 h2 h3 h4
  refine ⟨fun pins s σ H Q I q => ?_⟩
  obtain ⟨P, F0, io, F, env, st, q⟩ := q
  by_cases hk : ∃ k kvs, env[i]? = some (.mdk k kvs)
  · obtain ⟨k, kvs, e⟩ := hk
    obtain ⟨p, u, z1, z2, z3, z4, z5⟩ := st.sl i _ e
    refine thn (pv.run pins s σ H (fun v H' => v = .ref p ∧ H' = H) I ⟨_, z1, rfl, rfl⟩) fun v s1 ⟨y, H', I1, r1, ey, eH⟩ => ?_
    subst ey
    subst eH
    obtain ⟨od, I2⟩ := I1.lock z2 z3.mut
    obtain ⟨s1, nm⟩ := st.give ⟨by rw [e]; rfl, z1⟩
    obtain ⟨s2, x2⟩ := s1.lock z2 z4 z5 nm od
    have rd := (z3.mono x2).frz (o := od) upd_same
    have s3 := s2.keepV z1 rd
    unfold readVar at q
    rw [e] at q
    exact ⟨_, _, I2, r1, q _ _ _ s3 x2 rd⟩
  · refine pv.run pins s σ H Q I ?_
    unfold readVar at q
    cases e : env[i]? with
    | none => rw [e] at q; exact q.elim
    | some sl =>
      rw [e] at q
      have z := st.sl i sl e
      cases sl with
      | un => exact q.elim
      | val d =>
        obtain ⟨v, z1, z2⟩ := z
        exact ⟨v, z1, PostV.fz q st z2⟩
      | own ds =>
        obtain ⟨p, vs, z1, z2, z3, z4, z5⟩ := z
        obtain ⟨s1, nm⟩ := st.give ⟨by rw [e]; rfl, z1⟩
        obtain ⟨s2, x2⟩ := s1.freeze z2 z4 z5 nm
        have rd : Rp L.K (upd F p (.lst vs)) (.ref p) (.list ds) := .lst upd_same (z3.mono0 x2)
        exact ⟨_, z1, q _ _ _ (s2.keepV z1 rd) x2 rd⟩
      | io ds => exact q.elim
      | scr ns => exact q.elim
      | mdk k kvs => exact absurd ⟨k, kvs, e⟩ hk
theorem pe_readPeek (o : XOk L N n cl sc W X) {i : Nat} {x : Str} {pos : Pos} (h : nameOk N sc i x = true) : PE X (.Name x pos) (TV W L.K (readPeek i)) := by
  obtain ⟨h1, h2, h3, h4⟩ := o.vis h
  refine PE.imp (pe_var (i := i) h1 h2 h3 h4) ?_
  rintro σ H Q ⟨P, F0, io, F, env, s, q⟩
  unfold readPeek at q
  cases e : env[i]? with
  | none => rw [e] at q; exact q.elim
  | some sl =>
    rw [e] at q
    have z := s.sl i sl e
    cases sl with
    | un => exact q.elim
    | val d =>
      obtain ⟨v, z1, z2⟩ := z
      exact ⟨v, z1, PostV.fz q s z2⟩
    | own ds =>
      obtain ⟨p, vs, z1, z2, z3, z4, z5⟩ := z
      exact ⟨_, z1, q _ F H s (Ext.refl F) z1⟩
    | io ds =>
      obtain ⟨p, vs, z0, z1, z2, z3, z4, z5⟩ := z
      exact ⟨_, z1, q _ F H s (Ext.refl F) z1⟩
    | scr ns => exact q.elim
    | mdk k kvs =>
      obtain ⟨p, u, z1, z2, _⟩ := z
      exact ⟨_, z1, q _ F H s (Ext.refl F) z1⟩

/-! ### forms of expressions -/
theorem star_cons {e : Expr} (h : ∀ a p, e ≠ .Starred a p) (es : List Expr) (env : PySem.Env) : starEach (e :: es) env = (false, eval e env) :: starEach es env := by
  cases e <;> first | rfl | exact absurd rfl (h _ _)
theorem chk_star {T : Tb} {m : E} {sc : Scope} {e : Expr} (h : chk T N m sc (.e e) = true) : ∀ a p, e ≠ .Starred a p := by
  rintro a p rfl
  cases m <;> (unfold chk at h; first | cases h | (simp at h; done) | (dsimp only at h; cases h))
/-- a test of any other form is by the value's truth -/
def Plain (e : Expr) : Prop := ∀ (env : PySem.Env) (whole : Sem Value), isTrue e env whole = (do let v ← whole; standAt e.pos; holding [v] (truthy v))
theorem pt_plain {e : Expr} {f : MP.Env → R (Val × MP.Env)} (K : X.K = L.K) (h : PE X e (TV W L.K f)) (p : Plain e) : PT X e (TTt W L.K (tstOf f)) := by
  refine PT.imp (pt_truth h (p X.env)) ?_
  rintro σ H Q ⟨P, F0, io, F, env, s, q⟩
  refine TV.goF (prT W L.K P F0 io σ Q) s q fun v e1 _ x F1 H1 s1 x1 v1 h1 => ?_
  obtain ⟨d, l1, h2⟩ := PR.of h1
  obtain ⟨b, t1, h3⟩ := PR.bind h2 (fun c z => by cases d <;> cases z)
  refine ⟨b, ?_, h3 F1 H1 s1 (Ext.refl F1)⟩
  rw [K]
  exact truth_of s1.fH (VOk.look s1 v1 l1) t1
/-- a comparison's test -/
theorem pt_cmp2 {a b : Expr} {pos : Pos} {f g : MP.Env → R (Val × MP.Env)} {op : COp} {r : R2} (ho : OpR X (compareOp (opC op)) r) (hr : OpSem W L.K r (cmpV op)) (ha : PE X a (TV W L.K f)) (hb : PE X b (TV W L.K g))
    (hm : behindInMarks (opC op) b = false) : PT X (.Compare a [opC op] [b] pos) (TTt W L.K (tstOf (ev2 f g (cmpV op)))) := by
  refine PT.imp (pt_cmpR ho ha hb hm) ?_
  rintro σ H Q ⟨P, F0, io, F, env, s, q⟩
  have q' : TV W L.K (ev2 f g (cmpV op)) σ H (fun x H' => ∃ k, x = .bl k ∧ Q k H') := by
    refine TV.goF (prT W L.K P F0 io σ Q) s q fun v e1 hv x F1 H1 s1 x1 v1 h1 => ?_
    -- the value is a bool
    have hb : ∃ b, v = .fz (.bool b) := by
      unfold ev2 at hv
      cases e2 : f env with
      | stuck => rw [e2] at hv; cases hv
      | exc c => rw [e2] at hv; cases hv
      | ok p =>
        rw [e2] at hv
        simp only [R.bind_ok] at hv
        cases e3 : g p.2 with
        | stuck => rw [e3] at hv; cases hv
        | exc c => rw [e3] at hv; cases hv
        | ok w =>
          rw [e3] at hv
          simp only [R.bind_ok] at hv
          cases e4 : p.1.frz.look w.2 with
          | none => rw [e4] at hv; cases hv
          | some dx =>
            cases e5 : w.1.frz.look w.2 with
            | none => rw [e4, e5] at hv; cases hv
            | some dy =>
              rw [e4, e5] at hv
              simp only [R.of_some, R.bind_ok] at hv
              cases e6 : cmpV op dx dy with
              | stuck => rw [e6] at hv; cases hv
              | exc c => rw [e6] at hv; cases hv
              | ok u =>
                rw [e6] at hv
                cases hv
                obtain ⟨b, rfl, _⟩ := cmp_bl e6
                exact ⟨b, rfl⟩
    obtain ⟨b, rfl⟩ := hb
    have v2 : Rp L.K F1 x (.bool b) := v1
    cases v2
    exact ⟨b, rfl, h1 F1 H1 s1 (Ext.refl F1)⟩
  obtain ⟨P', F0', io', F', env', s', q'⟩ := q'
  exact tv_op2 hr σ H _ ⟨P', F0', io', F', env', s', q'⟩
end
end MP

/-! Mini, part C4: what loops walk. -/
set_option linter.all false
set_option Elab.async false
set_option maxRecDepth 100000
set_option maxHeartbeats 4000000
namespace MP
open PySem PySem.Spec PyProof.Rows L2

/-! ### enumerate of a tuple -/
abbrev itO (t : Addr) : Obj := { cls := .type "tuple_iterator", data := .fields #[.ref t, .int 0 0] }
abbrev enO (i : Addr) : Obj := { cls := .type "enumerate", data := .fields #[.none, .bool false, .ref i, rawInt 0, .none, .none] }
theorem enumT_new (t : Addr) (ys : Array Value) : Meets (Builtin.«enumerate.__new__» ⟨[.type "enumerate", .ref t], []⟩) (fun _ R s =>
    s.heap.IsTuple t ys ∧ R (.ok (.ret (.ref (s.heap.push (itO t)).objs.size))) { s with heap := (s.heap.push (itO t)).push (enO s.heap.objs.size) }) := .of_wp fun prog w A R s h => by
  obtain ⟨h0, g0, d0, k0, o0⟩ := s
  obtain ⟨ht, hR⟩ := h
  have sub1 := sub_enumerate
  have step : ∀ {A' : Around} {E Q : Value → Shared → Prop}, Q (.ref h0.objs.size) ⟨h0.push (itO t), g0, d0, k0, o0⟩ → wpAny (model prog w) A' (pyIter (.ref t)) Q E ⟨h0, g0, d0, k0, o0⟩ := fun q => wpAny_pyIter_tuple ht q
  wp_walk using step
  refine wpAny_stack_any fun st => wpAny_pure ?_
  split
  · rename_i c _ _ _ _ _
    cases (c == Value.type "enumerate") <;> (wp_walk using step; exact ⟨_, rfl, hR⟩)
  · wp_walk using step
    exact ⟨_, rfl, hR⟩
theorem enumT_call {prog : Program} {w : World} {A : Around} {E : Value → Shared → Prop} {s : Shared} {t : Addr} {ys : Array Value} {Q : Value → Shared → Prop} (ht : s.heap.IsTuple t ys)
    (q : ∀ h1 : Heap, IsEnum h1 (s.heap.objs.size + 1) s.heap.objs.size 0 .none → h1.IsTupleIter s.heap.objs.size t 0 → h1.objs.size = s.heap.objs.size + 2 → (∀ b o, s.heap.get? b = some o → h1.get? b = some o) →
      Q (.ref (s.heap.objs.size + 1)) { s with heap := h1 }) : wpAny (model prog w) A (call (.type "enumerate") [.ref t]) Q E s := by
  refine callType_new F.called_enumerate (by decide) (F.typeCall_enumerate_1 _) (F.newCall_enumerate_1 _) (fun obj => F.args_object_init_2 obj _) F.entry_enumerate_new (enumT_new t ys) ⟨ht, ?_⟩
  have z1 : (s.heap.push (itO t)).objs.size = s.heap.objs.size + 1 := Heap.size_push ..
  show _ ∧ _
  rw [z1]
  have e1 : IsEnum ((s.heap.push (itO t)).push (enO s.heap.objs.size)) (s.heap.objs.size + 1) s.heap.objs.size 0 .none := by
    have e2 := Heap.get?_push_size (s.heap.push (itO t)) (o := enO s.heap.objs.size) rfl
    rw [z1] at e2
    exact e2
  exact ⟨⟨_, e1, rfl⟩, q _ e1 ⟨_, Heap.get?_push_of_some _ (Heap.get?_push_size _ rfl), rfl, rfl⟩ (by rw [Heap.size_push, z1]) fun b o e => Heap.get?_push_of_some _ (Heap.get?_push_of_some _ e)⟩
/-- the tuple at a as it stands at each turn, each item in a new pair -/
def IteT (K : PySem.W.Frag) (a : Addr) : It where
  go := fun i H => ∃ (xs : List V) (x : V), SqT K H a xs ∧ xs[i]? = some x
  yld := fun i H v H' => ∃ T x, v = .ref T ∧ H T = none ∧ H' = upd H T (.tup [.int (i : Nat), x]) ∧ ∀ xs, SqT K H a xs → xs[i]? = some x
  stop := fun i H => ∃ xs : List V, SqT K H a xs ∧ xs.length ≤ i
theorem turnT {P : Program} {w : World} {K : PySem.W.Frag} {elts : List Expr} {kk : Nat} {tpos : Pos} (a e it : Addr) (ys : Array Value) (hae : a ≠ e) (hai : a ≠ it) :
    Turn P w K (.Tuple elts kk tpos) (IteT K a) [e, it] e (fun i h => (∃ old, IsEnum h e it ((i : Nat) : Int) old) ∧ h.IsTupleIter it a i ∧ e ≠ it) where
  mem := by simp
  obj := fun i h st b hb => by
    obtain ⟨⟨old, he⟩, ⟨o, ho, hc, hd⟩, _⟩ := st
    rcases (show b = e ∨ b = it by simpa using hb) with z | z
    · subst z
      exact ⟨_, he, fun v q => by cases q⟩
    · subst z
      exact ⟨o, ho, fun v q => by rw [hd] at q; cases q⟩
  keep := fun i h h' st k => let ⟨⟨old, he⟩, hi, hne⟩ := st; ⟨⟨old, k e (by simp) _ he⟩, hi.at fun o q => k it (by simp) o q, hne⟩
  item := by
    intro X hP hw hK hc i pins s σ H E I hf st hg
    subst hP hw hK
    obtain ⟨⟨old, he⟩, hit, hne⟩ := st
    obtain ⟨xs, x, hq, hx⟩ := hg
    obtain ⟨its, rv, tp, hz⟩ := I.tuple hq
    obtain ⟨u, hu, ru⟩ := rv.get hx
    have hel : e < s.heap.objs.size := Heap.lt_size he
    have hil : it < s.heap.objs.size := by obtain ⟨_, q, _⟩ := hit; exact Heap.lt_size q
    have D := Draws.tuple (prog := X.prog) (w := X.w) (A := X.A.in1) (show X.A.in1.handled = none from I.ok.hd hc) it a hai its.toArray
    have hil2 : i < its.toArray.size := by
      obtain ⟨h1, _⟩ := List.getElem?_eq_some_iff.mp hu
      simpa using h1
    refine wpAny_pyNext_enum_itemD D he ⟨hit, tp⟩ hil2 hne (by simp only [List.mem_cons, List.not_mem_nil, or_false, not_or]; exact ⟨hne, fun z => hae z.symm⟩) fun y h' tk hPy ho hst' hT hsz hk => ?_
    have hy : y = u := by
      have hPy : its.toArray[i]? = some y := hPy
      have h2 : its[i]? = some y := by simpa using hPy
      rw [hu] at h2
      exact (Option.some.inj h2).symm
    subst hy
    refine ⟨_, rfl, wpAny_letOwnedTupleGo_enum (s := { s with heap := h', toks := tk + 1 }) ho fun h2 he' sb => ?_⟩
    have hT2 : h2.get? s.heap.objs.size = some { cls := .type "tuple", data := .seq #[.int i tk, y] } := (sb.2 _ (Nat.ne_of_gt hel)).trans hT
    have new : ObjOk X.prog X.w (upd H s.heap.objs.size (.tup [.int (i : Nat), x])) h2 s.heap.objs.size (.tup [.int (i : Nat), x]) :=
      ⟨by show 2 ≤ sizeLine; decide, [.int i tk, y], .cons ⟨_, rfl⟩ (.cons ru .nil), ⟨_, hT2, rfl, _, rfl⟩⟩
    have I1 : Inv X pins σ (upd H s.heap.objs.size (.tup [.int (i : Nat), x])) { s with heap := h2, toks := tk + 1 } :=
      I.turnedNew (ch := [e, it]) (fun b ob hb q => (sb.2 b (fun z => hb (by simp [z]))).trans (hk b ob (fun z => hb (by simp [z])) (fun z => hb (by simp [z])) q)) hf (Nat.le_refl _) new
    refine ⟨.ref s.heap.objs.size, _, I1, rfl, ⟨_, x, rfl, I.hok.fresh (Nat.le_refl _), rfl, fun zs hy => by rw [I.tuple_inj hy hq]; exact hx⟩, ⟨⟨y, ?_⟩, hst'.1.at fun o q => (sb.2 it (Ne.symm hne)).trans q, hne⟩, fun b hb => ?_⟩
    · have e1 : ((i + 1 : Nat) : Int) = (i : Int) + 1 := by omega
      rw [e1]
      exact he'
    · have hb' : b < s.heap.objs.size := by
        rcases (show b = e ∨ b = it by simpa using hb) with z | z
        · exact z ▸ hel
        · exact z ▸ hil
      rw [upd_ne (Nat.ne_of_lt hb')]
      exact (hf b hb).1
  done := by
    intro X hP hw hK hc i pins s σ H E I hf st hg
    subst hP hw hK
    obtain ⟨⟨old, he⟩, hit, hne⟩ := st
    obtain ⟨xs, hq, hx⟩ := hg
    obtain ⟨its, rv, tp, hz⟩ := I.tuple hq
    obtain ⟨f0, f1, f2, f3, f4, f5⟩ := hf it (by simp)
    have hl := rv.length
    have D : Draws X.prog X.w X.A.in1 it [it, a] i (fun _ _ => True) (fun j h => j = i ∧ h.IsTupleIter it a i ∧ h.IsTuple a its.toArray) := {
      live := fun _ _ st => let ⟨o, ho, _⟩ := st.2.1; ⟨o, ho⟩
      frame := fun _ _ _ st hk => ⟨st.1, st.2.1.at fun o q => hk it (by simp) o q, st.2.2.at fun o q => hk a (by simp) o q⟩
      item := fun j _ _ _ hj st _ => absurd st.1 (Nat.ne_of_lt hj)
      done := fun s Q E st hE => wpAny_nextOf_tuple_end (show X.A.in1.handled = none from I.ok.hd hc) st.2.1 st.2.2 (by simp; omega) hE }
    exact wpAny_pyNext_enum_endD D he ⟨rfl, hit, tp⟩ fun h' eb => ⟨rfl, I.turned (t' := s.toks) (fun b o hb q => eb b o hb q) f0 f1 f3 f4 f5⟩
  self := fun A i s Q E st h => let ⟨⟨_, he⟩, _⟩ := st; wpAny_pyIter_enum he h
def iEnumT (K : PySem.W.Frag) (ta : TA) : TI := fun σ H R => ta σ H fun vs H1 => ∃ a xs, vs = [.ref a] ∧ SqT K H1 a xs ∧ R (IteT K a) H1
theorem pi_enumT {X : Cx} {e : Expr} {ta : TA} {p pos tpos : Pos} {elts : List Expr} {kk : Nat} (hg : Gl X "enumerate") (hm : X.mg "enumerate" = none) (ha : PA X [e] ta) (hs : starEach [e] X.env = [(false, eval e X.env)]) :
    PI X (.Tuple elts kk tpos) (.Call (.Name "enumerate" p) [e] [] pos) (iEnumT X.K ta) := by
  refine ⟨fun pins s σ H R I h => ?_⟩
  refine Call_ (ld_blt I hg hm boot_enumerate (PyProof.Rows.callWith_type1 (thn (ha.run pos pins s σ H _ I h) fun us s1 w1 => ?_) hs rfl))
  obtain ⟨vs, H1, I1, r1, a, xs, ex, hq, q⟩ := w1
  subst ex
  obtain rfl := Vals.ref1 r1
  obtain ⟨its, rv, tp, hz⟩ := I1.tuple hq
  have hal : a < s1.heap.objs.size := by obtain ⟨o, ho, _⟩ := id tp; exact Heap.lt_size ho
  refine enumT_call tp fun h' he hit hsz hk => wpAny_pyIter_enum he ?_
  refine ⟨s1.heap.objs.size + 1, [s1.heap.objs.size + 1, s1.heap.objs.size], _, _, H1, rfl, I1.kept (t' := s1.toks) hk, turnT a (s1.heap.objs.size + 1) s1.heap.objs.size its.toArray (Nat.ne_of_lt (Nat.lt_succ_of_lt hal)) (Nat.ne_of_lt hal), ⟨⟨.none, he⟩, hit, Nat.succ_ne_self _⟩, fun b hb => ?_, q⟩
  have hle : s1.heap.objs.size ≤ b := by
    rcases (show b = s1.heap.objs.size + 1 ∨ b = s1.heap.objs.size by simpa using hb) with z | z
    · exact z ▸ Nat.le_succ _
    · exact z ▸ Nat.le_refl _
  exact I1.fpOk hle (I1.hok.fresh hle)

/-! ### what is walked, told by its items -/
/-- the item at a turn: it stands there, or it is a new tuple -/
def ItemOk (K : PySem.W.Frag) (b : Bool) (F H : Hp) (x : V) (H' : Hp) (d : PyData) : Prop :=
  (H' = H ∧ Rp K F x d) ∨ b = true ∧ ∃ T vs ds, x = .ref T ∧ H T = none ∧ H' = upd H T (.tup vs) ∧ d = .tuple ds ∧ RpA K F vs ds
structure Yields (K : PySem.W.Frag) (bt : Bool) (J : It) (F : Hp) (ds : List PyData) : Prop where
  go : ∀ i H, Ext F H → i < ds.length → J.go i H
  stop : ∀ i H, Ext F H → i = ds.length → J.stop i H
  yld : ∀ i H x H', Ext F H → i < ds.length → J.yld i H x H' → ∃ d, ds[i]? = some d ∧ ItemOk K bt F H x H' d
section
variable {K : PySem.W.Frag} {F G : Hp} {ds es : List PyData} {vs ws : List V} {a b : Addr}
theorem Yields.mono {bt : Bool} {J : It} (e : Ext F G) (y : Yields K bt J F ds) : Yields K bt J G ds := ⟨fun i H h => y.go i H (e.trans h), fun i H h => y.stop i H (e.trans h), fun i H x H' h hi z => by
  obtain ⟨d, h1, h2⟩ := y.yld i H x H' (e.trans h) hi z
  refine ⟨d, h1, ?_⟩
  rcases h2 with ⟨h2, h3⟩ | ⟨hb, T, vs, ds, h2, h3, h4, h5, h6⟩
  · exact .inl ⟨h2, Rp.mono e _ _ h3⟩
  · exact .inr ⟨hb, T, vs, ds, h2, h3, h4, h5, RpA.mono e _ _ h6⟩⟩
theorem y_list {bt : Bool} (h : F a = some (.lst vs)) (r : RpA K F vs ds) : Yields K bt (Itl K a) F ds where
  go := fun i H e hi => ⟨vs, vs[i]'(by rw [r.length]; exact hi), SqL.of (e _ _ h), by simp [r.length, hi]⟩
  stop := fun i H e hi => ⟨vs, SqL.of (e _ _ h), by rw [r.length]; omega⟩
  yld := fun i H x H' e hi z => by
    obtain ⟨z1, z2⟩ := z
    obtain ⟨d, h1, h2⟩ := r.getV (z2 vs (SqL.of (e _ _ h)))
    exact ⟨d, h1, .inl ⟨z1, h2⟩⟩
theorem y_tup {bt : Bool} (h : SqT K F a vs) (r : RpA K F vs ds) : Yields K bt (Itt K a) F ds where
  go := fun i H e hi => ⟨vs, vs[i]'(by rw [r.length]; exact hi), ext_t e h, by simp [r.length, hi]⟩
  stop := fun i H e hi => ⟨vs, ext_t e h, by rw [r.length]; omega⟩
  yld := fun i H x H' e hi z => by
    obtain ⟨z1, z2⟩ := z
    obtain ⟨d, h1, h2⟩ := r.getV (z2 vs (ext_t e h))
    exact ⟨d, h1, .inl ⟨z1, h2⟩⟩
theorem y_range {bt : Bool} {J : It} {n : Nat} {g : Nat → Int} (hJ : J = ⟨fun i _ => i < n, fun i H x H' => H' = H ∧ x = .int (g i), fun i _ => n ≤ i⟩) : Yields K bt J F ((List.range n).map fun (k : Nat) => PyData.int (g k)) where
  go := fun i H e h => by
    subst hJ
    simpa using h
  stop := fun i H e h => by
    subst hJ
    simp only [List.length_map, List.length_range] at h
    exact Nat.le_of_eq h.symm
  yld := fun i H x H' e hi z => by
    subst hJ
    obtain ⟨z1, z2⟩ := z
    simp only [List.length_map, List.length_range] at hi
    refine ⟨.int (g i), by simp [hi], .inl ⟨z1, ?_⟩⟩
    rw [z2]
    exact .int _
theorem get_zipIdx {α : Type} (xs : List α) (i : Nat) (f : α × Nat → PyData) : ((xs.zipIdx.map f)[i]?) = (xs[i]?).map fun x => f (x, i) := by
  rw [List.getElem?_map, List.getElem?_zipIdx]
  cases xs[i]? <;> simp
theorem y_enum (h : F a = some (.lst vs)) (r : RpA K F vs ds) : Yields K true (Ite K a) F (ds.zipIdx.map fun p => .tuple [.int p.2, p.1]) where
  go := fun i H e hi => ⟨vs, vs[i]'(by rw [r.length]; simpa using hi), SqL.of (e _ _ h), by
    have hi' : i < ds.length := by simpa using hi
    simp [r.length, hi']⟩
  stop := fun i H e hi => ⟨vs, SqL.of (e _ _ h), by
    have hi' : i = ds.length := by simpa using hi
    rw [r.length]
    omega⟩
  yld := fun i H x H' e hi z => by
    obtain ⟨T, v, z1, z2, z3, z4⟩ := z
    obtain ⟨d, h1, h2⟩ := r.getV (z4 vs (SqL.of (e _ _ h)))
    refine ⟨.tuple [.int i, d], by rw [get_zipIdx, h1]; rfl, .inr ⟨rfl, T, _, _, z1, z2, z3, rfl, .cons (.int _) (.cons h2 .nil)⟩⟩
theorem y_enumT (h : SqT K F a vs) (r : RpA K F vs ds) : Yields K true (IteT K a) F (ds.zipIdx.map fun p => .tuple [.int p.2, p.1]) where
  go := fun i H e hi => ⟨vs, vs[i]'(by rw [r.length]; simpa using hi), ext_t e h, by
    have hi' : i < ds.length := by simpa using hi
    simp [r.length, hi']⟩
  stop := fun i H e hi => ⟨vs, ext_t e h, by
    have hi' : i = ds.length := by simpa using hi
    rw [r.length]
    omega⟩
  yld := fun i H x H' e hi z => by
    obtain ⟨T, v, z1, z2, z3, z4⟩ := z
    obtain ⟨d, h1, h2⟩ := r.getV (z4 vs (ext_t e h))
    refine ⟨.tuple [.int i, d], by rw [get_zipIdx, h1]; rfl, .inr ⟨rfl, T, _, _, z1, z2, z3, rfl, .cons (.int _) (.cons h2 .nil)⟩⟩
theorem get_zip {α β : Type} {xs : List α} {ys : List β} {i : Nat} {x : α} {y : β} (f : α × β → PyData) (h1 : xs[i]? = some x) (h2 : ys[i]? = some y) : ((xs.zip ys).map f)[i]? = some (f (x, y)) := by
  have q : (xs.zip ys)[i]? = some (x, y) := by
    rw [List.getElem?_zip_eq_some]
    exact ⟨h1, h2⟩
  rw [List.getElem?_map, q]
  rfl
theorem y_zip (h : F a = some (.lst vs)) (r : RpA K F vs ds) (h' : F b = some (.lst ws)) (r' : RpA K F ws es) : Yields K true (Itz K a b) F ((ds.zip es).map fun p => .tuple [p.1, p.2]) where
  go := fun i H e hi => by
    simp only [List.length_map, List.length_zip] at hi
    have l1 := r.length
    have l2 := r'.length
    have i1 : i < vs.length := by omega
    have i2 : i < ws.length := by omega
    exact ⟨vs, ws, vs[i], ws[i], SqL.of (e _ _ h), SqL.of (e _ _ h'), by simp [i1], by simp [i2]⟩
  stop := fun i H e hi => by
    simp only [List.length_map, List.length_zip] at hi
    have l1 := r.length
    have l2 := r'.length
    exact ⟨vs, ws, SqL.of (e _ _ h), SqL.of (e _ _ h'), by omega⟩
  yld := fun i H x H' e hi z => by
    obtain ⟨T, v, w, z1, z2, z3, z4, z5⟩ := z
    obtain ⟨d, h1, h2⟩ := r.getV (z4 vs (SqL.of (e _ _ h)))
    obtain ⟨d', h1', h2'⟩ := r'.getV (z5 ws (SqL.of (e _ _ h')))
    exact ⟨_, get_zip _ h1 h1', .inr ⟨rfl, T, _, _, z1, z2, z3, rfl, .cons h2 (.cons h2' .nil)⟩⟩
theorem y_zipT (h : SqT K F a vs) (r : RpA K F vs ds) (h' : SqT K F b ws) (r' : RpA K F ws es) : Yields K true (RZ.ItzT K a b) F ((ds.zip es).map fun p => .tuple [p.1, p.2]) where
  go := fun i H e hi => by
    simp only [List.length_map, List.length_zip] at hi
    have l1 := r.length
    have l2 := r'.length
    have i1 : i < vs.length := by omega
    have i2 : i < ws.length := by omega
    exact ⟨vs, ws, vs[i], ws[i], ext_t e h, ext_t e h', by simp [i1], by simp [i2]⟩
  stop := fun i H e hi => by
    simp only [List.length_map, List.length_zip] at hi
    have l1 := r.length
    have l2 := r'.length
    exact ⟨vs, ws, ext_t e h, ext_t e h', by omega⟩
  yld := fun i H x H' e hi z => by
    obtain ⟨T, v, w, z1, z2, z3, z4, z5⟩ := z
    obtain ⟨d, h1, h2⟩ := r.getV (z4 vs (ext_t e h))
    obtain ⟨d', h1', h2'⟩ := r'.getV (z5 ws (ext_t e h'))
    exact ⟨_, get_zip _ h1 h1', .inr ⟨rfl, T, _, _, z1, z2, z3, rfl, .cons h2 (.cons h2' .nil)⟩⟩
theorem zip_map_fst {α β : Type} : ∀ (xs : List α) (ys : List β), xs.length = ys.length → (xs.zip ys).map (·.1) = xs
  | [], _, _ => rfl
  | x :: xs, [], h => by simp at h
  | x :: xs, y :: ys, h => by rw [List.zip_cons_cons, List.map_cons, zip_map_fst xs ys (by simpa using h)]
theorem y_keysT {bt : Bool} {o : Obj} {es : List TEnt} (h : F a = some (.frz o (hoT a es))) (hk : ∀ e ∈ es, TupN K F e.2.1 (e.1.map V.int)) : Yields K bt (ItkT a o es) F (es.map keyT) where
  go := fun i H e hi => ⟨e _ _ h, by simpa using hi⟩
  stop := fun i H e hi => ⟨e _ _ h, by rw [hi, List.length_map]; exact Nat.le_refl _⟩
  yld := fun i H x H' e hi z => by
    obtain ⟨z1, en, z2, rfl⟩ := z
    have hm := List.mem_of_getElem? z2
    refine ⟨keyT en, by rw [List.getElem?_map, z2]; rfl, .inl ⟨z1, .tup (hk en hm) (RpA.of_ints en.1)⟩⟩
theorem y_keysK {bt : Bool} {o : Obj} {es : List (Int × V)} (h : F a = some (.frz o (.dK (es.map fun e => (.inl e.1, e.2))))) : Yields K bt (Itk a o (es.map fun e => (.inl e.1, e.2))) F (es.map fun e => PyData.int e.1) where
  go := fun i H e hi => ⟨e _ _ h, by simpa using hi⟩
  stop := fun i H e hi => ⟨e _ _ h, by rw [hi, List.length_map, List.length_map]; exact Nat.le_refl _⟩
  yld := fun i H x H' e hi z => by
    obtain ⟨z1, k, v, z2, rfl⟩ := z
    rw [List.getElem?_map] at z2
    cases q : es[i]? with
    | none => rw [q] at z2; cases z2
    | some en =>
      rw [q] at z2
      cases z2
      exact ⟨.int en.1, by rw [List.getElem?_map, q]; rfl, .inl ⟨z1, .int _⟩⟩
theorem y_items {o : Obj} {es : List (Int × V)} {ds : List PyData} (h : F a = some (.frz o (.dK (es.map fun e => (.inl e.1, e.2))))) (r : RpA K F (es.map (·.2)) ds) : Yields K true (Iti a o (es.map fun e => (.inl e.1, e.2))) F (((es.map fun e => PyData.int e.1).zip ds).map fun p => .tuple [p.1, p.2]) where
  go := fun i H e hi => ⟨e _ _ h, by
    have l := r.length
    simp only [List.length_map, List.length_zip] at hi l ⊢
    omega⟩
  stop := fun i H e hi => ⟨e _ _ h, by
    have l := r.length
    simp only [List.length_map, List.length_zip] at hi l ⊢
    omega⟩
  yld := fun i H x H' e hi z => by
    obtain ⟨T, k, v, z2, z1, z3, z4⟩ := z
    rw [List.getElem?_map] at z2
    cases q : es[i]? with
    | none => rw [q] at z2; cases z2
    | some en =>
      rw [q] at z2
      cases z2
      obtain ⟨d, h1, h2⟩ := r.getV (i := i) (v := en.2) (by rw [List.getElem?_map, q]; rfl)
      exact ⟨.tuple [.int en.1, d], get_zip _ (by rw [List.getElem?_map, q]; rfl) h1, .inr ⟨rfl, T, _, _, z1, z3, z4, rfl, .cons (.int _) (.cons h2 .nil)⟩⟩
theorem y_rev {bt : Bool} (h : F a = some (.lst vs)) (r : RpA K F vs ds) : Yields K bt (Itv K a vs.length) F ds.reverse where
  go := fun i H e hi => by
    have hi' : i < vs.length := by rw [r.length]; simpa using hi
    have h2 : vs.length - 1 - i < vs.length := by omega
    exact ⟨hi', vs, vs[vs.length - 1 - i], SqL.of (e _ _ h), by simp [h2]⟩
  stop := fun i H e hi => by
    have hi' : i = vs.length := by rw [r.length]; simpa using hi
    exact Nat.le_of_eq hi'.symm
  yld := fun i H x H' e hi z => by
    have hi' : i < ds.length := by simpa using hi
    obtain ⟨z1, z2⟩ := z
    obtain ⟨d, h1, h2⟩ := r.getV (z2 vs (SqL.of (e _ _ h)))
    rw [r.length] at h1
    refine ⟨d, ?_, .inl ⟨z1, h2⟩⟩
    rw [List.getElem?_reverse hi']
    exact h1
end

/-! ### the readings of what is walked -/
def PostI (W : WX0) (K : PySem.W.Frag) (bt : Bool) (P F0 : Hp) (io : Option Addr) (F : Hp) (σ : L2.St) (R' : It → Hp → Prop) : R (List PyData × Env) → Prop
  | .stuck => False
  | .exc c => ∀ H', Ext P H' → W c H'
  | .ok (ds, env') => ∀ J F' H', StOk K P F0 io F' env' σ H' → Ext F F' → Yields K bt J F' ds → R' J H'
theorem PostI.mono {bt : Bool} {W : WX0} {K : PySem.W.Frag} {P F0 F F' : Hp} {io : Option Addr} {σ : L2.St} {R' : It → Hp → Prop} {r : R (List PyData × Env)} (e : Ext F F') (h : PostI W K bt P F0 io F σ R' r) : PostI W K bt P F0 io F' σ R' r := by
  cases r with
  | stuck => exact h
  | exc c => exact h
  | ok p => exact fun J G H' s e2 y => h J G H' s (e.trans e2) y
def prI (W : WX0) (K : PySem.W.Frag) (bt : Bool) (P F0 : Hp) (io : Option Addr) (σ : L2.St) (R' : It → Hp → Prop) : PR W P (List PyData × Env) := ⟨fun F => PostI W K bt P F0 io F σ R', fun _ h => h, fun _ _ h => h, fun e h => h.mono e⟩
def TIi (W : WX0) (K : PySem.W.Frag) (bt : Bool) (f : Env → R (List PyData × Env)) : TI := fun σ H R' => ∃ P F0 io F env, StOk K P F0 io F env σ H ∧ PostI W K bt P F0 io F σ R' (f env)
section
variable {L : Wld} {N : List Str} {n : Nat} {cl : Cl} {sc : Scope} {W : WX0} {X : Cx} {tg : Expr}
theorem PI.imp {e : Expr} {w w' : TI} (h : PI X tg e w) (i : ∀ σ H R', w' σ H R' → w σ H R') : PI X tg e w' := ⟨fun pins s σ H R' I q => h.run pins s σ H R' I (i σ H R' q)⟩
theorem PI.or {e : Expr} {w w' : TI} (h : PI X tg e w) (h' : PI X tg e w') : PI X tg e (fun σ H R' => w σ H R' ∨ w' σ H R') := ⟨fun pins s σ H R' I q => q.elim (h.run pins s σ H R' I) (h'.run pins s σ H R' I)⟩
/-- a list, a tuple, a dict -/
theorem pi_seq {bt : Bool} {e : Expr} {f : MP.Env → R (Val × MP.Env)} {a : MP.Env → R (List Val × MP.Env)} (K : X.K = L.K) (h : PE X e (TV W L.K f)) : PI X tg e (TIi W L.K bt (itE .seq f a)) := by
  refine PI.imp (PI.or (pi_list h) (PI.or (pi_tup h) (pi_keysT h))) ?_
  rw [K]
  rintro σ H R' ⟨P, F0, io, F, env, s, q⟩
  unfold itE at q
  -- which of them it is stands in the answer
  cases hf : f env with
  | stuck => rw [hf] at q; exact q.elim
  | exc c => exact .inl ⟨P, F0, io, F, env, s, by rw [hf] at q ⊢; exact q⟩
  | ok p =>
    have q0 := q
    rw [hf] at q
    simp only [R.bind_ok] at q
    cases hd : p.1.frz with
    | fr _ => rw [hd] at q; exact q.elim
    | fd _ _ => rw [hd] at q; exact q.elim
    | pk _ => rw [hd] at q; exact q.elim
    | fz d =>
      rw [hd] at q
      cases d <;> first | exact q.elim | skip
      · refine .inl (TV.goF (prI W L.K bt P F0 io σ R') s q0 fun v e1 he x F1 H1 s1 x1 v1 h1 => ?_)
        rw [hf] at he
        cases he
        rw [hd] at v1
        simp only [hd] at h1
        cases v1 with
        | lst z1 z2 => exact ⟨_, rfl, ⟨_, SqL.of (s1.fH _ _ z1)⟩, h1 _ F1 H1 s1 (Ext.refl F1) (y_list z1 z2)⟩
      · refine .inr (.inl (TV.goF (prI W L.K bt P F0 io σ R') s q0 fun v e1 he x F1 H1 s1 x1 v1 h1 => ?_))
        rw [hf] at he
        cases he
        rw [hd] at v1
        simp only [hd] at h1
        cases v1 with
        | tup z1 z2 => exact ⟨_, rfl, ⟨_, ext_t s1.fH z1.t⟩, h1 _ F1 H1 s1 (Ext.refl F1) (y_tup z1.t z2)⟩
      · refine .inr (.inr (TV.goF (prI W L.K bt P F0 io σ R') s q0 fun v e1 he x F1 H1 s1 x1 v1 h1 => ?_))
        rw [hf] at he
        cases he
        rw [hd] at v1
        simp only [hd] at h1
        have v1 : Rp L.K F1 x (.dict _) := v1
        obtain ⟨k, r, rfl⟩ := v1.dicF
        obtain ⟨p, u, o, rfl, hp, ho⟩ := v1.dic
        cases k with
        | true =>
          obtain ⟨es, vs, ds, rfl, k1, k2, k3, k4, rfl⟩ := ho
          refine ⟨p, o, rfl, .inr ⟨es, s1.fH _ _ hp, h1 _ F1 H1 s1 (Ext.refl F1) ?_⟩⟩
          rw [zip_map_fst _ _ (by
            have e1 := k3.length
            have e2 := k4.length
            simp only [List.length_map] at e1 ⊢
            omega)]
          exact y_keysT hp k1
        | false =>
          obtain ⟨es, ds, rfl, k2, k3, rfl⟩ := ho
          refine ⟨p, o, rfl, .inl ⟨_, s1.fH _ _ hp, h1 _ F1 H1 s1 (Ext.refl F1) ?_⟩⟩
          rw [zip_map_fst _ _ (by
            have e1 := k3.length
            simp only [List.length_map] at e1 ⊢
            omega)]
          exact y_keysK hp
/-- a dict's pairs -/
theorem pi_itemsE {e : Expr} {elts : List Expr} {kk : Nat} {tpos apos cpos : Pos} {f : MP.Env → R (Val × MP.Env)} {a : MP.Env → R (List Val × MP.Env)} (K : X.K = L.K) (h : PE X e (TV W L.K f)) (hb : attributeBase e "items" X.env (eval e X.env) = eval e X.env) (hl : (apos.endLine == cpos.line) = true) :
    PI X (.Tuple elts kk tpos) (.Call (.Attribute e "items" apos) [] [] cpos) (TIi W L.K true (itE .items f a)) := by
  refine PI.imp (pi_items h hb hl) ?_
  rintro σ H R' ⟨P, F0, io, F, env, s, q⟩
  refine TV.goF (prI W L.K true P F0 io σ R') s q fun v e1 he x F1 H1 s1 x1 v1 h1 => ?_
  cases hd : v.frz with
  | fr _ => rw [hd] at h1; exact h1.elim
  | fd _ _ => rw [hd] at h1; exact h1.elim
  | pk _ => rw [hd] at h1; exact h1.elim
  | fz d =>
    rw [hd] at v1
    simp only [hd] at h1
    cases d <;> first | exact h1.elim | skip
    have v1 : Rp L.K F1 x (.dict _) := v1
    obtain ⟨k, r, rfl⟩ := v1.dicF
    obtain ⟨p, u, o, rfl, hp, ho⟩ := v1.dic
    cases k with
    | true => exact h1.elim
    | false =>
      obtain ⟨es, ds, rfl, k2, k3, rfl⟩ := ho
      exact ⟨p, o, _, rfl, s1.fH _ _ hp, h1 _ F1 H1 s1 (Ext.refl F1) (y_items hp k3)⟩
theorem fzAll_len : ∀ {vs : List Val} {ds : List PyData}, fzAll vs = some ds → ds.length = vs.length
  | [], ds, e => by
    cases e
    rfl
  | v :: vs, ds, e => by
    cases v with
    | fz d =>
      simp only [fzAll] at e
      cases q : fzAll vs with
      | none => rw [q] at e; cases e
      | some es =>
        rw [q] at e
        cases e
        simp [fzAll_len q]
    | fr _ => simp [fzAll] at e
    | fd _ _ => simp [fzAll] at e
    | pk _ => simp [fzAll] at e
/-- so many arguments -/
def ArgN (a : MP.Env → R (List Val × MP.Env)) (m : Nat) : Prop := ∀ env vs e1, a env = .ok (vs, e1) → vs.length = m
/-- behind the arguments of range, enumerate .. -/
theorem ti_args {bt : Bool} {m : Nat} {ik : Ik} (hik : ik ≠ .seq ∧ ik ≠ .items) {v : MP.Env → R (Val × MP.Env)} {a : MP.Env → R (List Val × MP.Env)} {σ : L2.St} {H : Hp} {R' : It → Hp → Prop} (hm : ArgN a m) (h : TIi W L.K bt (itE ik v a) σ H R')
    {Q : List V → Hp → Prop} (k : ∀ {P F0 F : Hp} {io : Option Addr} {env : MP.Env} {vs : List V} {ds : List PyData} {H1 : Hp}, StOk L.K P F0 io F env σ H1 → ds.length = m → RpA L.K F vs ds → PostI W L.K bt P F0 io F σ R' ((itemsD ik ds).bind fun xs => .ok (xs, env)) → Q vs H1) : TAa W L.K a σ H Q := by
  obtain ⟨P, F0, io, F, env, s, q⟩ := h
  have q : PostI W L.K bt P F0 io F σ R' ((a env).bind fun p => (R.of (fzAll p.1)).bind fun ds => (itemsD ik ds).bind fun xs => .ok (xs, p.2)) := by
    cases ik <;> first | exact absurd rfl hik.1 | exact absurd rfl hik.2 | exact q
  refine TAa.go (prI W L.K bt P F0 io σ R') s q fun vs e1 he xs F1 H1 s1 x1 v1 h1 => ?_
  obtain ⟨ds, hd, h2⟩ := PR.of h1
  exact k s1 ((fzAll_len hd).trans (hm _ _ _ he)) (VsOk.fz v1 hd) h2
theorem PostI.ite {bt : Bool} {K : PySem.W.Frag} {P F0 F : Hp} {io : Option Addr} {env : MP.Env} {σ : L2.St} {R' : It → Hp → Prop} {c : Prop} [Decidable c] {v : List PyData} (h : PostI W K bt P F0 io F σ R' ((if c then R.ok v else R.stuck).bind fun v => .ok (v, env))) : c ∧ PostI W K bt P F0 io F σ R' (.ok (v, env)) := by
  by_cases hc : c
  · rw [if_pos hc] at h
    exact ⟨hc, h⟩
  · rw [if_neg hc] at h
    exact h.elim
/-- the item list of the operator, by its arguments -/
theorem items_rng1 {bt : Bool} {K : PySem.W.Frag} {P F0 F H : Hp} {io : Option Addr} {env : MP.Env} {σ : L2.St} {R' : It → Hp → Prop} {i : Int} (h : PostI W K bt P F0 io F σ R' ((itemsD .rng [.int i]).bind fun v => .ok (v, env))) (s : StOk K P F0 io F env σ H) : -(2 ^ 62) ≤ i ∧ i < 2 ^ 62 ∧ R' (Itr 0 i.toNat) H := by
  obtain ⟨c, h⟩ := PostI.ite (c := -1000000 ≤ i ∧ i ≤ 1000000) h
  refine ⟨by omega, by omega, h _ F H s (Ext.refl F) ?_⟩
  have e : rangeD 0 i = (List.range i.toNat).map fun (k : Nat) => PyData.int ((fun k : Nat => 0 + (k : Int)) k) := by
    unfold rangeD
    rw [Int.sub_zero]
  rw [e]
  exact y_range rfl
theorem items_rng2 {bt : Bool} {K : PySem.W.Frag} {P F0 F H : Hp} {io : Option Addr} {env : MP.Env} {σ : L2.St} {R' : It → Hp → Prop} {i j : Int} (h : PostI W K bt P F0 io F σ R' ((itemsD .rng [.int i, .int j]).bind fun v => .ok (v, env))) (s : StOk K P F0 io F env σ H) :
    (-(2 ^ 62) ≤ i ∧ i < 2 ^ 62 ∧ -(2 ^ 62) ≤ j ∧ j < 2 ^ 62) ∧ R' (Itr i (j - i).toNat) H := by
  obtain ⟨c, h⟩ := PostI.ite (c := -1000000 ≤ i ∧ i ≤ 1000000 ∧ -1000000 ≤ j ∧ j ≤ 1000000) h
  refine ⟨⟨by omega, by omega, by omega, by omega⟩, h _ F H s (Ext.refl F) ?_⟩
  exact y_range (g := fun k : Nat => i + (k : Int)) rfl
theorem items_rng3 {bt : Bool} {K : PySem.W.Frag} {P F0 F H : Hp} {io : Option Addr} {env : MP.Env} {σ : L2.St} {R' : It → Hp → Prop} {i j : Int} (h : PostI W K bt P F0 io F σ R' ((itemsD .rng [.int i, .int j, .int (-1)]).bind fun v => .ok (v, env))) (s : StOk K P F0 io F env σ H) :
    RgC i j (-1) (i - j).toNat ∧ R' (Itc i (-1) (i - j).toNat) H := by
  obtain ⟨c, h⟩ := PostI.ite (c := -1000000 ≤ i ∧ i ≤ 1000000 ∧ -1000000 ≤ j ∧ j ≤ 1000000) h
  refine ⟨RgC.neg (by omega) (by omega) (by omega) (by omega), h _ F H s (Ext.refl F) ?_⟩
  have e : ((List.range (i - j).toNat).map fun (k : Nat) => PyData.int (i - (k : Int))) = (List.range (i - j).toNat).map fun (k : Nat) => PyData.int ((fun k : Nat => i + (k : Int) * (-1)) k) := by
    congr 1
    funext k
    congr 1
    show i - (k : Int) = i + (k : Int) * (-1)
    omega
  rw [e]
  exact y_range rfl
theorem pi_rng {bt : Bool} (o : XOk L N n cl sc W X) {es : List Expr} {p pos : Pos} {v : MP.Env → R (Val × MP.Env)} {a : MP.Env → R (List Val × MP.Env)} (hg : Gl X "range") (ha : PA X es (TAa W L.K a)) (hn : ArgN a es.length) (hs : ∀ e ∈ es, ∀ x q, e ≠ .Starred x q) (hne : es ≠ []) (h3 : es.length ≤ 3) :
    PI X tg (.Call (.Name "range" p) es [] pos) (TIi W L.K bt (itE .rng v a)) := by
  have hm : X.mg "range" = none := o.bl (by decide +kernel)
  match es, hne, h3 with
  | [e1], _, _ =>
    refine PI.imp (pi_range1 hg hm ha (star_cons (hs e1 (by simp)) [] X.env)) ?_
    intro σ H R' q
    refine ti_args (by decide) hn q fun {P F0 F io env vs ds H1} s hl r h => ?_
    match ds, hl, r, h with
    | [d], _, .cons r1 .nil, h =>
      cases d <;> first | exact h.elim | skip
      cases r1
      obtain ⟨h1, h2, h3⟩ := items_rng1 h s
      exact ⟨_, rfl, h1, h2, h3⟩
  | [e1, e2], _, _ =>
    refine PI.imp (pi_range2 hg hm ha ((star_cons (hs e1 (by simp)) [e2] X.env).trans (by rw [star_cons (hs e2 (by simp)) [] X.env] <;> rfl)) (star_cons (hs e2 (by simp)) [] X.env)) ?_
    intro σ H R' q
    refine ti_args (by decide) hn q fun {P F0 F io env vs ds H1} s hl r h => ?_
    match ds, hl, r, h with
    | [d, d'], _, .cons r1 (.cons r2 .nil), h =>
      cases d <;> cases d' <;> first | exact h.elim | skip
      cases r1
      cases r2
      obtain ⟨h1, h3⟩ := items_rng2 h s
      exact ⟨_, _, rfl, h1, h3⟩
  | [e1, e2, e3], _, _ =>
    refine PI.imp (pi_range3 hg hm ha (star_cons (hs e1 (by simp)) [e2, e3] X.env) (by rw [star_cons (hs e2 (by simp)) [e3] X.env, star_cons (hs e3 (by simp)) [] X.env] <;> rfl)) ?_
    intro σ H R' q
    refine ti_args (by decide) hn q fun {P F0 F io env vs ds H1} s hl r h => ?_
    match ds, hl, r, h with
    | [d, d', d2], _, .cons r1 (.cons r2 (.cons r3 .nil)), h =>
      cases d <;> cases d' <;> cases d2 <;> first | exact h.elim | skip
      cases r1
      cases r2
      cases r3
      rename_i i j k _
      by_cases hk : k = -1
      · subst hk
        obtain ⟨h1, h3⟩ := items_rng3 h s
        exact ⟨_, _, _, _, rfl, h1, h3⟩
      · exfalso
        have e : itemsD .rng [.int i, .int j, .int k] = .stuck := by
          match k, hk with
          | .ofNat _, _ => rfl
          | .negSucc 0, hk => exact absurd rfl hk
          | .negSucc (_ + 1), _ => rfl
        rw [e] at h
        exact h
  | e1 :: e2 :: e3 :: e4 :: es', _, h3 => exact absurd h3 (by simp)
theorem pi_enumA (o : XOk L N n cl sc W X) {e : Expr} {p pos tpos : Pos} {elts : List Expr} {kk : Nat} {v : MP.Env → R (Val × MP.Env)} {a : MP.Env → R (List Val × MP.Env)} (hg : Gl X "enumerate") (ha : PA X [e] (TAa W L.K a)) (hn : ArgN a 1) (hs : ∀ x q, e ≠ .Starred x q) :
    PI X (.Tuple elts kk tpos) (.Call (.Name "enumerate" p) [e] [] pos) (TIi W L.K true (itE .enum v a)) := by
  have hm : X.mg "enumerate" = none := o.bl (by decide +kernel)
  have hst := star_cons hs [] X.env
  refine PI.imp (PI.or (pi_enum hg hm ha hst) (pi_enumT hg hm ha hst)) ?_
  rw [o.hK]
  intro σ H R' q
  -- which of the two it is stands in the answer
  have q0 := q
  obtain ⟨P, F0, io, F, env, s, q⟩ := q
  have q : PostI W L.K true P F0 io F σ R' ((a env).bind fun p => (R.of (fzAll p.1)).bind fun ds => (itemsD .enum ds).bind fun xs => .ok (xs, p.2)) := q
  cases hf : a env with
  | stuck => rw [hf] at q; exact q.elim
  | exc c => exact .inl ⟨P, F0, io, F, env, s, by rw [hf] at q ⊢; exact q⟩
  | ok w =>
    have q1 := q
    rw [hf] at q
    simp only [R.bind_ok] at q
    obtain ⟨ds, hd, h2⟩ := PR.of (C := prI W L.K true P F0 io σ R') q
    have hl := (fzAll_len hd).trans (hn _ _ _ hf)
    match ds, hl, hd, h2 with
    | [d], _, hd, h2 =>
      cases d <;> first | exact h2.elim | skip
      · refine .inl (TAa.go (prI W L.K true P F0 io σ R') s q1 fun vs e1 he xs F1 H1 s1 x1 v1 h1 => ?_)
        rw [hf] at he
        cases he
        have v2 := VsOk.fz v1 hd
        rw [hd] at h1
        match xs, v2, h1 with
        | [x], .cons r1 .nil, h1 =>
          cases r1 with
          | lst z1 z2 => exact ⟨_, _, rfl, SqL.of (s1.fH _ _ z1), h1 _ F1 H1 s1 (Ext.refl F1) (y_enum z1 z2)⟩
      · refine .inr (TAa.go (prI W L.K true P F0 io σ R') s q1 fun vs e1 he xs F1 H1 s1 x1 v1 h1 => ?_)
        rw [hf] at he
        cases he
        have v2 := VsOk.fz v1 hd
        rw [hd] at h1
        match xs, v2, h1 with
        | [x], .cons r1 .nil, h1 =>
          cases r1 with
          | tup z1 z2 => exact ⟨_, _, rfl, ext_t s1.fH z1.t, h1 _ F1 H1 s1 (Ext.refl F1) (y_enumT z1.t z2)⟩
theorem pi_zipE (o : XOk L N n cl sc W X) {e e2 : Expr} {p pos tpos : Pos} {elts : List Expr} {kk : Nat} {v : MP.Env → R (Val × MP.Env)} {a : MP.Env → R (List Val × MP.Env)} (hg : Gl X "zip") (ha : PA X [e, e2] (TAa W L.K a)) (hn : ArgN a 2) (hs : ∀ x q, e ≠ .Starred x q) (hs2 : ∀ x q, e2 ≠ .Starred x q) :
    PI X (.Tuple elts kk tpos) (.Call (.Name "zip" p) [e, e2] [] pos) (TIi W L.K true (itE .zip v a)) := by
  have hm : X.mg "zip" = none := o.bl (by decide +kernel)
  refine PI.imp (RZ.pi_zipA hg hm ha (star_cons hs [e2] X.env) (by rw [star_cons hs2 [] X.env] <;> rfl)) ?_
  rw [o.hK]
  intro σ H R' q
  refine ti_args (by decide) hn q fun {P F0 F io env vs ds H1} s hl r h => ?_
  match ds, hl, r, h with
  | [d, d'], _, .cons r1 (.cons r2 .nil), h =>
    cases d <;> cases d' <;> first | exact h.elim | skip
    · cases r1 with
      | lst z1 z2 =>
        cases r2 with
        | lst y1 y2 => exact ⟨_, _, _, _, rfl, .inl ⟨SqL.of (s.fH _ _ z1), SqL.of (s.fH _ _ y1), h _ F H1 s (Ext.refl F) (y_zip z1 z2 y1 y2)⟩⟩
    · cases r1 with
      | tup z1 z2 =>
        cases r2 with
        | tup y1 y2 => exact ⟨_, _, _, _, rfl, .inr ⟨ext_t s.fH z1.t, ext_t s.fH y1.t, h _ F H1 s (Ext.refl F) (y_zipT z1.t z2 y1.t y2)⟩⟩
theorem pi_revE {bt : Bool} (o : XOk L N n cl sc W X) {e : Expr} {p pos : Pos} {v : MP.Env → R (Val × MP.Env)} {a : MP.Env → R (List Val × MP.Env)} (hg : Gl X "reversed") (ha : PA X [e] (TAa W L.K a)) (hn : ArgN a 1) (hs : ∀ x q, e ≠ .Starred x q) :
    PI X tg (.Call (.Name "reversed" p) [e] [] pos) (TIi W L.K bt (itE .rev v a)) := by
  have hm : X.mg "reversed" = none := o.bl (by decide +kernel)
  refine PI.imp (pi_reversed hg hm ha (star_cons hs [] X.env)) ?_
  rw [o.hK]
  intro σ H R' q
  refine ti_args (by decide) hn q fun {P F0 F io env vs ds H1} s hl r h => ?_
  match ds, hl, r, h with
  | [d], _, .cons r1 .nil, h =>
    cases d <;> first | exact h.elim | skip
    cases r1 with
    | lst z1 z2 => exact ⟨_, _, rfl, SqL.of (s.fH _ _ z1), h _ F H1 s (Ext.refl F) (y_rev z1 z2)⟩
end
end MP

/-! Mini, part C5: targets, comprehensions. -/
set_option linter.all false
set_option Elab.async false
set_option maxRecDepth 100000
set_option maxHeartbeats 4000000
namespace MP
open PySem PySem.Spec PyProof.Rows L2
section
variable {K : PySem.W.Frag} {P F0 F F' H H' : Hp} {io : Option Addr} {env : MP.Env} {σ : L2.St} {x v : V} {d : PyData}
/-- another value at a name -/
theorem mutAt_set {i j : Nat} {s : Slot} {w : Option V} {p : Addr} (hs : isOwn (some s) = false) (m : MutAt (env.set i s) (σ.set i w) j p) : j ≠ i ∧ MutAt env σ j p := by
  obtain ⟨a, b⟩ := m
  by_cases hj : j = i
  · subst hj
    by_cases hl : j < env.length
    · rw [List.getElem?_set_self hl] at a
      rw [hs] at a
      cases a
    · rw [List.getElem?_eq_none (by simpa using hl)] at a
      cases a
  · rw [List.getElem?_set_ne (Ne.symm hj)] at a b
    exact ⟨hj, a, b⟩
/-- a slot forgotten -/
theorem StOk.forget (s : StOk K P F0 io F env σ H) (i : Nat) (w : Option V) : StOk K P F0 io F (env.set i .un) (σ.set i w) H := ⟨s.pH, s.f0, s.fH, s.hid, by rw [List.length_set, List.length_set]; exact s.len, fun j sl hj => by
  by_cases hji : j = i
  · subst hji
    by_cases hl : j < env.length
    · rw [List.getElem?_set_self hl] at hj
      cases hj
      trivial
    · rw [List.getElem?_eq_none (by simpa using hl)] at hj
      cases hj
  · rw [List.getElem?_set_ne (Ne.symm hji)] at hj ⊢
    exact s.sl j sl hj, fun j k p mj mk => s.dist j k p (mutAt_set rfl mj).2 (mutAt_set rfl mk).2⟩
theorem StOk.putVal (s : StOk K P F0 io F env σ H) (i : Nat) (r : Rp K F v d) : StOk K P F0 io F (env.set i (.val d)) (σ.set i (some v)) H := ⟨s.pH, s.f0, s.fH, s.hid, by rw [List.length_set, List.length_set]; exact s.len, fun j sl hj => by
  by_cases hji : j = i
  · subst hji
    by_cases hl : j < env.length
    · rw [List.getElem?_set_self hl] at hj
      cases hj
      exact ⟨v, by rw [List.getElem?_set_self (by rw [s.len]; exact hl)], r⟩
    · rw [List.getElem?_eq_none (by simpa using hl)] at hj
      cases hj
  · rw [List.getElem?_set_ne (Ne.symm hji)] at hj ⊢
    exact s.sl j sl hj, fun j k p mj mk => s.dist j k p (mutAt_set rfl mj).2 (mutAt_set rfl mk).2⟩
/-- a list of one's own at a name -/
theorem StOk.putOwn (s : StOk K P F0 io F env σ H) (i : Nat) {p : Addr} {vs : List V} {ds : List PyData} (h1 : H p = some (.lst vs)) (r : RpA K F vs ds) (h2 : F p = none) (h3 : P p = none) (hm : ∀ j, ¬ MutAt env σ j p) :
    StOk K P F0 io F (env.set i (.own ds)) (σ.set i (some (.ref p))) H := by
  have key : ∀ {j : Nat} {q : Addr}, MutAt (env.set i (.own ds)) (σ.set i (some (.ref p))) j q → (j = i ∧ q = p) ∨ (j ≠ i ∧ MutAt env σ j q) := fun {j q} ⟨a, b⟩ => by
    by_cases hj : j = i
    · subst hj
      by_cases hl : j < σ.length
      · rw [List.getElem?_set_self hl] at b
        cases b
        exact .inl ⟨rfl, rfl⟩
      · rw [List.getElem?_eq_none (by simpa using hl)] at b
        cases b
    · rw [List.getElem?_set_ne (Ne.symm hj)] at a b
      exact .inr ⟨hj, a, b⟩
  refine ⟨s.pH, s.f0, s.fH, s.hid, by rw [List.length_set, List.length_set]; exact s.len, fun j sl hj => ?_, fun j k q mj mk => ?_⟩
  · by_cases hji : j = i
    · subst hji
      by_cases hl : j < env.length
      · rw [List.getElem?_set_self hl] at hj
        cases hj
        exact ⟨p, vs, by rw [List.getElem?_set_self (by rw [s.len]; exact hl)], h1, r, h2, h3⟩
      · rw [List.getElem?_eq_none (by simpa using hl)] at hj
        cases hj
    · rw [List.getElem?_set_ne (Ne.symm hji)] at hj ⊢
      exact s.sl j sl hj
  · rcases key mj with ⟨e1, e2⟩ | ⟨e1, e2⟩
    · rcases key mk with ⟨e3, e4⟩ | ⟨e3, e4⟩
      · exact e1.trans e3.symm
      · exact absurd (e2 ▸ e4) (hm k)
    · rcases key mk with ⟨e3, e4⟩ | ⟨e3, e4⟩
      · exact absurd (e4 ▸ e2) (hm j)
      · exact s.dist j k q e2 e4
theorem StOk.putMdk (s : StOk K P F0 io F env σ H) (i : Nat) {p : Addr} {u : HO} {k : Bool} {ds : List (PyData × PyData)} (h1 : H p = some u) (r : DicO K F p u k ds) (h2 : F p = none) (h3 : P p = none) (hm : ∀ j, ¬ MutAt env σ j p) :
    StOk K P F0 io F (env.set i (.mdk k ds)) (σ.set i (some (.ref p))) H := by
  have key : ∀ {j : Nat} {q : Addr}, MutAt (env.set i (.mdk k ds)) (σ.set i (some (.ref p))) j q → (j = i ∧ q = p) ∨ (j ≠ i ∧ MutAt env σ j q) := fun {j q} ⟨a, b⟩ => by
    by_cases hj : j = i
    · subst hj
      by_cases hl : j < σ.length
      · rw [List.getElem?_set_self hl] at b
        cases b
        exact .inl ⟨rfl, rfl⟩
      · rw [List.getElem?_eq_none (by simpa using hl)] at b
        cases b
    · rw [List.getElem?_set_ne (Ne.symm hj)] at a b
      exact .inr ⟨hj, a, b⟩
  refine ⟨s.pH, s.f0, s.fH, s.hid, by rw [List.length_set, List.length_set]; exact s.len, fun j sl hj => ?_, fun j k' q mj mk => ?_⟩
  · by_cases hji : j = i
    · subst hji
      by_cases hl : j < env.length
      · rw [List.getElem?_set_self hl] at hj
        cases hj
        exact ⟨p, u, by rw [List.getElem?_set_self (by rw [s.len]; exact hl)], h1, r, h2, h3⟩
      · rw [List.getElem?_eq_none (by simpa using hl)] at hj
        cases hj
    · rw [List.getElem?_set_ne (Ne.symm hji)] at hj ⊢
      exact s.sl j sl hj
  · rcases key mj with ⟨e1, e2⟩ | ⟨e1, e2⟩
    · rcases key mk with ⟨e3, e4⟩ | ⟨e3, e4⟩
      · exact e1.trans e3.symm
      · exact absurd (e2 ▸ e4) (hm k')
    · rcases key mk with ⟨e3, e4⟩ | ⟨e3, e4⟩
      · exact absurd (e4 ▸ e2) (hm j)
      · exact s.dist j k' q e2 e4
/-- a list that is kept meanwhile -/
theorem StOk.pin (s : StOk K P F0 io F env σ H) {D : Addr} {o : HO} (h : H D = some o) (hF : F D = none) (hm : ∀ j, ¬ MutAt env σ j D) : StOk K (upd P D o) F0 io F env σ H := by
  refine ⟨fun a u e => ?_, s.f0, s.fH, fun a u h1 h2 => ?_, s.len, fun i sl hi => ?_, s.dist⟩
  · by_cases ha : a = D
    · subst ha
      rw [upd_same] at e
      cases e
      exact h
    · rw [upd_ne ha] at e
      exact s.pH a u e
  · by_cases ha : a = D
    · exact ha ▸ hF
    · rw [upd_ne ha] at h1
      exact s.hid a u h1 h2
  · have q := s.sl i sl hi
    cases sl with
    | un => trivial
    | val d => exact q
    | own ds =>
      obtain ⟨p, vs, h1, h2, h3, h4, h5⟩ := q
      refine ⟨p, vs, h1, h2, h3, h4, ?_⟩
      rw [upd_ne (fun e => hm i (by rw [← e]; exact ⟨by rw [hi]; rfl, h1⟩))]
      exact h5
    | io ds =>
      obtain ⟨p, vs, h0, h1, h2, h3, h4, h5⟩ := q
      refine ⟨p, vs, h0, h1, h2, h3, h4, ?_⟩
      rw [upd_ne (fun e => hm i (by rw [← e]; exact ⟨by rw [hi]; rfl, h1⟩))]
      exact h5
    | scr ns => exact q
    | mdk k kvs =>
      obtain ⟨p, u, h1, h2, h3, h4, h5⟩ := q
      refine ⟨p, u, h1, h2, h3, h4, ?_⟩
      rw [upd_ne (fun e => hm i (by rw [← e]; exact ⟨by rw [hi]; rfl, h1⟩))]
      exact h5
theorem StOk.weakP {P' : Hp} (s : StOk K P' F0 io F env σ H) (e : Ext P P') : StOk K P F0 io F env σ H := ⟨e.trans s.pH, s.f0, s.fH, fun p o h1 h2 => s.hid p o (e _ _ h1) h2, s.len, fun i sl hi => by
  have q := s.sl i sl hi
  cases sl with
  | un => trivial
  | val d => exact q
  | own ds =>
    obtain ⟨p, vs, h1, h2, h3, h4, h5⟩ := q
    exact ⟨p, vs, h1, h2, h3, h4, e.none h5⟩
  | io ds =>
    obtain ⟨p, vs, h0, h1, h2, h3, h4, h5⟩ := q
    exact ⟨p, vs, h0, h1, h2, h3, h4, e.none h5⟩
  | scr ns => exact q
  | mdk k kvs =>
    obtain ⟨p, u, h1, h2, h3, h4, h5⟩ := q
    exact ⟨p, u, h1, h2, h3, h4, e.none h5⟩, s.dist⟩
/-- the kept list has grown -/
theorem StOk.repin {D : Addr} {o u : HO} (s : StOk K (upd P D o) F0 io F env σ H) (hF : F D = none) : StOk K (upd P D u) F0 io F env σ (upd H D u) := by
  have hm : ∀ j p, MutAt env σ j p → p ≠ D := fun j p m e => by
    have := (s.own m).2.2
    rw [e, upd_same] at this
    cases this
  refine ⟨fun a w e => ?_, s.f0, fun a w e => ?_, fun a w h1 h2 => ?_, s.len, fun i sl hi => ?_, s.dist⟩
  · by_cases ha : a = D
    · subst ha
      rw [upd_same] at e ⊢
      exact e
    · rw [upd_ne ha] at e ⊢
      exact s.pH a w (by rw [upd_ne ha]; exact e)
  · rw [upd_ne (fun z => by rw [z, hF] at e; cases e)]
    exact s.fH a w e
  · by_cases ha : a = D
    · exact ha ▸ hF
    · rw [upd_ne ha] at h1
      exact s.hid a w (by rw [upd_ne ha]; exact h1) h2
  · have q := s.sl i sl hi
    cases sl with
    | un => trivial
    | val d => exact q
    | own ds =>
      obtain ⟨p, vs, h1, h2, h3, h4, h5⟩ := q
      have ne := hm i p ⟨by rw [hi]; rfl, h1⟩
      refine ⟨p, vs, h1, by rw [upd_ne ne]; exact h2, h3, h4, ?_⟩
      rw [upd_ne ne] at h5 ⊢
      exact h5
    | io ds =>
      obtain ⟨p, vs, h0, h1, h2, h3, h4, h5⟩ := q
      have ne := hm i p ⟨by rw [hi]; rfl, h1⟩
      refine ⟨p, vs, h0, h1, by rw [upd_ne ne]; exact h2, h3, h4, ?_⟩
      rw [upd_ne ne] at h5 ⊢
      exact h5
    | scr ns => exact q
    | mdk k kvs =>
      obtain ⟨p, w, h1, h2, h3, h4, h5⟩ := q
      have ne := hm i p ⟨by rw [hi]; rfl, h1⟩
      refine ⟨p, w, h1, by rw [upd_ne ne]; exact h2, h3, h4, ?_⟩
      rw [upd_ne ne] at h5 ⊢
      exact h5
/-- an item to be bound: a value, or a tuple that is unpacked at once -/
def BdOk (K : PySem.W.Frag) (bt : Bool) (F : Hp) (x : V) (d : PyData) : Prop := Rp K F x d ∨ bt = true ∧ ∃ a vs ds, x = .ref a ∧ SqT K F a vs ∧ d = .tuple ds ∧ RpA K F vs ds
/-- an item of a walk -/
theorem StOk.item {bt : Bool} (s : StOk K P F0 io F env σ H) (h : ItemOk K bt F H x H' d) : ∃ F', StOk K P F0 io F' env σ H' ∧ Ext F F' ∧ BdOk K bt F' x d ∧ Ext H H' := by
  rcases h with ⟨rfl, h⟩ | ⟨hb, T, vs, ds, rfl, hT, rfl, rfl, r⟩
  · exact ⟨F, s, Ext.refl F, .inl h, Ext.refl _⟩
  · obtain ⟨s', e⟩ := s.allocF hT (.tup vs)
    exact ⟨_, s', e, .inr ⟨hb, T, vs, ds, rfl, SqT.of upd_same, rfl, r.mono0 e⟩, Ext.upd hT⟩

/-! ### slots forgotten -/
theorem wipe_get (σ : L2.St) : ∀ (own : List Nat) (i : Nat), (wipe σ own)[i]? = if i ∈ own then (if i < σ.length then some none else none) else σ[i]?
  | [], i => by simp [wipe]
  | v :: vs, i => by
    show ((wipe σ vs).set v none)[i]? = _
    by_cases h : v = i
    · subst h
      by_cases hl : v < σ.length
      · rw [List.getElem?_set_self (by rw [wipe_length]; exact hl)]
        simp [hl]
      · rw [List.getElem?_eq_none (by rw [List.length_set, wipe_length]; omega)]
        simp [hl]
    · rw [List.getElem?_set_ne h, wipe_get σ vs i]
      by_cases hm : i ∈ vs
      · simp [hm]
      · have h2 : ¬ i = v := fun e => h e.symm
        simp [hm, h2]
theorem wipe_set {σ : L2.St} {own : List Nat} {j : Nat} {w : Option V} (h : j ∈ own) : wipe (σ.set j w) own = wipe σ own := by
  apply List.ext_getElem?
  intro i
  rw [wipe_get, wipe_get, List.length_set]
  by_cases hi : i ∈ own
  · simp [hi]
  · rw [if_neg hi, if_neg hi, List.getElem?_set_ne (fun e => hi (by rw [← e]; exact h))]
theorem wipe_wipe (σ : L2.St) (own : List Nat) : wipe (wipe σ own) own = wipe σ own := by
  apply List.ext_getElem?
  intro i
  rw [wipe_get, wipe_length]
  by_cases hi : i ∈ own
  · rw [if_pos hi, wipe_get, if_pos hi]
  · rw [if_neg hi]
theorem wipeE_len (env : MP.Env) : ∀ own : List Nat, (wipeE env own).length = env.length
  | [] => rfl
  | v :: vs => by
    show ((wipeE env vs).set v .un).length = _
    rw [List.length_set, wipeE_len env vs]
theorem wipeE_get (env : MP.Env) : ∀ (own : List Nat) (i : Nat), (wipeE env own)[i]? = if i ∈ own then (if i < env.length then some .un else none) else env[i]?
  | [], i => by simp [wipeE]
  | v :: vs, i => by
    show ((wipeE env vs).set v .un)[i]? = _
    by_cases h : v = i
    · subst h
      by_cases hl : v < env.length
      · rw [List.getElem?_set_self (by rw [wipeE_len]; exact hl)]
        simp [hl]
      · rw [List.getElem?_eq_none (by rw [List.length_set, wipeE_len]; omega)]
        simp [hl]
    · rw [List.getElem?_set_ne h, wipeE_get env vs i]
      by_cases hm : i ∈ vs
      · simp [hm]
      · have h2 : ¬ i = v := fun e => h e.symm
        simp [hm, h2]
theorem StOk.wiped (s : StOk K P F0 io F env σ H) : ∀ own : List Nat, StOk K P F0 io F (wipeE env own) (wipe σ own) H
  | [] => s
  | v :: vs => (s.wiped vs).forget v none
theorem mergeE_len (env : MP.Env) {e3 : MP.Env} : ∀ own : List Nat, (mergeE env e3 own).length = e3.length
  | [] => rfl
  | v :: vs => by
    unfold mergeE
    split
    · rw [List.length_set, mergeE_len env vs]
    · exact mergeE_len env vs
theorem mergeE_get {env e3 : MP.Env} (hl : e3.length = env.length) : ∀ (own : List Nat) (i : Nat), (mergeE env e3 own)[i]? = if i ∈ own then env[i]? else e3[i]?
  | [], i => by simp [mergeE]
  | v :: vs, i => by
    have ih := mergeE_get hl vs i
    unfold mergeE
    split
    · rename_i s hs
      have hv : v < env.length := (List.getElem?_eq_some_iff.mp hs).1
      by_cases h : v = i
      · subst h
        rw [List.getElem?_set_self (by rw [mergeE_len]; omega)]
        simp [hs]
      · rw [List.getElem?_set_ne h, ih]
        have h2 : ¬ i = v := fun e => h e.symm
        simp [h2]
    · rename_i hn
      rw [ih]
      by_cases h : i = v
      · subst h
        have hv : env.length ≤ i := List.getElem?_eq_none_iff.mp hn
        have h3 : e3[i]? = none := List.getElem?_eq_none (by omega)
        simp [hn, h3]
      · simp [h]
/-- behind a comprehension's turn -/
theorem StOk.merged {e3 : MP.Env} {σ2 : L2.St} {H3 : Hp} {own : List Nat} (s : StOk K P F0 io F env σ H) (s3 : StOk K P F0 io F' e3 σ2 H3) (e : Ext F F') (hw : wipe σ2 own = wipe σ own) (hc : (own.all fun i => calmS env[i]?) = true) : StOk K P F0 io F' (mergeE env e3 own) σ H3 := by
  have hl : σ2.length = σ.length := by rw [← wipe_length σ2 own, hw, wipe_length]
  have hle : e3.length = env.length := by rw [← s3.len, ← s.len, hl]
  have hσ : ∀ i, i ∉ own → σ2[i]? = σ[i]? := fun i hi => by
    have := congrArg (fun l => l[i]?) hw
    simp only [wipe_get, if_neg hi] at this
    exact this
  have hm : ∀ {i p}, MutAt (mergeE env e3 own) σ i p → MutAt e3 σ2 i p := fun {i p} ⟨a, b⟩ => by
    rw [mergeE_get hle] at a
    by_cases hi : i ∈ own
    · rw [if_pos hi] at a
      have := List.all_eq_true.mp hc i hi
      exfalso
      cases q : env[i]? with
      | none => rw [q] at a; cases a
      | some sl =>
        rw [q] at a this
        cases sl <;> first | (cases this; done) | (cases a; done)
    · rw [if_neg hi] at a
      exact ⟨a, by rw [hσ i hi]; exact b⟩
  refine ⟨s3.pH, s3.f0, s3.fH, s3.hid, by rw [mergeE_len, hle]; exact s.len, fun i sl hi => ?_, fun i j p mi mj => s3.dist i j p (hm mi) (hm mj)⟩
  rw [mergeE_get hle] at hi
  by_cases ho : i ∈ own
  · rw [if_pos ho] at hi
    have c := List.all_eq_true.mp hc i ho
    rw [hi] at c
    have q := s.sl i sl hi
    cases sl with
    | un => trivial
    | val d =>
      obtain ⟨v, q1, q2⟩ := q
      exact ⟨v, q1, Rp.mono e _ _ q2⟩
    | own _ => cases c
    | io _ => cases c
    | scr _ => cases c
    | mdk _ _ => cases c
  · rw [if_neg ho] at hi
    have q := s3.sl i sl hi
    rw [hσ i ho] at q
    exact q
theorem calm_merge {e3 : MP.Env} {own : List Nat} (hl : e3.length = env.length) (hc : (own.all fun i => calmS env[i]?) = true) : (own.all fun i => calmS (mergeE env e3 own)[i]?) = true := by
  rw [List.all_eq_true] at hc ⊢
  intro i hi
  rw [mergeE_get hl, if_pos hi]
  exact hc i hi

/-! ### targets -/
theorem StOk.putVals : ∀ {js : List Nat} {vs : List V} {ds : List PyData} {env env' : MP.Env} {σ : L2.St}, StOk K P F0 io F env σ H → RpA K F vs ds → MP.putVals env js ds = some env' →
    ∀ {Q : L2.St → Hp → Prop}, (∀ σ', StOk K P F0 io F env' σ' H → (∀ own : List Nat, (∀ j ∈ js, j ∈ own) → wipe σ' own = wipe σ own) → Q σ' H) → (js.foldr (fun j r => gCons (gName j) r) gNil) vs σ H Q
  | [], vs, ds, env, env', σ, s, r, e, Q, k => by
    cases r with
    | nil =>
      simp only [MP.putVals] at e
      cases e
      exact ⟨rfl, k σ s fun _ _ => rfl⟩
    | cons a t => simp [MP.putVals] at e
  | j :: js, vs, ds, env, env', σ, s, r, e, Q, k => by
    cases r with
    | nil => simp [MP.putVals] at e
    | cons a t =>
      rename_i v vs d ds
      simp only [MP.putVals] at e
      split at e
      · refine ⟨v, vs, rfl, ?_⟩
        refine StOk.putVals (s.putVal j a) t e fun σ' s' w => k σ' s' fun own hown => ?_
        rw [w own fun i hi => hown i (List.mem_cons_of_mem _ hi)]
        exact wipe_set (hown j List.mem_cons_self)
      · cases e
def gTg (K : PySem.W.Frag) : Tg → TG
  | .name i => gName i
  | .tup js => gTup K js.length (js.foldr (fun j r => gCons (gName j) r) gNil)
/-- an item bound to its target -/
theorem StOk.bindTg {bt : Bool} {tg : Tg} {env' : MP.Env} (ht : bt = true → ∃ js, tg = .tup js) (s : StOk K P F0 io F env σ H) (r : BdOk K bt F x d) (e : MP.bindTg tg d env = some env') {Q : L2.St → Hp → Prop} (k : ∀ σ', StOk K P F0 io F env' σ' H → (∀ own : List Nat, (∀ j ∈ tgSl tg, j ∈ own) → wipe σ' own = wipe σ own) → Q σ' H) :
    gTg K tg x σ H Q := by
  cases tg with
  | name i =>
    simp only [MP.bindTg] at e
    split at e
    · cases e
      have r : Rp K F x d := by
        rcases r with r | ⟨hb, _⟩
        · exact r
        · obtain ⟨js, z⟩ := ht hb
          cases z
      exact k _ (s.putVal i r) fun own hown => wipe_set (hown i (by simp [tgSl]))
    · cases e
  | tup js =>
    simp only [MP.bindTg] at e
    cases d <;> first | cases e | skip
    rename_i ds
    simp only at e
    split at e
    · rename_i hl
      rcases r with r | ⟨_, a, vs, ds', rfl, r1, e1, r2⟩
      · cases r with
        | tup r1 r2 => exact ⟨_, _, rfl, ext_t s.fH r1.t, r2.length.trans hl, s.putVals r2 e k⟩
      · cases e1
        exact ⟨_, _, rfl, ext_t s.fH r1, r2.length.trans hl, s.putVals r2 e k⟩
    · cases e
end
/-- the names that may be stored -/
def LocOk (X : Cx) (sc : Scope) : Prop := ∀ x, (sc.names.lookup x = some .local ∨ sc.names.lookup x = some .cell) → Loc X.env.scope x ∧ (X.fn x = true ∨ X.env.scope.names.lookup x = some .local)
section
variable {X : Cx} {N : List Str} {sc : Scope}
theorem pg_nameOk (hN : X.N = N) (nd : N.Nodup) (lo : LocOk X sc) {i : Nat} {e : Expr} (h : tgName N sc i e = true) : PG X e (gName i) := by
  unfold tgName at h
  cases e <;> first | cases h | skip
  rename_i x pos
  simp only [Bool.and_eq_true, decide_eq_true_eq] at h
  obtain ⟨h1, h2⟩ := h
  have hx : sc.names.lookup x = some .local ∨ sc.names.lookup x = some .cell := by
    split at h2
    · exact .inl ‹_›
    · exact .inr ‹_›
    · cases h2
  obtain ⟨l1, l2⟩ := lo x hx
  exact pg_name (hN ▸ nd) (hN ▸ h1) l1 l2
theorem pgs_namesOk (hN : X.N = N) (nd : N.Nodup) (lo : LocOk X sc) : ∀ {js : List Nat} {es : List Expr}, tgNames N sc js es = true → PGs X es (js.foldr (fun j r => gCons (gName j) r) gNil) ∧ es.length = js.length
  | [], [], _ => ⟨pgs_nil, rfl⟩
  | j :: js, e :: es, h => by
    simp only [tgNames, Bool.and_eq_true] at h
    obtain ⟨a, b⟩ := pgs_namesOk hN nd lo h.2
    refine ⟨pgs_cons (pg_nameOk hN nd lo h.1) a ?_, by simp [b]⟩
    have h1 := h.1
    unfold tgName at h1
    cases e <;> first | cases h1 | rfl
  | [], _ :: _, h => by simp [tgNames] at h
  | _ :: _, [], h => by simp [tgNames] at h
theorem each_names {js : List Nat} : ∀ {js : List Nat} {es : List Expr}, tgNames N sc js es = true → ∀ env : PySem.Env, (assignEach es env).length = js.length ∧ (assignEach es env).findIdx? (·.1) = none
  | [], [], _, _ => ⟨rfl, rfl⟩
  | j :: js, e :: es, h, env => by
    simp only [tgNames, Bool.and_eq_true] at h
    obtain ⟨a, b⟩ := each_names (js := js) h.2 env
    have h1 := h.1
    unfold tgName at h1
    cases e <;> first | (cases h1; done) | skip
    rename_i x pos
    have q : assignEach (.Name x pos :: es) env = (false, assign (.Name x pos) env) :: assignEach es env := rfl
    rw [q]
    refine ⟨by simp [a], ?_⟩
    rw [List.findIdx?_cons]
    simp [b]
  | [], _ :: _, h, _ => by simp [tgNames] at h
  | _ :: _, [], h, _ => by simp [tgNames] at h
theorem pg_tgOk (hc : X.calm = true) (hN : X.N = N) (nd : N.Nodup) (lo : LocOk X sc) {tg : Tg} {e : Expr} (h : tgOk N sc tg e = true) : PG X e (gTg X.K tg) := by
  cases tg with
  | name i => exact pg_nameOk hN nd lo h
  | tup js =>
    cases e <;> first | (simp [tgOk] at h; done) | skip
    obtain ⟨a, b⟩ := pgs_namesOk hN nd lo h
    obtain ⟨c, d⟩ := each_names (js := []) h X.env
    exact pg_tup hc a c d
end
/-! ### comprehensions -/
section
variable {L : Wld} {N : List Str} {n : Nat} {cl : Cl} {sc : Scope} {W : WX0} {X : Cx}
/-- no exception leaves a comprehension's block -/
abbrev W0 : WX0 := fun _ _ => False
theorem XOk.blk (o : XOk L N n cl sc W X) (s : Shared) (H : Hp) (scope : Scope) (C : Addr) (cells : List (Str × Addr)) (fp : List Addr) : XOk L N n cl (relS scope sc) W0 (X.blk s H scope (compEnvC scope cells C X.env) fp) where
  hP := o.hP
  hw := o.hw
  hK := o.hK
  hmg := o.hmg
  hbase := o.hbase
  hN := o.hN
  nd := o.nd
  hsc := by
    show relS scope X.env.scope = relS scope sc
    rw [o.hsc]
  calm := o.calm
  room := o.room
  fns := o.fns
  gb := o.gb
  blt := o.blt
  tk := takes0.imp fun c d σ H h => by
    obtain ⟨_, _, _, z⟩ := h
    exact z
theorem loc_blk (scope : Scope) (s : Shared) (H : Hp) (C : Addr) (cells : List (Str × Addr)) (fp : List Addr) : LocOk (X.blk s H scope (compEnvC scope cells C X.env) fp) scope := fun x h => by
  have e : (compEnvC scope cells C X.env).scope = relS scope X.env.scope := rfl
  rcases h with h | h
  · have q : (relS scope X.env.scope).names.lookup x = some .local := lookup_relS_keep (by decide) h
    exact ⟨.inl q, .inr q⟩
  · have q : (relS scope X.env.scope).names.lookup x = some .cell := lookup_relS_keep (by decide) h
    refine ⟨.inr q, .inl ?_⟩
    show (scope.names.lookup x == some NameKind.cell) = true
    rw [h]
    rfl
/-- the turns -/
theorem comp_turns {K : PySem.W.Frag} {tst : MP.Env → R (Bool × MP.Env)} {elt : MP.Env → R (Val × MP.Env)} {own : List Nat} {tg : Tg} {bt : Bool} (hbt : bt = true → ∃ js, tg = .tup js) (hsub : ∀ j ∈ tgSl tg, j ∈ own) {its r : List PyData} {envE : MP.Env} {J : It} {P F0 F1 H1 : Hp} {io : Option Addr} {env1 : MP.Env} {σ : L2.St} {Q : VK}
    (s : StOk K P F0 io F1 env1 σ H1) (hcap : its.length ≤ cap) (hc : (own.all fun i => calmS env1[i]?) = true) (he : compL tst elt tg own its env1 = .ok (r, envE)) (y : Yields K bt J F1 its)
    (hQ : PostV W K P F0 io F1 σ Q (.ok (.fr r, envE))) (D : Addr) (hD : H1 D = none) :
    ∃ Wv : Nat → Nat → Hp → Prop, (∃ m, Wv 0 m (upd H1 D (.lst []))) ∧ ∀ i m H, Wv i m H → (J.stop i H ∧ Q (.ref D) H) ∨ (J.go i H ∧ ∃ Nx : Hp → Prop, (∀ H', Nx H' → ∃ m', m' < m ∧ Wv (i + 1) m' H') ∧
      ∀ x H', J.yld i H x H' → gTg K tg x (wipe σ own) H' fun σ2 H2 => wipe σ2 own = wipe σ own ∧ TTt W0 K tst σ2 H2 fun b H3 =>
        if b = true then TV W0 K elt σ2 H3 fun y H4 => ∃ acc, H4 D = some (.lst acc) ∧ acc.length < sizeLine ∧ Nx (upd H4 D (.lst (acc ++ [y]))) else Nx H3) := by
  obtain ⟨fD, pD, mD⟩ := s.fresh hD
  refine ⟨fun i m H => m = its.length - i ∧ i ≤ its.length ∧ ∃ F env acc dacc rest, StOk K (upd P D (.lst acc)) F0 io F env σ H ∧ Ext F1 F ∧ (own.all fun i => calmS env[i]?) = true ∧ F D = none ∧ RpA K F acc dacc ∧ acc.length ≤ i ∧
      compL tst elt tg own (its.drop i) env = .ok (rest, envE) ∧ dacc ++ rest = r, ⟨its.length, by simp, Nat.zero_le _, F1, env1, [], [], r, ?_, Ext.refl F1, hc, fD, .nil, Nat.zero_le _, by simpa using he, rfl⟩, ?_⟩
  · exact (s.alloc hD (.lst [])).pin upd_same fD mD
  rintro i m H ⟨rfl, hi, F, env, acc, dacc, rest, s1, x1, hc1, fD1, racc, hacc, he1, hr⟩
  by_cases hlt : i < its.length
  · refine .inr ⟨y.go i H (x1.trans s1.fH) hlt, fun H' => ∃ F env acc dacc rest, StOk K (upd P D (.lst acc)) F0 io F env σ H' ∧ Ext F1 F ∧ (own.all fun i => calmS env[i]?) = true ∧ F D = none ∧ RpA K F acc dacc ∧ acc.length ≤ i + 1 ∧
      compL tst elt tg own (its.drop (i + 1)) env = .ok (rest, envE) ∧ dacc ++ rest = r, fun H' h => ⟨its.length - (i + 1), by omega, rfl, hlt, h⟩, fun x H' hy => ?_⟩
    obtain ⟨d, hd, hit⟩ := (y.mono x1).yld i H x H' s1.fH hlt hy
    have hdrop : its.drop i = d :: its.drop (i + 1) := by
      obtain ⟨h1, h2⟩ := List.getElem?_eq_some_iff.mp hd
      rw [← h2]
      exact List.drop_eq_getElem_cons h1
    rw [hdrop] at he1
    simp only [compL] at he1
    obtain ⟨F2, s2, x2, rd, xH⟩ := s1.item hit
    have fD2 : F2 D = none := by
      rcases hit with ⟨rfl, _⟩ | _
      all_goals exact (by
        cases q : F2 D with
        | none => rfl
        | some o => exact absurd (s2.hid D (.lst acc) upd_same (Ext.none s.f0 fD)) (by rw [q]; simp))
    cases hb : bindTg tg d (wipeE env own) with
    | none => rw [hb] at he1; cases he1
    | some e1 =>
      rw [hb] at he1
      simp only [R.of_some, R.bind_ok] at he1
      refine (s2.wiped own).bindTg hbt rd hb fun σ2 s3 hw => ?_
      have hw2 : wipe σ2 own = wipe σ own := by rw [hw own hsub, wipe_wipe]
      refine ⟨hw2, upd P D (.lst acc), F0, io, F2, e1, s3, ?_⟩
      cases ht : tst e1 with
      | stuck => rw [ht] at he1; cases he1
      | exc c => rw [ht] at he1; cases he1
      | ok p =>
        obtain ⟨b, e2⟩ := p
        rw [ht] at he1
        simp only [R.bind_ok] at he1
        intro F3 H3 s4 x4
        have hl4 : e2.length = env.length := by
          rw [← s4.len, ← s1.len, ← wipe_length σ2 own, hw2, wipe_length]
        have fD3 : F3 D = none := by
          cases q : F3 D with
          | none => rfl
          | some o => exact absurd (s4.hid D (.lst acc) upd_same (Ext.none s.f0 fD)) (by rw [q]; simp)
        cases b with
        | false =>
          simp only [Bool.false_eq_true, if_false]
          exact ⟨F3, _, acc, dacc, rest, s1.merged s4 (x2.trans x4) hw2 hc1, (x1.trans x2).trans x4, calm_merge hl4 hc1, fD3, RpA.mono (x2.trans x4) _ _ racc, by omega, he1, hr⟩
        | true =>
          simp only [if_true]
          simp only at he1
          refine ⟨upd P D (.lst acc), F0, io, F3, e2, s4, ?_⟩
          cases hel : elt e2 with
          | stuck => rw [hel] at he1; cases he1
          | exc c => rw [hel] at he1; cases he1
          | ok q =>
            obtain ⟨v, e3⟩ := q
            rw [hel] at he1
            simp only [R.bind_ok] at he1
            intro z F4 H4 s5 x5 v5
            obtain ⟨F5, s6, x6, v6⟩ := v5.frz s5
            cases hz : v.frz with
            | fr _ => rw [hz] at he1; cases he1
            | fd _ _ => rw [hz] at he1; cases he1
            | pk _ => rw [hz] at he1; cases he1
            | fz dz =>
              rw [hz] at he1 v6
              simp only at he1
              have rz : Rp K F5 z dz := v6
              have hl6 : e3.length = env.length := by
                rw [← s6.len, ← s1.len, ← wipe_length σ2 own, hw2, wipe_length]
              cases hrest : compL tst elt tg own (its.drop (i + 1)) (mergeE env e3 own) with
              | stuck => rw [hrest] at he1; cases he1
              | exc c => rw [hrest] at he1; cases he1
              | ok w =>
                rw [hrest] at he1
                cases he1
                have fD5 : F5 D = none := by
                  cases q : F5 D with
                  | none => rfl
                  | some o => exact absurd (s6.hid D (.lst acc) upd_same (Ext.none s.f0 fD)) (by rw [q]; simp)
                have xx := (x2.trans x4).trans (x5.trans x6)
                have s7 := s1.merged s6 xx hw2 hc1
                refine ⟨acc, s6.pH D _ upd_same, line_lt (by omega), F5, _, acc ++ [z], dacc ++ [dz], w.1, s7.repin fD5, x1.trans xx, calm_merge hl6 hc1, fD5, (RpA.mono xx _ _ racc).append (.cons rz .nil), by rw [List.length_append]; simp; omega, ?_, by rw [List.append_assoc]; exact hr⟩
                rw [hrest]
  · have hie : i = its.length := by omega
    refine .inl ⟨y.stop i H (x1.trans s1.fH) hie, ?_⟩
    rw [hie, List.drop_length] at he1
    simp only [compL] at he1
    cases he1
    rw [List.append_nil] at hr
    subst hr
    have s8 : StOk K P F0 io F _ σ H := s1.weakP (Ext.upd pD)
    exact hQ _ F H s8 x1 ⟨D, acc, rfl, s1.pH D _ upd_same, racc, fD1, pD, fun j mj => by
      have := (s1.own mj).2.2
      rw [upd_same] at this
      cases this⟩
end
end MP

/-! Mini, part C6: the forms of terms. -/
set_option linter.all false
set_option Elab.async false
set_option maxRecDepth 100000
set_option maxHeartbeats 4000000
namespace MP
open PySem PySem.Spec PyProof.Rows L2
section
variable {L : Wld} {N : List Str} {n : Nat} {cl : Cl} {sc : Scope} {W : WX0} {X : Cx} {a b c : Expr} {pos : Pos} {f g h : MP.Env → R (Val × MP.Env)} {ta tb : MP.Env → R (Bool × MP.Env)} {as : MP.Env → R (List Val × MP.Env)}
theorem fin_c {σ : L2.St} {H : Hp} {Q : VK} {v : V} {d : PyData} (r : ∀ F : Hp, Rp L.K F v d) (q : TV W L.K (fun env => .ok (.fz d, env)) σ H Q) : tC v σ H Q := by
  obtain ⟨P, F0, io, F, env, s, q⟩ := q
  exact PostV.fz q s (r F)
theorem pe_cst {d : PyData} {cc : Const} {k : Nat} (hc : cstOk d cc = true) : PE X (.Constant cc k pos) (TV W L.K (fun env => .ok (.fz d, env))) := by
  cases d <;> cases cc <;> simp only [cstOk] at hc <;> first | (cases hc; done) | skip
  · exact PE.imp pe_non fun σ H Q q => fin_c (fun _ => .non) q
  · obtain rfl := eq_of_beq hc
    exact PE.imp pe_bl fun σ H Q q => fin_c (fun _ => .bl _) q
  · obtain rfl := eq_of_beq hc
    exact PE.imp pe_int fun σ H Q q => fin_c (fun _ => .int _) q
  · obtain rfl := eq_of_beq hc
    exact PE.imp pe_str fun σ H Q q => fin_c (fun _ => .str _) q
theorem pe_glb (o : XOk L N n cl sc W X) {gi : Nat} {x : Str} (h1 : L.T.gb[gi]? = some x) (h2 : globOk sc x = true) : PE X (.Name x pos) (TV W L.K (fun env => (R.of (L.gb gi)).bind fun d => .ok (.fz d, env))) := by
  obtain ⟨h3, h4, h5⟩ := o.gl h2
  cases e : L.gb gi with
  | none =>
    refine ⟨fun pins s σ H Q I q => ?_⟩
    obtain ⟨P, F0, io, F, env, s, q⟩ := q
    exact q.elim
  | some d =>
    obtain ⟨v, u, e1, e2, e3⟩ := o.gb gi x d h1 e
    exact PE.imp (pe_glob h3 (by rw [o.hmg]; exact e1) e2 h4) fun σ H Q q => fin_c e3 q
theorem pe_bin (o : XOk L N n cl sc W X) {op : BOp} (ha : PE X a (TV W L.K f)) (hb : PE X b (TV W L.K g)) : PE X (.BinOp a (opB op) b pos) (TV W L.K (ev2 f g (arith op))) := by
  obtain ⟨r, h1, h2⟩ := arith_ok (X := X) (W := W) op
  rw [o.hK] at h2
  exact PE.imp (pe_op h1 ha hb) (tv_op2 h2)
theorem pe_neg1 (ha : PE X a (TV W L.K f)) : PE X (.UnaryOp .USub a pos) (TV W L.K (ev1 f negD)) := by
  refine PE.imp (pe_un un_neg ha) (tv_op1 fun {P F0 F H io env σ x dx Q} s hx q => ?_)
  cases dx <;> first | exact q.elim | skip
  obtain rfl := hx.int
  exact ⟨_, rfl, PostV.fz q s (.int _)⟩
theorem mark_of {op : COp} {e : Expr} (h : ∀ x y z, e ≠ .Set x y z) : behindInMarks (opC op) e = false := by
  cases e <;> first | rfl | exact absurd rfl (h _ _ _)
theorem pe_cmpE (o : XOk L N n cl sc W X) {op : COp} (ha : PE X a (TV W L.K f)) (hb : PE X b (TV W L.K g)) (hm : ∀ x y z, b ≠ .Set x y z) : PE X (.Compare a [opC op] [b] pos) (TV W L.K (ev2 f g (cmpV op))) := by
  obtain ⟨r, h1, h2⟩ := cmp_ok (X := X) (W := W) o.room.units op
  rw [o.hK] at h2
  exact PE.imp (pe_cmpR h1 ha hb (mark_of hm)) (tv_op2 h2)
theorem pt_cmpE (o : XOk L N n cl sc W X) {op : COp} (ha : PE X a (TV W L.K f)) (hb : PE X b (TV W L.K g)) (hm : ∀ x y z, b ≠ .Set x y z) : PT X (.Compare a [opC op] [b] pos) (TTt W L.K (tstOf (ev2 f g (cmpV op)))) := by
  obtain ⟨r, h1, h2⟩ := cmp_ok (X := X) (W := W) o.room.units op
  rw [o.hK] at h2
  exact pt_cmp2 h1 h2 ha hb (mark_of hm)
/-- a comparison of two values: the answer is known -/
theorem OpSem.bool {K : PySem.W.Frag} {P F0 F H : Hp} {io : Option Addr} {env : MP.Env} {σ : L2.St} {r : R2} {op : COp} (hr : OpSem W K r (cmpV op)) {x y : V} {dx dy : PyData} {bb : Bool} {Q : VK} (s : StOk K P F0 io F env σ H) (hx : OpOk K F H x dx) (hy : OpOk K F H y dy) (e : cmpD op dx dy = .ok bb)
    (k : ∀ F1 H1, StOk K P F0 io F1 env σ H1 → Ext F F1 → Q (.bl bb) H1) : r x y H Q := by
  refine hr s hx hy ?_
  unfold cmpV
  rw [e]
  intro z F1 H1 s1 x1 v1
  have v1 : Rp K F1 z (.bool bb) := v1
  cases v1
  exact k F1 H1 s1 x1
theorem tv_chain {K : PySem.W.Frag} {o1 o2 : COp} {r r' : R2} (h1 : OpSem W K r (cmpV o1)) (h2 : OpSem W K r' (cmpV o2)) : ∀ σ H Q, TV W K (evChn f g h o1 o2) σ H Q → tChain r r' (TV W K f) (TV W K g) (TV W K h) σ H Q := by
  rintro σ H Q ⟨P, F0, io, F, env, s, q⟩
  refine TV.goF (prV W K P F0 io σ Q) s q fun v e1 _ x F1 H1 s1 x1 v1 q1 => ?_
  refine TV.goF (prV W K P F0 io σ Q) s1 q1 fun w e2 _ y F2 H2 s2 x2 v2 q2 => ?_
  obtain ⟨dx, l1, q3⟩ := PR.of q2
  obtain ⟨dy, l2, q4⟩ := PR.of q3
  obtain ⟨bb, e3, q5⟩ := PR.bind q4 (fun c => cmp_nx _ _ _ c)
  refine h1.bool s2 (VOk.look s2 (v1.mono x2) l1) (VOk.look s2 v2 l2) e3 fun F3 H3 s3 x3 => ⟨bb, rfl, ?_⟩
  cases bb with
  | false =>
    rw [if_neg Bool.false_ne_true]
    exact PostV.fz (W := W) (PostV.mono (W := W) x3 q5) s3 (.bl _)
  | true =>
    rw [if_pos rfl]
    refine TV.goF (prV W K P F0 io σ Q) s3 (PostV.mono (W := W) x3 q5) fun u e4 _ z F4 H4 s4 x4 v4 q6 => ?_
    obtain ⟨dy', l3, q7⟩ := PR.of q6
    obtain ⟨dz, l4, q8⟩ := PR.of q7
    obtain ⟨b2, e5, q9⟩ := PR.bind q8 (fun c => cmp_nx _ _ _ c)
    exact h2.bool s4 (VOk.look s4 ((v2.mono x3).mono x4) l3) (VOk.look s4 v4 l4) e5 fun F5 H5 s5 x5 => PostV.fz (W := W) (PostV.mono (W := W) x5 q9) s5 (.bl _)
theorem marks_of {p1 p2 : CmpOp} {e1 e2 : Expr} (h : ∀ x y z, e2 ≠ .Set x y z) : lastMarks [p1, p2] [e1, e2] = false := by
  cases e2 <;> first | (with_unfolding_all rfl) | exact absurd rfl (h _ _ _)
theorem pe_chnE (o : XOk L N n cl sc W X) {o1 o2 : COp} (ha : PE X a (TV W L.K f)) (hb : PE X b (TV W L.K g)) (hc : PE X c (TV W L.K h)) (hm : ∀ x y z, c ≠ .Set x y z) : PE X (.Compare a [opC o1, opC o2] [b, c] pos) (TV W L.K (evChn f g h o1 o2)) := by
  obtain ⟨r, h1, h2⟩ := cmp_ok (X := X) (W := W) o.room.units o1
  obtain ⟨r', h3, h4⟩ := cmp_ok (X := X) (W := W) o.room.units o2
  rw [o.hK] at h2 h4
  exact PE.imp (pe_chain h1 h3 ha hb hc (marks_of hm)) (tv_chain h2 h4)
theorem evChn_bool {o1 o2 : COp} {env : MP.Env} {v : Val} {e1 : MP.Env} (hv : evChn f g h o1 o2 env = .ok (v, e1)) : ∃ bb, v = .fz (.bool bb) := by
  unfold evChn at hv
  cases h1 : f env with
  | stuck => rw [h1] at hv; cases hv
  | exc c => rw [h1] at hv; cases hv
  | ok p =>
    rw [h1] at hv
    simp only [R.bind_ok] at hv
    cases h2 : g p.2 with
    | stuck => rw [h2] at hv; cases hv
    | exc c => rw [h2] at hv; cases hv
    | ok q =>
      rw [h2] at hv
      simp only [R.bind_ok] at hv
      cases h3 : p.1.frz.look q.2 with
      | none => rw [h3] at hv; cases hv
      | some x =>
        cases h4 : q.1.frz.look q.2 with
        | none => rw [h3, h4] at hv; cases hv
        | some y =>
          rw [h3, h4] at hv
          simp only [R.of_some, R.bind_ok] at hv
          cases h5 : cmpD o1 x y with
          | stuck => rw [h5] at hv; cases hv
          | exc c => rw [h5] at hv; cases hv
          | ok bb =>
            rw [h5] at hv
            cases bb with
            | false =>
              cases hv
              exact ⟨_, rfl⟩
            | true =>
              simp only [R.bind_ok] at hv
              cases h6 : h q.2 with
              | stuck => rw [h6] at hv; cases hv
              | exc c => rw [h6] at hv; cases hv
              | ok r =>
                rw [h6] at hv
                simp only [R.bind_ok] at hv
                cases h7 : q.1.frz.look r.2 with
                | none => rw [h7] at hv; cases hv
                | some y2 =>
                  cases h8 : r.1.frz.look r.2 with
                  | none => rw [h7, h8] at hv; cases hv
                  | some z =>
                    rw [h7, h8] at hv
                    simp only [R.of_some, R.bind_ok] at hv
                    cases h9 : cmpD o2 y2 z with
                    | stuck => rw [h9] at hv; cases hv
                    | exc c => rw [h9] at hv; cases hv
                    | ok w =>
                      rw [h9] at hv
                      cases hv
                      exact ⟨_, rfl⟩
theorem pt_chnE (o : XOk L N n cl sc W X) {o1 o2 : COp} (ha : PE X a (TV W L.K f)) (hb : PE X b (TV W L.K g)) (hc : PE X c (TV W L.K h)) (hm : ∀ x y z, c ≠ .Set x y z) : PT X (.Compare a [opC o1, opC o2] [b, c] pos) (TTt W L.K (tstOf (evChn f g h o1 o2))) := by
  obtain ⟨r, h1, h2⟩ := cmp_ok (X := X) (W := W) o.room.units o1
  obtain ⟨r', h3, h4⟩ := cmp_ok (X := X) (W := W) o.room.units o2
  rw [o.hK] at h2 h4
  refine PT.imp (pt_chain h1 h3 ha hb hc (marks_of hm)) ?_
  rintro σ H Q ⟨P, F0, io, F, env, s, q⟩
  refine tv_chain h2 h4 σ H _ ?_
  refine TV.goF (prT W L.K P F0 io σ Q) s q fun v e1 hv x F1 H1 s1 x1 v1 q1 => ?_
  obtain ⟨bb, rfl⟩ := evChn_bool hv
  have v1 : Rp L.K F1 x (.bool bb) := v1
  cases v1
  exact ⟨bb, rfl, q1 F1 H1 s1 (Ext.refl F1)⟩

/-! ### and, or, not, if else -/
theorem frz_go {K : PySem.W.Frag} {P F0 F H : Hp} {io : Option Addr} {env : MP.Env} {σ : L2.St} {Q : VK} {x : V} {w : Val} (s : StOk K P F0 io F env σ H) (v : ValOk K P F H env σ x w) (q : PostV W K P F0 io F σ Q (.ok (w.frz, env))) : Q x H := by
  obtain ⟨F', s', e, v'⟩ := v.frz s
  cases w with
  | fz d => exact q x F H s (Ext.refl F) v
  | pk i => exact q x F H s (Ext.refl F) v
  | fd k kvs => exact q x F H s (Ext.refl F) v
  | fr ds => exact q x F' H s' e v'

theorem pe_andE {x y : Expr} {rest : List Expr} (ha : PE X x (TV W L.K f)) (hb : PE X (.BoolOp .And (y :: rest) pos) (TV W L.K g)) : PE X (.BoolOp .And (x :: y :: rest) pos) (TV W L.K (evAndV f g)) := by
  refine PE.imp (pe_and ha hb) ?_
  rintro σ H Q ⟨P, F0, io, F, env, s, q⟩
  refine TV.go (prV W L.K P F0 io σ Q) s q fun v e1 he x F1 H1 s1 x1 v1 q1 => ?_
  cases v <;> first | exact q1.elim | skip
  rename_i d
  cases d <;> first | exact q1.elim | skip
  rename_i bb
  have v1 : Rp L.K F1 x (.bool bb) := v1
  cases v1
  refine ⟨bb, rfl, ?_⟩
  cases bb with
  | false =>
    rw [if_neg Bool.false_ne_true]
    exact PostV.fz (W := W) q1 s1 (.bl _)
  | true =>
    rw [if_pos rfl]
    exact TV.go (prV W L.K P F0 io σ Q) s1 q1 fun w e2 _ y F2 H2 s2 x2 v2 q2 => frz_go (W := W) s2 v2 q2
theorem pe_orE {x y : Expr} {rest : List Expr} (ha : PE X x (TV W L.K f)) (hb : PE X (.BoolOp .Or (y :: rest) pos) (TV W L.K g)) : PE X (.BoolOp .Or (x :: y :: rest) pos) (TV W L.K (evOrV f g)) := by
  refine PE.imp (pe_or ha hb) ?_
  rintro σ H Q ⟨P, F0, io, F, env, s, q⟩
  refine TV.go (prV W L.K P F0 io σ Q) s q fun v e1 he x F1 H1 s1 x1 v1 q1 => ?_
  cases v <;> first | exact q1.elim | skip
  rename_i d
  cases d <;> first | exact q1.elim | skip
  rename_i bb
  have v1 : Rp L.K F1 x (.bool bb) := v1
  cases v1
  refine ⟨bb, rfl, ?_⟩
  cases bb with
  | true =>
    rw [if_pos rfl]
    exact PostV.fz (W := W) q1 s1 (.bl _)
  | false =>
    rw [if_neg Bool.false_ne_true]
    exact TV.go (prV W L.K P F0 io σ Q) s1 q1 fun w e2 _ y F2 H2 s2 x2 v2 q2 => frz_go (W := W) s2 v2 q2
theorem pe_orTE (K : X.K = L.K) {x y : Expr} (ha : PE X x (TV W L.K f)) (hb : PE X y (TV W L.K g)) : PE X (.BoolOp .Or [x, y] pos) (TV W L.K (evOrT f g)) := by
  refine PE.imp (pe_orT ha (pe_one hb)) ?_
  rw [K]
  rintro σ H Q ⟨P, F0, io, F, env, s, q⟩
  refine TV.goF (prV W L.K P F0 io σ Q) s q fun v e1 _ x F1 H1 s1 x1 v1 q1 => ?_
  simp only [frz_frz] at q1
  cases hv : v.frz with
  | fr _ => rw [hv] at q1; exact q1.elim
  | fd _ _ => rw [hv] at q1; exact q1.elim
  | pk _ => rw [hv] at q1; exact q1.elim
  | fz d =>
    rw [hv] at q1 v1
    simp only at q1
    obtain ⟨t, ht, q2⟩ := PR.bind q1 (fun c z => by cases d <;> cases z)
    have v1 : Rp L.K F1 x d := v1
    refine ⟨t, truth_of s1.fH (.inl v1) ht, ?_⟩
    cases t with
    | true =>
      rw [if_pos rfl]
      exact PostV.fz (W := W) q2 s1 v1
    | false =>
      rw [if_neg Bool.false_ne_true]
      exact TV.go (prV W L.K P F0 io σ Q) s1 q2 fun w e2 _ y F2 H2 s2 x2 v2 q3 => frz_go (W := W) s2 v2 q3
theorem pt_andE {x y : Expr} {rest : List Expr} (ha : PT X x (TTt W L.K ta)) (hb : PW X (.BoolOp .And (y :: rest) pos) (TTt W L.K tb)) : PT X (.BoolOp .And (x :: y :: rest) pos) (TTt W L.K (tAndE ta tb)) := by
  refine PT.imp (pw_and ha hb).pt ?_
  rintro σ H Q ⟨P, F0, io, F, env, s, q⟩
  refine TTt.go (prT W L.K P F0 io σ Q) s q fun bb e1 _ F1 H1 s1 x1 q1 => ?_
  cases bb with
  | true =>
    rw [if_pos rfl]
    exact ⟨P, F0, io, F1, e1, s1, q1⟩
  | false =>
    rw [if_neg Bool.false_ne_true]
    exact q1 F1 H1 s1 (Ext.refl F1)
theorem pt_orE {x y : Expr} {rest : List Expr} (ha : PT X x (TTt W L.K ta)) (hb : PW X (.BoolOp .Or (y :: rest) pos) (TTt W L.K tb)) : PT X (.BoolOp .Or (x :: y :: rest) pos) (TTt W L.K (tOrE ta tb)) := by
  refine PT.imp (pw_or ha hb).pt ?_
  rintro σ H Q ⟨P, F0, io, F, env, s, q⟩
  refine TTt.go (prT W L.K P F0 io σ Q) s q fun bb e1 _ F1 H1 s1 x1 q1 => ?_
  cases bb with
  | true =>
    rw [if_pos rfl]
    exact q1 F1 H1 s1 (Ext.refl F1)
  | false =>
    rw [if_neg Bool.false_ne_true]
    exact ⟨P, F0, io, F1, e1, s1, q1⟩
theorem pw_bool {op : PySem.BoolOp} {vs : List Expr} {t : TT} (h : PT X (.BoolOp op vs pos) t) : PW X (.BoolOp op vs pos) t := ⟨fun whole pins s σ H Q I q => h.run pins s σ H Q I q⟩
theorem pt_notE {x : Expr} (ha : PT X x (TTt W L.K ta)) : PT X (.UnaryOp .Not x pos) (TTt W L.K (tNotE ta)) := by
  refine PT.imp (pt_not ha) ?_
  rintro σ H Q ⟨P, F0, io, F, env, s, q⟩
  exact TTt.go (prT W L.K P F0 io σ Q) s q fun bb e1 _ F1 H1 s1 x1 q1 => q1 F1 H1 s1 (Ext.refl F1)
theorem pe_iteE {x y z : Expr} (hc : PT X x (TTt W L.K ta)) (ha : PE X y (TV W L.K f)) (hb : PE X z (TV W L.K g)) : PE X (.IfExp x y z pos) (TV W L.K (evIte ta f g)) := by
  refine PE.imp (pe_ifExp hc ha hb) ?_
  rintro σ H Q ⟨P, F0, io, F, env, s, q⟩
  refine TTt.go (prV W L.K P F0 io σ Q) s q fun bb e1 _ F1 H1 s1 x1 q1 => ?_
  cases bb with
  | true =>
    rw [if_pos rfl]
    exact ⟨P, F0, io, F1, e1, s1, q1⟩
  | false =>
    rw [if_neg Bool.false_ne_true]
    exact ⟨P, F0, io, F1, e1, s1, q1⟩

/-! ### arguments, displays -/
theorem pa_nilE : PA X [] (TAa W L.K (fun env => .ok ([], env))) := by
  refine PA.imp pa_nil ?_
  rintro σ H Q ⟨P, F0, io, F, env, s, q⟩
  exact q [] F H s (Ext.refl F) trivial
theorem pa_consE {e : Expr} {es : List Expr} (ha : PE X e (TV W L.K f)) (hr : PA X es (TAa W L.K as)) (hs : ∀ x q, e ≠ .Starred x q) : PA X (e :: es) (TAa W L.K (evCons f as)) := by
  refine PA.imp (pa_cons ha hr (star_cons hs es X.env)) ?_
  rintro σ H Q ⟨P, F0, io, F, env, s, q⟩
  refine TV.goF (prA W L.K P F0 io σ Q) s q fun v e1 _ x F1 H1 s1 x1 v1 q1 => ?_
  refine TAa.go (prA W L.K P F0 io σ Q) s1 q1 fun vs e2 _ xs F2 H2 s2 x2 v2 q2 => ?_
  exact q2 (x :: xs) F2 H2 s2 (Ext.refl F2) ⟨v1.mono x2, v2⟩
theorem pe_tupE {es : List Expr} {k : Nat} (ha : PA X es (TAa W L.K as)) : PE X (.Tuple es k pos) (TV W L.K (evFz as kTup)) := by
  refine PE.imp (pe_tupN ha) ?_
  rintro σ H Q ⟨P, F0, io, F, env, s, q⟩
  refine TAa.go (prV W L.K P F0 io σ Q) s q fun vs e1 _ xs F1 H1 s1 x1 v1 q1 => ?_
  obtain ⟨ds, hd, q2⟩ := PR.of q1
  have r := VsOk.fz v1 hd
  have q2 : PostV W L.K P F0 io F1 σ Q (if ds.length ≤ cap then .ok (.fz (.tuple ds), e1) else .stuck) := q2
  by_cases hc : ds.length ≤ cap
  · rw [if_pos hc] at q2
    exact ⟨line_of (by rw [r.length]; exact hc), fun p o hp ho => PostV.tup q2 s1 r hp ho⟩
  · rw [if_neg hc] at q2
    exact q2.elim
theorem pe_lstE {es : List Expr} (ha : PA X es (TAa W L.K as)) : PE X (.List es pos) (TV W L.K (evFz as kLst)) := by
  refine PE.imp (pe_lst ha) ?_
  rintro σ H Q ⟨P, F0, io, F, env, s, q⟩
  refine TAa.go (prV W L.K P F0 io σ Q) s q fun vs e1 _ xs F1 H1 s1 x1 v1 q1 => ?_
  obtain ⟨ds, hd, q2⟩ := PR.of q1
  have r := VsOk.fz v1 hd
  have q2 : PostV W L.K P F0 io F1 σ Q (if ds.length ≤ cap then .ok (.fr ds, e1) else .stuck) := q2
  by_cases hc : ds.length ≤ cap
  · rw [if_pos hc] at q2
    exact ⟨line_of (by rw [r.length]; exact hc), fun p hp => PostV.lst q2 s1 r hp⟩
  · rw [if_neg hc] at q2
    exact q2.elim
theorem pe_idxE (o : XOk L N n cl sc W X) (ha : PE X a (TV W L.K f)) (hb : PE X b (TV W L.K g)) (hs : ∀ x y z p, b ≠ .Slice x y z p) : PE X (.Subscript a b pos) (TV W L.K (ev2 f g idxD)) := by
  obtain ⟨h1, h2⟩ := idx_ok (X := X) (W := W) (by have := o.room.units; omega)
  rw [o.hK] at h2
  refine PE.imp (pe_ix h1 ha hb fun x y => by cases b <;> first | rfl | exact absurd rfl (hs _ _ _ _)) ?_
  rw [o.hK]
  exact tv_op2 h2
theorem po_noneE : PO X none (TOo W L.K (fun env => .ok (none, env))) := by
  refine PO.imp po_none ?_
  rintro σ H Q ⟨P, F0, io, F, env, s, q⟩
  exact q F H s (Ext.refl F)
theorem po_someE (ha : PE X a (TV W L.K f)) : PO X (some a) (TOo W L.K (endOf f)) := by
  refine PO.imp (po_some ha) ?_
  rintro σ H Q ⟨P, F0, io, F, env, s, q⟩
  refine TV.go (prO W L.K P F0 io σ Q) s q fun v e1 he x F1 H1 s1 x1 v1 q1 => ?_
  cases v <;> first | exact q1.elim | skip
  rename_i d
  cases d <;> first | exact q1.elim | skip
  have v1 : Rp L.K F1 x (.int _) := v1
  cases v1
  exact ⟨_, rfl, q1 F1 H1 s1 (Ext.refl F1)⟩
theorem pe_slcE (o : XOk L N n cl sc W X) {lo hi : Option Expr} {fl fh : MP.Env → R (Option Int × MP.Env)} {p2 : Pos} (ha : PE X a (TV W L.K f)) (hl : PO X lo (TOo W L.K fl)) (hh : PO X hi (TOo W L.K fh)) : PE X (.Subscript a (.Slice lo hi none p2) pos) (TV W L.K (evSlc f fl fh)) := by
  obtain ⟨r, h1, h2⟩ := slc_ok (X := X) (W := W)
  rw [o.hK] at h2
  refine PE.imp (pe_slice h1 ha hl hh) ?_
  rintro σ H Q ⟨P, F0, io, F, env, s, q⟩
  refine TV.goF (prV W L.K P F0 io σ Q) s q fun v e1 _ x F1 H1 s1 x1 v1 q1 => ?_
  refine TOo.go (prV W L.K P F0 io σ Q) s1 q1 fun l e2 _ F2 H2 s2 x2 q2 => ?_
  refine TOo.go (prV W L.K P F0 io σ Q) s2 q2 fun u e3 _ F3 H3 s3 x3 q3 => ?_
  obtain ⟨dx, l1, q4⟩ := PR.of q3
  exact h2 s3 (VOk.look s3 ((v1.mono x2).mono x3) l1) q4
end
end MP

/-! Mini, part C7: calls. -/
set_option linter.all false
set_option Elab.async false
set_option maxRecDepth 100000
set_option maxHeartbeats 4000000
namespace MP
open PySem PySem.Spec PyProof.Rows L2
section
variable {L : Wld} {N : List Str} {n : Nat} {cl : Cl} {sc : Scope} {W : WX0} {X : Cx} {a b c : Expr} {pos : Pos} {f g h : MP.Env → R (Val × MP.Env)} {ta tb : MP.Env → R (Bool × MP.Env)} {as : MP.Env → R (List Val × MP.Env)}
theorem star_any {es : List Expr} (hs : ∀ e ∈ es, ∀ x q, e ≠ .Starred x q) (p : Pos) (env : PySem.Env) : (backTo p (starEach es env)).any (·.1) = false := by
  induction es with
  | nil => rfl
  | cons e es ih =>
    rw [star_cons (hs e (by simp)) es env]
    exact ih fun x hx => hs x (List.mem_cons_of_mem _ hx)
theorem passes_ok (o : XOk L N n cl sc W X) : Passes (L2.CX L.P L.w) X (XE0 L W) := by
  have q := passes_call (E := XE0 L W) o.tk fun _ _ _ _ h => h
  rw [o.hP, o.hw] at q
  exact q
/-- a def, as the layer's call wants it -/
theorem XOk.fn (o : XOk L N n cl sc W X) {fi : Nat} {x : Str} (hT : L.T.fn[fi]? = some x) : ∃ (ad : Addr) (fd : FuncData) (ps : List Str), X.mg x = some (.ref ad) ∧ PySem.W.keepIn X.K (.ref ad) = true ∧ Binds X.K fd ps [] ∧
    FnOk X.prog X.w X.K X.mg X.base (L2.CX L.P L.w) n ad fd ps (spF L.K L.xa ps.length (cl fi)) ∧ ∀ x0 ds, cl fi x0 ds ≠ .stuck → argc x0 ds = ps.length := by
  obtain ⟨ad, fd, ps, h1, h2, h3, h4, h5⟩ := o.fns fi x hT
  refine ⟨ad, fd, ps, by rw [o.hmg]; exact h1, by rw [o.hK]; exact h2, by rw [o.hK]; exact h3, ?_, h5⟩
  rw [o.hP, o.hw, o.hK, o.hmg, o.hbase]
  exact h4
theorem rv_val {K : PySem.W.Frag} {P F0 F F' H H' : Hp} {io io' : Option Addr} {env : MP.Env} {σ : L2.St} {x : V} {r : RV} (s : StOk K P F0 io F env σ H) (h : RvOk K (offIo io' H) F' H' io' x r) (hne : ∀ p, io' = some p → ∃ i, MutAt env σ i p) : ValOk K P F' H' env σ x r.val := by
  cases r with
  | fz d => exact h
  | fr ds =>
    obtain ⟨p, vs, h1, h2, h3, h4, h5, h6⟩ := h
    have hp : H p = none := by
      unfold offIo at h5
      rw [if_neg h6] at h5
      exact h5
    obtain ⟨_, a2, a3⟩ := s.fresh hp
    exact ⟨p, vs, h1, h2, h3, h4, a2, a3⟩
  | fd k kvs =>
    obtain ⟨p, u, h1, h2, h3, h4, h5, h6⟩ := h
    have hp : H p = none := by
      unfold offIo at h5
      rw [if_neg h6] at h5
      exact h5
    obtain ⟨_, a2, a3⟩ := s.fresh hp
    exact ⟨p, u, h1, h2, h3, h4, a2, a3⟩
theorem pe_callE (o : XOk L N n cl sc W X) {fi : Nat} {x : Str} {es : List Expr} {p : Pos} (hT : L.T.fn[fi]? = some x) (hg : globOk sc x = true) (ha : PA X es (TAa W L.K as)) (hne : es ≠ []) (hs : ∀ e ∈ es, ∀ y q, e ≠ .Starred y q) :
    PE X (.Call (.Name x p) es [] pos) (TV W L.K (evFz as (kCall cl fi))) := by
  obtain ⟨ad, fd, ps, hm, hk, hb, F1, hlen⟩ := o.fn hT
  obtain ⟨g1, g2, g3⟩ := o.gl hg
  match es, hne, ha, hs with
  | e :: es, _, ha, hs =>
  refine PE.imp (pe_call F1 o.room g1 hm hk hb .nil (passes_ok o) ha g2 (star_cons (hs e (by simp)) es X.env) (star_any (fun y hy => hs y (List.mem_cons_of_mem _ hy)) pos X.env)) ?_
  rintro σ H Q ⟨P, F0, io, F, env, s, q⟩
  refine TAa.go (prV W L.K P F0 io σ Q) s q fun vs e1 _ xs F1 H1 s1 x1 v1 q1 => ?_
  obtain ⟨ds, hd, q2⟩ := PR.of q1
  have r := VsOk.fz v1 hd
  have q2 : PostV W L.K P F0 io F1 σ Q ((cl fi .non ds).bind fun r => .ok (r.1.val, e1)) := q2
  rw [List.append_nil]
  refine ⟨?_, F1, none, .non, ds, s1.fH, ⟨rfl, r⟩, ?_⟩
  · rw [r.length]
    exact hlen .non ds fun z => by rw [z] at q2; exact q2
  · cases hc : cl fi .non ds with
    | stuck => rw [hc] at q2; exact q2.elim
    | exc c =>
      rw [hc] at q2
      intro H' e'
      rw [offIo_none] at e'
      exact ⟨c, rfl, rfl, q2 H' (s1.pH.trans e')⟩
    | ok w =>
      rw [hc] at q2
      intro z F2 H2 e2 e3 e4 e5 _ rv
      rw [offIo_none] at e2
      have s2 := s1.ext e2 e3 e4 e5
      exact q2 z F2 H2 s2 e3 (rv_val s1 rv fun p z => by cases z)
theorem opsRp {K : PySem.W.Frag} {F H : Hp} (e : Ext F H) : ∀ {xs : List V} {ds : List PyData}, OpsOk K F H xs ds → ds.all noDc = true → RpA K H xs ds
  | [], [], _, _ => .nil
  | _ :: _, _ :: _, ⟨a, b⟩, h => by
    rw [List.all_cons, Bool.and_eq_true] at h
    exact .cons (a.rp e fun kvs z => by rw [z] at h; cases h.1) (opsRp e b h.2)
  | [], _ :: _, h, _ => h.elim
  | _ :: _, [], h, _ => h.elim
theorem pe_callPkE (o : XOk L N n cl sc W X) {fi : Nat} {x : Str} {es : List Expr} {p : Pos} (hT : L.T.fn[fi]? = some x) (hg : globOk sc x = true) (ha : PA X es (TAa W L.K as)) (hne : es ≠ []) (hs : ∀ e ∈ es, ∀ y q, e ≠ .Starred y q) :
    PE X (.Call (.Name x p) es [] pos) (TV W L.K (evLk as (kCallPk cl fi))) := by
  obtain ⟨ad, fd, ps, hm, hk, hb, F1, hlen⟩ := o.fn hT
  obtain ⟨g1, g2, g3⟩ := o.gl hg
  match es, hne, ha, hs with
  | e :: es, _, ha, hs =>
  refine PE.imp (pe_call F1 o.room g1 hm hk hb .nil (passes_ok o) ha g2 (star_cons (hs e (by simp)) es X.env) (star_any (fun y hy => hs y (List.mem_cons_of_mem _ hy)) pos X.env)) ?_
  rintro σ H Q ⟨P, F0, io, F, env, s, q⟩
  refine TAa.go (prV W L.K P F0 io σ Q) s q fun vs e1 _ xs F1 H1 s1 x1 v1 q1 => ?_
  obtain ⟨ds, hd, q2⟩ := PR.of q1
  have q2 : PostV W L.K P F0 io F1 σ Q (if ds.all noDc then ((cl fi .non ds).bind fun r => (R.of (flatRV r.1)).bind fun d => .ok (.fz d, e1)) else .stuck) := q2
  by_cases hnd : ds.all noDc = true
  case neg =>
    rw [if_neg hnd] at q2
    exact q2.elim
  rw [if_pos hnd] at q2
  have r : RpA L.K H1 xs ds := opsRp s1.fH (VsOk.look s1 v1 hd) hnd
  rw [List.append_nil]
  refine ⟨?_, H1, none, .non, ds, Ext.refl H1, ⟨rfl, r⟩, ?_⟩
  · rw [r.length]
    exact hlen .non ds fun z => by rw [z] at q2; exact q2
  · cases hc : cl fi .non ds with
    | stuck => rw [hc] at q2; exact q2.elim
    | exc c =>
      rw [hc] at q2
      intro H' e'
      rw [offIo_none] at e'
      exact ⟨c, rfl, rfl, q2 H' (s1.pH.trans e')⟩
    | ok w =>
      rw [hc] at q2
      intro z F2 H2 e2 e3 e4 e5 _ rv
      rw [offIo_none] at e2
      obtain ⟨d, hfd, q3⟩ := PR.of (C := prV W L.K P F0 io σ Q) q2
      have s2 := s1.ext (F' := F1) e2 (Ext.refl F1) (s1.fH.trans e2) fun _ _ _ h => h
      refine q3 z F1 H2 s2 (Ext.refl F1) ?_
      obtain ⟨wr, wu⟩ := w
      cases wr with
      | fz d' =>
        simp only [flatRV] at hfd
        split at hfd
        · cases hfd
          rename_i hfl
          have rv : Rp L.K F2 z d := rv
          show Rp L.K F1 z d
          cases rv <;> first | exact .non | exact .bl _ | exact .int _ | exact .str _ | (simp [flatD] at hfl)
        · cases hfd
      | fr _ => cases hfd
      | fd _ _ => cases hfd
/-- the caller's list handed in -/
theorem StOk.ownAt {P F0 F H : Hp} {io : Option Addr} {env : MP.Env} {σ : L2.St} {i : Nat} {us : List PyData} (s : StOk L.K P F0 io F env σ H) (e : env[i]? = some (.own us) ∨ env[i]? = some (.io us)) :
    ∃ p ws, σ[i]? = some (some (.ref p)) ∧ H p = some (.lst ws) ∧ RpA L.K F ws us ∧ F p = none ∧ P p = none ∧ MutAt env σ i p := by
  rcases e with e | e
  · obtain ⟨p, ws, h1, h2, h3, h4, h5⟩ := s.sl i _ e
    exact ⟨p, ws, h1, h2, h3, h4, h5, by rw [MutAt, e]; exact ⟨rfl, h1⟩⟩
  · obtain ⟨p, ws, _, h1, h2, h3, h4, h5⟩ := s.sl i _ e
    exact ⟨p, ws, h1, h2, h3, h4, h5, by rw [MutAt, e]; exact ⟨rfl, h1⟩⟩
/-- the list at a slot has changed -/
theorem StOk.changed {P F0 F F' H H' : Hp} {io : Option Addr} {env : MP.Env} {σ : L2.St} {i : Nat} {p : Addr} {ws : List V} {us us' : List PyData} {sl : Slot} (s : StOk L.K P F0 io F env σ H) (e : (env[i]? = some (.own us) ∧ sl = .own us') ∨ (env[i]? = some (.io us) ∧ sl = .io us'))
    (hp : σ[i]? = some (some (.ref p))) (hH : Ext (offIo (some p) H) H') (hF : Ext F F') (hFH : Ext F' H') (hn : ∀ q o, H q = some o → F q = none → F' q = none) (h1 : H' p = some (.lst ws)) (h2 : RpA L.K F' ws us') (h3 : F' p = none) : StOk L.K P F0 io F' (env.set i sl) σ H' := by
  have own : isOwn env[i]? = true ∧ isOwn (some sl) = true := by
    rcases e with ⟨e1, e2⟩ | ⟨e1, e2⟩ <;> (rw [e1, e2]; exact ⟨rfl, rfl⟩)
  have m : MutAt env σ i p := ⟨own.1, hp⟩
  obtain ⟨⟨_, _⟩, _, pP⟩ := s.own m
  have hi : i < env.length := by
    cases q : env[i]? with
    | none => rw [q] at own; cases own.1
    | some _ => exact (List.getElem?_eq_some_iff.mp q).1
  have keep : ∀ q o, H q = some o → q ≠ p → H' q = some o := fun q o h hq => hH q o (offIo_of h fun z => hq (Option.some.inj z).symm)
  have mm : ∀ {j q}, MutAt (env.set i sl) σ j q → MutAt env σ j q := fun {j q} ⟨a, b⟩ => by
    by_cases hj : j = i
    · subst hj
      exact ⟨own.1, b⟩
    · rw [List.getElem?_set_ne (Ne.symm hj)] at a
      exact ⟨a, b⟩
  refine ⟨fun a o h => keep a o (s.pH a o h) (fun z => by rw [z, pP] at h; cases h), s.f0.trans hF, hFH, fun q o h1 h2 => hn q o (s.pH q o h1) (s.hid q o h1 h2), by rw [List.length_set]; exact s.len, fun j sj hj => ?_, fun j k q mj mk => s.dist j k q (mm mj) (mm mk)⟩
  by_cases hji : j = i
  · subst hji
    rw [List.getElem?_set_self hi] at hj
    cases hj
    rcases e with ⟨e1, rfl⟩ | ⟨e1, rfl⟩
    · exact ⟨p, ws, hp, h1, h2, h3, pP⟩
    · obtain ⟨p', _, z0, z1, _⟩ := s.sl _ _ e1
      rw [hp] at z1
      cases z1
      exact ⟨p, ws, z0, hp, h1, h2, h3, pP⟩
  · rw [List.getElem?_set_ne (Ne.symm hji)] at hj
    have q := s.sl j sj hj
    cases sj with
    | un => trivial
    | val d =>
      obtain ⟨v, q1, q2⟩ := q
      exact ⟨v, q1, Rp.mono hF _ _ q2⟩
    | own ds =>
      obtain ⟨p', vs, q1, q2, q3, q4, q5⟩ := q
      have ne : p' ≠ p := fun z => hji (s.dist j i p ⟨by rw [hj]; rfl, z ▸ q1⟩ m)
      exact ⟨p', vs, q1, keep _ _ q2 ne, RpA.mono hF _ _ q3, hn _ _ q2 q4, q5⟩
    | io ds =>
      obtain ⟨p', vs, q0, q1, q2, q3, q4, q5⟩ := q
      have ne : p' ≠ p := fun z => hji (s.dist j i p ⟨by rw [hj]; rfl, z ▸ q1⟩ m)
      exact ⟨p', vs, q0, q1, keep _ _ q2 ne, RpA.mono hF _ _ q3, hn _ _ q2 q4, q5⟩
    | scr ns =>
      obtain ⟨a, q1, q2⟩ := q
      exact ⟨a, q1, ext_l hF q2⟩
    | mdk k kvs =>
      obtain ⟨p', u, q1, q2, q3, q4, q5⟩ := q
      have ne : p' ≠ p := fun z => hji (s.dist j i p ⟨by rw [hj]; rfl, z ▸ q1⟩ m)
      exact ⟨p', u, q1, keep _ _ q2 ne, q3.mono hF, hn _ _ q2 q4, q5⟩
theorem pe_callIoE (o : XOk L N n cl sc W X) {fi i : Nat} {x y : Str} {es : List Expr} {p py : Pos} (hT : L.T.fn[fi]? = some x) (hg : globOk sc x = true) (hy : nameOk N sc i y = true) (ha : PA X es (TAa W L.K as)) (hs : ∀ e ∈ es, ∀ y q, e ≠ .Starred y q) :
    PE X (.Call (.Name x p) (.Name y py :: es) [] pos) (TV W L.K (evOwn i (evFz as (kCallIo cl fi i)))) := by
  obtain ⟨ad, fd, ps, hm, hk, hb, F1, hlen⟩ := o.fn hT
  obtain ⟨g1, g2, g3⟩ := o.gl hg
  obtain ⟨n1, n2, n3, n4⟩ := o.vis hy
  have hn : ∀ (z : Expr) q, Expr.Name y py ≠ .Starred z q := fun _ _ z => by cases z
  refine PE.imp (pe_call F1 o.room g1 hm hk hb .nil (passes_ok o) (pa_cons (pe_var n1 n2 n3 n4) ha (star_cons hn es X.env)) g2 (star_cons hn es X.env) (star_any hs pos X.env)) ?_
  rintro σ H Q ⟨P, F0, io, F, env, s, q⟩
  obtain ⟨us0, hu0, q⟩ : ∃ us0, (env[i]? = some (.own us0) ∨ env[i]? = some (.io us0)) ∧ PostV W L.K P F0 io F σ Q (evFz as (kCallIo cl fi i) env) := by
    unfold evOwn at q
    cases e : env[i]? with
    | none => rw [e] at q; exact q.elim
    | some sl =>
      rw [e] at q
      cases sl <;> first | exact q.elim | exact ⟨_, .inl rfl, q⟩ | exact ⟨_, .inr rfl, q⟩
  obtain ⟨p, _, hp, _⟩ := s.ownAt hu0
  refine ⟨_, hp, ?_⟩
  refine TAa.go (prV W L.K P F0 io σ Q) s q fun vs e1 _ xs F1 H1 s1 x1 v1 q1 => ?_
  obtain ⟨ds, hd, q2⟩ := PR.of q1
  have r := VsOk.fz v1 hd
  have q2 : PostV W L.K P F0 io F1 σ Q (kCallIo cl fi i ds e1) := q2
  unfold kCallIo at q2
  -- the slot as it is now
  obtain ⟨us, sl, hsl, hu, q3⟩ : ∃ us, ∃ sl : List PyData → Slot, ((e1[i]? = some (.own us) ∧ sl = Slot.own) ∨ (e1[i]? = some (.io us) ∧ sl = Slot.io)) ∧ (e1[i]? = some (.own us) ∨ e1[i]? = some (.io us)) ∧
      PostV W L.K P F0 io F1 σ Q ((cl fi (.io us) ds).bind fun r => .ok (r.1.val, e1.set i (sl r.2))) := by
    cases e : e1[i]? with
    | none => rw [e] at q2; exact q2.elim
    | some sl =>
      rw [e] at q2
      cases sl <;> first | exact q2.elim | exact ⟨_, .own, .inl ⟨rfl, rfl⟩, .inl rfl, q2⟩ | exact ⟨_, .io, .inr ⟨rfl, rfl⟩, .inr rfl, q2⟩
  obtain ⟨p', ws, hp', h1, h2, h3, h4, m⟩ := s1.ownAt hu
  rw [hp] at hp'
  cases hp'
  rw [List.append_nil]
  refine ⟨?_, F1, some p, .io us, ds, s1.fH, ⟨p, xs, rfl, rfl, ⟨ws, h1, h2, h3⟩, r⟩, ?_⟩
  · rw [List.length_cons, r.length]
    exact hlen (.io us) ds fun z => by rw [z] at q3; exact q3
  · have extP : ∀ {H'}, Ext (offIo (some p) H1) H' → Ext P H' := fun {H'} e' a u h => e' a u (offIo_of (s1.pH a u h) fun z => by rw [← Option.some.inj z, h4] at h; cases h)
    cases hc : cl fi (.io us) ds with
    | stuck => rw [hc] at q3; exact q3.elim
    | exc c =>
      rw [hc] at q3
      exact fun H' e' => ⟨c, rfl, rfl, q3 H' (extP e')⟩
    | ok w =>
      rw [hc] at q3
      intro z F2 H2 e2 e3 e4 e5 ⟨ws', k1, k2, k3⟩ rv
      have s2 : StOk L.K P F0 io F2 (e1.set i (sl w.2)) σ H2 := s1.changed (us := us) (us' := w.2) (by
        rcases hsl with ⟨a1, a2⟩ | ⟨a1, a2⟩
        · exact .inl ⟨a1, by rw [a2]⟩
        · exact .inr ⟨a1, by rw [a2]⟩) hp e2 e3 e4 e5 k1 k2 k3
      refine q3 z F2 H2 s2 e3 ?_
      have v3 := rv_val (H' := H2) s1 rv fun p'' z => ⟨i, by cases z; exact m⟩
      cases hr : w.1 with
      | fz d => rw [hr] at v3; exact v3
      | fr dd =>
        rw [hr] at v3 rv
        obtain ⟨b, vs', b1, b2, b3, b4, b5, b6⟩ := v3
        refine ⟨b, vs', b1, b2, b3, b4, b5, fun j mj => b6 j ?_⟩
        obtain ⟨a1, a2⟩ := mj
        by_cases hj : j = i
        · subst hj
          exact ⟨m.1, a2⟩
        · rw [List.getElem?_set_ne (Ne.symm hj)] at a1
          exact ⟨a1, a2⟩
      | fd dk dd =>
        rw [hr] at v3 rv
        obtain ⟨b, u, b1, b2, b3, b4, b5, b6⟩ := v3
        refine ⟨b, u, b1, b2, b3, b4, b5, fun j mj => b6 j ?_⟩
        obtain ⟨a1, a2⟩ := mj
        by_cases hj : j = i
        · subst hj
          exact ⟨m.1, a2⟩
        · rw [List.getElem?_set_ne (Ne.symm hj)] at a1
          exact ⟨a1, a2⟩
/-- the script handed on -/
theorem pe_callScrE (o : XOk L N n cl sc W X) {fi i : Nat} {x y : Str} {es : List Expr} {p py : Pos} (hT : L.T.fn[fi]? = some x) (hg : globOk sc x = true) (hy : nameOk N sc i y = true) (ha : PA X es (TAa W L.K as)) (hs : ∀ e ∈ es, ∀ y q, e ≠ .Starred y q) :
    PE X (.Call (.Name x p) (.Name y py :: es) [] pos) (TV W L.K (evScr i (evFz as (kCallScr cl fi i)))) := by
  obtain ⟨ad, fd, ps, hm, hk, hb, F1, hlen⟩ := o.fn hT
  obtain ⟨g1, g2, g3⟩ := o.gl hg
  obtain ⟨n1, n2, n3, n4⟩ := o.vis hy
  have hn : ∀ (z : Expr) q, Expr.Name y py ≠ .Starred z q := fun _ _ z => by cases z
  refine PE.imp (pe_call F1 o.room g1 hm hk hb .nil (passes_ok o) (pa_cons (pe_var n1 n2 n3 n4) ha (star_cons hn es X.env)) g2 (star_cons hn es X.env) (star_any hs pos X.env)) ?_
  rintro σ H Q ⟨P, F0, io, F, env, s, q⟩
  unfold evScr at q
  cases e : env[i]? with
  | none => rw [e] at q; exact q.elim
  | some sl =>
  rw [e] at q
  cases sl <;> first | exact q.elim | skip
  obtain ⟨p0, hp, _⟩ := s.sl i _ e
  refine ⟨_, hp, ?_⟩
  refine TAa.go (prV W L.K P F0 io σ Q) s q fun vs e1 _ xs F1 H1 s1 x1 v1 q1 => ?_
  obtain ⟨ds, hd, q2⟩ := PR.of q1
  have r := VsOk.fz v1 hd
  have q2 : PostV W L.K P F0 io F1 σ Q (kCallScr cl fi i ds e1) := q2
  unfold kCallScr at q2
  cases e2 : e1[i]? with
  | none => rw [e2] at q2; exact q2.elim
  | some sl =>
  rw [e2] at q2
  cases sl <;> first | exact q2.elim | skip
  rename_i ns
  obtain ⟨p1, hp1, hq1⟩ := s1.sl i _ e2
  rw [hp] at hp1
  cases hp1
  rw [List.append_nil]
  refine ⟨?_, F1, none, .scr ns, ds, s1.fH, ⟨p0, xs, rfl, rfl, hq1, r⟩, ?_⟩
  · rw [List.length_cons, r.length]
    exact hlen (.scr ns) ds fun z => by simp only [z] at q2; exact q2
  · cases hc : cl fi (.scr ns) ds with
    | stuck => simp only [hc] at q2; exact q2.elim
    | exc c =>
      simp only [hc] at q2
      intro H' e'
      rw [offIo_none] at e'
      exact ⟨c, rfl, rfl, q2 H' (s1.pH.trans e')⟩
    | ok w =>
      simp only [hc] at q2
      intro z F2 H2 e2 e3 e4 e5 _ rv
      rw [offIo_none] at e2
      exact q2 z F2 H2 (s1.ext e2 e3 e4 e5) e3 (rv_val s1 rv fun p z => by cases z)
theorem pe_lenScrE (o : XOk L N n cl sc W X) {i : Nat} {y : Str} {p py : Pos} (hg : globOk sc "len" = true) (hy : nameOk N sc i y = true) : PE X (.Call (.Name "len" p) [.Name y py] [] pos) (TV W L.K (evLenScr i)) := by
  obtain ⟨g1, g2, g3⟩ := o.gl hg
  obtain ⟨n1, n2, n3, n4⟩ := o.vis hy
  refine PE.imp (pe_callB call_len_seq g1 (o.bl (by decide +kernel)) PySem.boot_len (pa_cons (pe_var n1 n2 n3 n4) pa_nil) g3 g2) ?_
  rintro σ H Q ⟨P, F0, io, F, env, s, q⟩
  unfold evLenScr at q
  cases e : env[i]? with
  | none => rw [e] at q; exact q.elim
  | some sl =>
  rw [e] at q
  cases sl <;> first | exact q.elim | skip
  rename_i ns
  obtain ⟨p0, hp, hq⟩ := s.sl i _ e
  refine ⟨_, hp, p0, ns.map V.int, rfl, .inl (by rw [o.hK]; exact ext_l s.fH hq), ?_⟩
  rw [List.length_map]
  exact PostV.fz q s (.int _)
theorem atD_map {ns : List Int} {k : Int} {m : Int} (e : atD ns k = some m) : atI (ns.map V.int) k = some (.int m) := by
  unfold atD at e
  unfold atI
  rw [ixOf_eq] at e
  rw [List.length_map]
  cases q : ixN ns.length k with
  | none => rw [q] at e; cases e
  | some j =>
    rw [q] at e
    have e : ns[j]? = some m := e
    show (ns.map V.int)[j]? = some (.int m)
    rw [List.getElem?_map, e]
    rfl
theorem pe_idxScrE (o : XOk L N n cl sc W X) {i : Nat} {y : Str} {py : Pos} (hy : nameOk N sc i y = true) (ha : PE X a (TV W L.K f)) (hs : ∀ x y z p, a ≠ .Slice x y z p) : PE X (.Subscript (.Name y py) a pos) (TV W L.K (evScr i (evIdxScr i f))) := by
  obtain ⟨n1, n2, n3, n4⟩ := o.vis hy
  refine PE.imp (pe_ix ix_list (pe_var n1 n2 n3 n4) ha fun x y => by cases a <;> first | rfl | exact absurd rfl (hs _ _ _ _)) ?_
  rintro σ H Q ⟨P, F0, io, F, env, s, q⟩
  unfold evScr at q
  cases e : env[i]? with
  | none => rw [e] at q; exact q.elim
  | some sl =>
  rw [e] at q
  cases sl <;> first | exact q.elim | skip
  obtain ⟨p0, hp, _⟩ := s.sl i _ e
  refine ⟨_, hp, ?_⟩
  refine TV.go (prV W L.K P F0 io σ Q) s q fun v e1 he x F1 H1 s1 x1 v1 q1 => ?_
  cases v <;> first | exact q1.elim | skip
  rename_i d
  cases d <;> first | exact q1.elim | skip
  rename_i k
  have v1 : Rp L.K F1 x (.int k) := v1
  cases v1
  cases e2 : e1[i]? with
  | none => simp only [e2] at q1; exact q1.elim
  | some sl =>
  simp only [e2] at q1
  cases sl <;> first | exact q1.elim | skip
  rename_i ns
  obtain ⟨p1, hp1, hq1⟩ := s1.sl i _ e2
  rw [hp] at hp1
  cases hp1
  obtain ⟨m, hm, q2⟩ := PR.of (C := prV W L.K P F0 io σ Q) q1
  refine ⟨p0, ns.map V.int, k, .int m, rfl, rfl, by rw [o.hK]; exact ext_l s1.fH hq1, atD_map hm, ?_⟩
  exact PostV.fz (W := W) q2 s1 (.int _)
end
end MP

/-! Mini, part C8: built-in functions; every term has its reading. -/
set_option linter.all false
set_option Elab.async false
set_option maxRecDepth 100000
set_option maxHeartbeats 4000000
namespace MP
open PySem PySem.Spec PyProof.Rows L2
def BiSem (W : WX0) (K : PySem.W.Frag) (r : List V → Hp → VK → Prop) (op : List PyData → R Val) : Prop :=
  ∀ {P F0 F H : Hp} {io : Option Addr} {env : MP.Env} {σ : L2.St} {xs : List V} {ds : List PyData} {Q : VK}, StOk K P F0 io F env σ H → OpsOk K F H xs ds → PostV W K P F0 io F σ Q ((op ds).bind fun v => .ok (v, env)) → r xs H Q
theorem leastI_mem : ∀ {ns : List Int} {m : Int}, leastI ns = some m → m ∈ ns ∧ ∀ y ∈ ns, m ≤ y
  | [], _, h => by cases h
  | x :: xs, m, h => by
    unfold leastI at h
    cases e : leastI xs with
    | none =>
      rw [e] at h
      cases h
      cases xs with
      | nil => simp
      | cons y ys =>
        unfold leastI at e
        split at e <;> cases e
    | some k =>
      rw [e] at h
      obtain ⟨h1, h2⟩ := leastI_mem e
      have h : m = if k < x then k else x := (Option.some.inj h).symm
      subst h
      split
      · rename_i hk
        refine ⟨List.mem_cons_of_mem _ h1, fun y hy => ?_⟩
        rcases List.mem_cons.mp hy with rfl | hy
        · omega
        · exact h2 y hy
      · rename_i hk
        refine ⟨List.mem_cons_self, fun y hy => ?_⟩
        rcases List.mem_cons.mp hy with rfl | hy
        · omega
        · have := h2 y hy
          omega
theorem insI_perm (x : Int) : ∀ l : List Int, (insI x l).Perm (x :: l)
  | [] => List.Perm.refl _
  | y :: ys => by
    unfold insI
    split
    · exact List.Perm.refl _
    · exact ((insI_perm x ys).cons y).trans (List.Perm.swap x y ys)
theorem sortI_perm : ∀ l : List Int, (sortI l).Perm l
  | [] => List.Perm.refl _
  | x :: xs => (insI_perm x _).trans ((sortI_perm xs).cons x)
theorem insI_sorted (x : Int) : ∀ {l : List Int}, l.Pairwise (· ≤ ·) → (insI x l).Pairwise (· ≤ ·)
  | [], _ => by simp [insI]
  | y :: ys, h => by
    unfold insI
    rw [List.pairwise_cons] at h
    split
    · rename_i hxy
      rw [List.pairwise_cons]
      refine ⟨fun z hz => ?_, List.pairwise_cons.mpr h⟩
      rcases List.mem_cons.mp hz with rfl | hz
      · exact hxy
      · exact Int.le_trans hxy (h.1 z hz)
    · rename_i hxy
      rw [List.pairwise_cons]
      refine ⟨fun z hz => ?_, insI_sorted x h.2⟩
      rcases List.mem_cons.mp ((insI_perm x ys).mem_iff.mp hz) with rfl | hz
      · omega
      · exact h.1 z hz
theorem sortI_sorted : ∀ l : List Int, (sortI l).Pairwise (· ≤ ·)
  | [] => List.Pairwise.nil
  | x :: xs => insI_sorted x (sortI_sorted xs)
theorem sorted_one : ∀ {a b : List Int}, a.Perm b → a.Pairwise (· ≤ ·) → b.Pairwise (· ≤ ·) → a = b
  | [], b, p, _, _ => (List.Perm.nil_eq p)
  | x :: xs, b, p, ha, hb => by
    cases b with
    | nil => exact absurd p.length_eq (by simp)
    | cons y ys =>
      rw [List.pairwise_cons] at ha hb
      have e : x = y := by
        have h1 : x ∈ y :: ys := p.mem_iff.mp List.mem_cons_self
        have h2 : y ∈ x :: xs := p.symm.mem_iff.mp List.mem_cons_self
        rcases List.mem_cons.mp h1 with h1 | h1
        · exact h1
        · rcases List.mem_cons.mp h2 with h2 | h2
          · exact h2.symm
          · have a1 := hb.1 x h1
            have a2 := ha.1 y h2
            omega
      subst e
      rw [sorted_one (List.perm_cons x |>.mp p) ha.2 hb.2]
section
variable {X : Cx} {W : WX0}
theorem OpsOk.one {K : PySem.W.Frag} {F H : Hp} {xs : List V} {d : PyData} (h : OpsOk K F H xs [d]) : ∃ x, xs = [x] ∧ OpOk K F H x d := by
  match xs, h with
  | [x], ⟨h, _⟩ => exact ⟨x, rfl, h⟩
theorem OpsOk.two {K : PySem.W.Frag} {F H : Hp} {xs : List V} {d d' : PyData} (h : OpsOk K F H xs [d, d']) : ∃ x y, xs = [x, y] ∧ OpOk K F H x d ∧ OpOk K F H y d' := by
  match xs, h with
  | [x, y], ⟨h, h', _⟩ => exact ⟨x, y, rfl, h, h'⟩
theorem OpOk.ints {K : PySem.W.Frag} {F H : Hp} {x : V} {ds : List PyData} {ns : List Int} (e : Ext F H) (h : OpOk K F H x (.list ds)) (hn : allI ds = some ns) : ∃ p, x = .ref p ∧ SqL K H p (ns.map V.int) := by
  obtain ⟨p, vs, rfl, h1, h2⟩ := h.list e
  rw [allI_eq hn] at h2
  rw [h2.ints] at h1
  exact ⟨p, rfl, SqL.of h1⟩
theorem OpOk.bools {K : PySem.W.Frag} {F H : Hp} {x : V} {ds : List PyData} {ns : List Bool} (e : Ext F H) (h : OpOk K F H x (.list ds)) (hn : allB ds = some ns) : ∃ p, x = .ref p ∧ SqL K H p (ns.map V.bl) := by
  obtain ⟨p, vs, rfl, h1, h2⟩ := h.list e
  rw [allB_eq hn] at h2
  rw [h2.bools] at h1
  exact ⟨p, rfl, SqL.of h1⟩
theorem of_cases {K : PySem.W.Frag} {P F0 F : Hp} {io : Option Addr} {σ : L2.St} {Q : VK} {env : MP.Env} {α : Type} {o : Option α} {k : α → R Val} (q : PostV W K P F0 io F σ Q (((R.of o).bind k).bind fun v => .ok (v, env))) : ∃ x, o = some x ∧ PostV W K P F0 io F σ Q ((k x).bind fun v => .ok (v, env)) := by
  cases o with
  | none => exact q.elim
  | some x => exact ⟨x, rfl, q⟩
/-- what stands behind a built-in's name -/
def BltR (X : Cx) (x : Str) (r : List V → Hp → VK → Prop) : Prop := (∃ id, CallR X (.builtin id) r ∧ bootBuiltins x = some (.builtin id)) ∨ (∃ T, CallR X (.type T) r ∧ bootBuiltins x = some (.type T))
theorem bi_ok (hc : X.calm = true) (b : Bi) : ∃ r, BltR X (biName b) r ∧ BiSem W X.K r (biD b) := by
  cases b with
  | len =>
    refine ⟨_, .inl ⟨_, CallR.or call_len_seq call_lenD, PySem.boot_len⟩, ?_⟩
    intro P F0 F H io env σ xs ds Q s h q
    match ds, h, q with
    | [.list ys], h, q =>
      obtain ⟨x, rfl, hx⟩ := h.one
      obtain ⟨p, vs, rfl, h1, h2⟩ := hx.list s.fH
      refine .inl ⟨p, vs, rfl, .inl (SqL.of h1), ?_⟩
      rw [h2.length]
      exact PostV.fz (W := W) q s (.int _)
    | [.tuple ys], h, q =>
      obtain ⟨x, rfl, hx⟩ := h.one
      obtain ⟨p, vs, rfl, h1, h2⟩ := hx.tuple s.fH
      refine .inl ⟨p, vs, rfl, .inr h1, ?_⟩
      rw [h2.length]
      exact PostV.fz (W := W) q s (.int _)
    | [.dict kvs], h, q =>
      obtain ⟨x, rfl, hx⟩ := h.one
      obtain ⟨k, r, rfl⟩ := hx.dicF
      obtain ⟨p, u, rfl, hu, ho⟩ := hx.dict s.fH
      refine .inr ⟨p, rfl, ?_⟩
      cases k with
      | true =>
        obtain ⟨es, ws, ds, rfl, k1, k2, k3, k4, rfl⟩ := ho
        refine .inl ⟨es, ⟨hu, fun e he => ext_t s.fH (k1 e he).t⟩, ?_⟩
        have e1 := k3.length
        have e2 := k4.length
        have e : ((es.map keyT).zip ds).length = es.length := by
          simp only [List.length_zip, List.length_map] at e1 ⊢
          omega
        have q : PostV W X.K P F0 io F σ Q (.ok (.fz (.int (((es.map keyT).zip ds).length : Nat)), env)) := q
        rw [e] at q
        exact PostV.fz (W := W) q s (.int _)
      | false =>
        obtain ⟨es, ds, rfl, k2, k3, rfl⟩ := ho
        refine .inr ⟨_, hu, ?_⟩
        have e1 := k3.length
        have e : ((es.map fun e => PyData.int e.1).zip ds).length = (es.map fun e : Int × V => ((Sum.inl e.1 : Key), e.2)).length := by
          simp only [List.length_zip, List.length_map] at e1 ⊢
          omega
        have q : PostV W X.K P F0 io F σ Q (.ok (.fz (.int (((es.map fun e => PyData.int e.1).zip ds).length : Nat)), env)) := q
        rw [e] at q
        exact PostV.fz (W := W) q s (.int _)
    | [], _, q => exact q.elim
    | [.none], _, q => exact q.elim
    | [.bool _], _, q => exact q.elim
    | [.int _], _, q => exact q.elim
    | [.str _], _, q => exact q.elim
    | d :: d' :: r, _, q => exact False.elim (by
        have e : biD .len (d :: d' :: r) = .stuck := by
          cases d with
          | dict kvs =>
            match kvs with
            | [] => rfl
            | (a, b) :: t =>
              cases a with
              | bool bb => cases bb <;> cases b <;> rfl
              | _ => cases b <;> rfl
          | _ => rfl
        rw [e] at q
        exact q)
  | all =>
    refine ⟨_, .inl ⟨_, cr_all hc, boot_all⟩, ?_⟩
    intro P F0 F H io env σ xs ds Q s h q
    match ds, h, q with
    | [.list ys], h, q =>
      obtain ⟨x, rfl, hx⟩ := h.one
      obtain ⟨bs, hb, q⟩ := of_cases q
      obtain ⟨p, rfl, h1⟩ := hx.bools s.fH hb
      exact ⟨p, bs, rfl, h1, PostV.fz (W := W) q s (.bl _)⟩
    | [], _, q => exact q.elim
    | [.none], _, q => exact q.elim
    | [.bool _], _, q => exact q.elim
    | [.int _], _, q => exact q.elim
    | [.str _], _, q => exact q.elim
    | [.dict _], _, q => exact q.elim
    | [.tuple _], _, q => exact q.elim
    | d :: _ :: _, _, q => exact False.elim (by cases d <;> exact q)
  | any =>
    refine ⟨_, .inl ⟨_, cr_any hc, boot_any⟩, ?_⟩
    intro P F0 F H io env σ xs ds Q s h q
    match ds, h, q with
    | [.list ys], h, q =>
      obtain ⟨x, rfl, hx⟩ := h.one
      obtain ⟨bs, hb, q⟩ := of_cases q
      obtain ⟨p, rfl, h1⟩ := hx.bools s.fH hb
      exact ⟨p, bs, rfl, h1, PostV.fz (W := W) q s (.bl _)⟩
    | [], _, q => exact q.elim
    | [.none], _, q => exact q.elim
    | [.bool _], _, q => exact q.elim
    | [.int _], _, q => exact q.elim
    | [.str _], _, q => exact q.elim
    | [.dict _], _, q => exact q.elim
    | [.tuple _], _, q => exact q.elim
    | d :: _ :: _, _, q => exact False.elim (by cases d <;> exact q)
  | sum =>
    refine ⟨_, .inl ⟨_, cr_sum hc, boot_sum⟩, ?_⟩
    intro P F0 F H io env σ xs ds Q s h q
    match ds, h, q with
    | [.list ys], h, q =>
      obtain ⟨x, rfl, hx⟩ := h.one
      obtain ⟨bs, hb, q⟩ := of_cases q
      obtain ⟨p, rfl, h1⟩ := hx.ints s.fH hb
      exact ⟨p, bs, rfl, h1, PostV.fz (W := W) q s (.int _)⟩
    | [], _, q => exact q.elim
    | [.none], _, q => exact q.elim
    | [.bool _], _, q => exact q.elim
    | [.int _], _, q => exact q.elim
    | [.str _], _, q => exact q.elim
    | [.dict _], _, q => exact q.elim
    | [.tuple _], _, q => exact q.elim
    | d :: _ :: _, _, q => exact False.elim (by cases d <;> exact q)
  | min2 =>
    refine ⟨_, .inl ⟨_, call_min2 hc, boot_min⟩, ?_⟩
    intro P F0 F H io env σ xs ds Q s h q
    match ds, h, q with
    | [d, d'], h, q =>
      obtain ⟨x, y, rfl, hx, hy⟩ := h.two
      cases d <;> cases d' <;> first | exact q.elim | skip
      obtain rfl := hx.int
      obtain rfl := hy.int
      exact ⟨_, _, rfl, PostV.fz (W := W) q s (.int _)⟩
    | [], _, q => exact q.elim
    | [d], _, q => exact False.elim (by cases d <;> exact q)
    | d :: d' :: _ :: _, _, q => exact False.elim (by cases d <;> cases d' <;> exact q)
  | max2 =>
    refine ⟨_, .inl ⟨_, call_max2 hc, boot_max⟩, ?_⟩
    intro P F0 F H io env σ xs ds Q s h q
    match ds, h, q with
    | [d, d'], h, q =>
      obtain ⟨x, y, rfl, hx, hy⟩ := h.two
      cases d <;> cases d' <;> first | exact q.elim | skip
      obtain rfl := hx.int
      obtain rfl := hy.int
      exact ⟨_, _, rfl, PostV.fz (W := W) q s (.int _)⟩
    | [], _, q => exact q.elim
    | [d], _, q => exact False.elim (by cases d <;> exact q)
    | d :: d' :: _ :: _, _, q => exact False.elim (by cases d <;> cases d' <;> exact q)
  | min1 =>
    refine ⟨_, .inl ⟨_, cr_min hc, boot_min⟩, ?_⟩
    intro P F0 F H io env σ xs ds Q s h q
    match ds, h, q with
    | [.list ys], h, q =>
      obtain ⟨x, rfl, hx⟩ := h.one
      obtain ⟨bs, hb, q⟩ := of_cases q
      obtain ⟨m, hm, q⟩ := of_cases q
      obtain ⟨p, rfl, h1⟩ := hx.ints s.fH hb
      obtain ⟨m1, m2⟩ := leastI_mem hm
      refine ⟨p, bs, rfl, h1, List.length_pos_of_mem m1, fun k k1 k2 => ?_⟩
      have e : k = m := by
        have a1 := k2 m m1
        have a2 := m2 k k1
        omega
      subst e
      exact PostV.fz (W := W) q s (.int _)
    | [], _, q => exact q.elim
    | [.none], _, q => exact q.elim
    | [.bool _], _, q => exact q.elim
    | [.int _], _, q => exact q.elim
    | [.str _], _, q => exact q.elim
    | [.dict _], _, q => exact q.elim
    | [.tuple _], _, q => exact q.elim
    | d :: _ :: _, _, q => exact False.elim (by cases d <;> exact q)
  | int =>
    refine ⟨_, .inr ⟨_, call_int1, PyProof.Rows.boot_int⟩, ?_⟩
    intro P F0 F H io env σ xs ds Q s h q
    match ds, h, q with
    | [.int i], h, q =>
      obtain ⟨x, rfl, hx⟩ := h.one
      obtain rfl := hx.int
      exact .inl ⟨_, rfl, PostV.fz (W := W) q s (.int _)⟩
    | [.bool i], h, q =>
      obtain ⟨x, rfl, hx⟩ := h.one
      obtain rfl := hx.bool
      exact .inr ⟨_, rfl, PostV.fz (W := W) q s (.int _)⟩
    | [], _, q => exact q.elim
    | [.none], _, q => exact q.elim
    | [.list _], _, q => exact q.elim
    | [.str _], _, q => exact q.elim
    | [.dict _], _, q => exact q.elim
    | [.tuple _], _, q => exact q.elim
    | d :: _ :: _, _, q => exact False.elim (by cases d <;> exact q)
  | list =>
    refine ⟨_, .inr ⟨_, call_list_of, PyProof.Rows.boot_list⟩, ?_⟩
    intro P F0 F H io env σ xs ds Q s h q
    match ds, h, q with
    | [.list ys], h, q =>
      obtain ⟨x, rfl, hx⟩ := h.one
      obtain ⟨p, vs, rfl, h1, h2⟩ := hx.list s.fH
      refine ⟨p, vs, rfl, .inl (SqL.of h1), fun l hl => ?_⟩
      rcases hx with hx | ⟨p', vs', ds', z1, z2, z3, z4⟩ | ⟨_, _, _, _, _, z, _⟩
      · cases hx with
        | lst a1 a2 =>
          have e := s.fH _ _ a1
          rw [h1] at e
          cases e
          exact PostV.lst (W := W) q s a2 hl
      · cases z1
        cases z2
        rw [h1] at z3
        cases z3
        exact PostV.lst (W := W) q s z4 hl
      · cases z
    | [.tuple ys], h, q =>
      obtain ⟨x, rfl, hx⟩ := h.one
      rcases hx with hx | ⟨_, _, _, _, z, _⟩ | ⟨_, _, _, _, _, z, _⟩
      · cases hx with
        | tup a1 a2 => exact ⟨_, _, rfl, .inr (ext_t s.fH a1.t), fun l hl => PostV.lst (W := W) q s a2 hl⟩
      · cases z
      · cases z
    | [], _, q => exact q.elim
    | [.none], _, q => exact q.elim
    | [.bool _], _, q => exact q.elim
    | [.int _], _, q => exact q.elim
    | [.str _], _, q => exact q.elim
    | [.dict _], _, q => exact q.elim
    | d :: _ :: _, _, q => exact False.elim (by cases d <;> exact q)
  | tuple =>
    refine ⟨_, .inr ⟨_, call_tupleN, PyProof.Rows.boot_tuple⟩, ?_⟩
    intro P F0 F H io env σ xs ds Q s h q
    match ds, h, q with
    | [.list ys], h, q =>
      obtain ⟨x, rfl, hx⟩ := h.one
      obtain ⟨p, vs, rfl, h1, h2⟩ := hx.list s.fH
      exact ⟨p, vs, rfl, .inl ⟨SqL.of h1, fun l o hl ho => PostV.tup (W := W) q s h2 hl ho⟩⟩
    | [.tuple ys], h, q =>
      obtain ⟨x, rfl, hx⟩ := h.one
      rcases hx with hx | ⟨_, _, _, _, z, _⟩ | ⟨_, _, _, _, _, z, _⟩
      · cases hx with
        | tup a1 a2 => exact ⟨_, _, rfl, .inr ⟨ext_t s.fH a1.t, PostV.fz (W := W) q s (.tup a1 a2)⟩⟩
      · cases z
      · cases z
    | [], _, q => exact q.elim
    | [.none], _, q => exact q.elim
    | [.bool _], _, q => exact q.elim
    | [.int _], _, q => exact q.elim
    | [.str _], _, q => exact q.elim
    | [.dict _], _, q => exact q.elim
    | d :: _ :: _, _, q => exact False.elim (by cases d <;> exact q)
  | sorted =>
    refine ⟨_, .inl ⟨_, CallR.or cr_sorted (CallR.or (call_sortedDI hc) (call_sortT hc)), PyProof.Rows.boot_sorted⟩, ?_⟩
    intro P F0 F H io env σ xs ds Q s h q
    match ds, h, q with
    | [.list ys], h, q =>
      obtain ⟨x, rfl, hx⟩ := h.one
      obtain ⟨bs, hb, q⟩ := of_cases q
      obtain ⟨c1, q⟩ := PostV.ite (c := bs.length < 64) q
      obtain ⟨p, rfl, h1⟩ := hx.ints s.fH hb
      refine .inl ⟨p, bs, rfl, h1, c1, fun ns' l pm so hl => ?_⟩
      have e : ns' = sortI bs := sorted_one (pm.trans (sortI_perm bs).symm) so (sortI_sorted bs)
      subst e
      exact PostV.lst (W := W) q s (RpA.of_ints _) hl
    | [.dict kvs], h, q =>
      obtain ⟨x, rfl, hx⟩ := h.one
      obtain ⟨k, r, rfl⟩ := hx.dicF
      obtain ⟨p, u, rfl, hu, ho⟩ := hx.dict s.fH
      cases k with
      | true =>
        obtain ⟨es, ws, ds, rfl, k1, k2, k3, k4, rfl⟩ := ho
        obtain ⟨ks, hb, q⟩ := of_cases q
        obtain ⟨c1, q⟩ := PostV.ite (c := (ks.all fun n => !n.isEmpty) = true) q
        have e1 := k3.length
        have e2 := k4.length
        rw [zip_map_fst _ _ (by
          simp only [List.length_map] at e1 ⊢
          omega)] at hb
        have hks : ks = es.map (·.1) := by
          have key : ∀ (es : List TEnt) (ks : List (List Int)), allT (es.map keyT) = some ks → ks = es.map (·.1) := by
            intro es
            induction es with
            | nil =>
              intro ks h
              cases h
              rfl
            | cons e es ih =>
              intro ks h
              rw [List.map_cons] at h
              have h0 : intsOf (keyT e) = some e.1 := by
                show allI (e.1.map .int) = some e.1
                have : ∀ l : List Int, allI (l.map .int) = some l := fun l => by
                  induction l with
                  | nil => rfl
                  | cons x l ih =>
                    rw [List.map_cons]
                    unfold allI
                    rw [ih]
                    rfl
                exact this e.1
              unfold allT at h
              rw [h0] at h
              cases g : allT (es.map keyT) with
              | none => rw [g] at h; cases h
              | some ns =>
                rw [g] at h
                cases h
                rw [ih ns g]
                rfl
          exact key es ks hb
        subst hks
        have hne : ∀ e ∈ es, e.1 ≠ [] := fun e he z => by
          have := List.all_eq_true.mp c1 e.1 (List.mem_map_of_mem he)
          rw [z] at this
          cases this
        refine .inr (.inr ⟨p, es, rfl, ⟨hu, fun e he => ext_t s.fH (k1 e he).t⟩, hne, fun es' l pm pw hl => ?_⟩)
        have e3 : es'.map (·.1) = sortT (es.map (·.1)) := sortT_one ((pm.map _).trans (sortT_perm _).symm) (List.pairwise_map.mpr pw) (sortT_sorted _)
        rw [← e3] at q
        have e4 : ((es'.map (·.1)).map tI) = es'.map keyT := by
          rw [List.map_map]
          rfl
        rw [e4] at q
        refine PostV.lst (W := W) q s ?_ hl
        have : ∀ l : List TEnt, (∀ e ∈ l, e ∈ es) → RpA X.K F (l.map fun e => V.ref e.2.1) (l.map keyT) := fun l => by
          induction l with
          | nil => exact fun _ => .nil
          | cons e l ih =>
            intro hl
            exact .cons (.tup (k1 e (hl e List.mem_cons_self)) (RpA.of_ints _)) (ih fun x hx => hl x (List.mem_cons_of_mem _ hx))
        exact this es' fun e he => pm.mem_iff.mp he
      | false =>
        obtain ⟨es, ds, rfl, k2, k3, rfl⟩ := ho
        obtain ⟨ns, hb, q⟩ := of_cases q
        obtain ⟨c1, q⟩ := PostV.ite (c := ns.length < 64) q
        have e1 := k3.length
        rw [zip_map_fst _ _ (by
          simp only [List.length_map] at e1 ⊢
          omega)] at hb
        have hns : ns = es.map (·.1) := by
          have := allI_eq hb
          rw [show (es.map fun e => PyData.int e.1) = (es.map (·.1)).map PyData.int by rw [List.map_map]; rfl] at this
          have inj : ∀ {a b : List Int}, a.map PyData.int = b.map PyData.int → a = b := fun {a} => by
            induction a with
            | nil => intro b h; cases b with | nil => rfl | cons _ _ => cases h
            | cons x a ih =>
              intro b h
              cases b with
              | nil => cases h
              | cons y b =>
                simp only [List.map_cons, List.cons.injEq, PyData.int.injEq] at h
                rw [h.1, ih h.2]
          exact (inj this).symm
        refine .inr (.inl ⟨p, _, ns, rfl, hu, by rw [hns, List.map_map, List.map_map]; rfl, c1, fun ns' l pm so hl => ?_⟩)
        have e : ns' = sortI ns := sorted_one (pm.trans (sortI_perm ns).symm) so (sortI_sorted ns)
        subst e
        exact PostV.lst (W := W) q s (RpA.of_ints _) hl
    | [], _, q => exact q.elim
    | [.none], _, q => exact q.elim
    | [.bool _], _, q => exact q.elim
    | [.int _], _, q => exact q.elim
    | [.str _], _, q => exact q.elim
    | [.tuple _], _, q => exact q.elim
    | d :: d' :: r, _, q => exact False.elim (by
        have e : biD .sorted (d :: d' :: r) = .stuck := by
          cases d with
          | dict kvs =>
            match kvs with
            | [] => rfl
            | (a, b) :: t =>
              cases a with
              | bool bb => cases bb <;> cases b <;> rfl
              | _ => cases b <;> rfl
          | _ => rfl
        rw [e] at q
        exact q)
  | listRg =>
    refine ⟨fun _ _ _ => False, .inr ⟨_, fun _ _ _ _ _ _ _ _ _ z => z.elim, PyProof.Rows.boot_list⟩, ?_⟩
    intro P F0 F H io env σ xs ds Q s h q
    exact q
  | tupRg =>
    refine ⟨fun _ _ _ => False, .inr ⟨_, fun _ _ _ _ _ _ _ _ _ z => z.elim, PyProof.Rows.boot_tuple⟩, ?_⟩
    intro P F0 F H io env σ xs ds Q s h q
    exact q
end
section
variable {L : Wld} {N : List Str} {n : Nat} {cl : Cl} {sc : Scope} {W : WX0} {X : Cx} {a b c : Expr} {pos : Pos} {f g h : MP.Env → R (Val × MP.Env)} {ta tb : MP.Env → R (Bool × MP.Env)} {as : MP.Env → R (List Val × MP.Env)}
theorem bi_in (b : Bi) : biName b ∈ bltNames := by cases b <;> decide +kernel
theorem pe_biE (o : XOk L N n cl sc W X) {bi : Bi} {es : List Expr} {p : Pos} (hg : globOk sc (biName bi) = true) (ha : PA X es (TAa W L.K as)) (hne : es ≠ []) (hs : ∀ e ∈ es, ∀ y q, e ≠ .Starred y q) :
    PE X (.Call (.Name (biName bi) p) es [] pos) (TV W L.K (evLk as (kBi bi))) := by
  obtain ⟨g1, g2, g3⟩ := o.gl hg
  obtain ⟨r, h1, h2⟩ := bi_ok (X := X) (W := W) o.calm bi
  rw [o.hK] at h2
  have hm : X.mg (biName bi) = none := o.bl (bi_in bi)
  match es, hne, ha, hs with
  | e :: es, _, ha, hs =>
  have key : PE X (.Call (.Name (biName bi) p) (e :: es) [] pos) (tCB r (TAa W L.K as)) := by
    rcases h1 with ⟨id, c1, c2⟩ | ⟨T, c1, c2⟩
    · exact pe_callB c1 g1 hm c2 ha g3 g2 (star_cons (hs e (by simp)) es X.env) (star_any (fun y hy => hs y (List.mem_cons_of_mem _ hy)) pos X.env)
    · exact pe_callTy c1 g1 hm c2 ha g3 g2 (star_cons (hs e (by simp)) es X.env) (star_any (fun y hy => hs y (List.mem_cons_of_mem _ hy)) pos X.env)
  refine PE.imp key ?_
  rintro σ H Q ⟨P, F0, io, F, env, s, q⟩
  refine TAa.go (prV W L.K P F0 io σ Q) s q fun vs e1 _ xs F1 H1 s1 x1 v1 q1 => ?_
  obtain ⟨ds, hd, q2⟩ := PR.of q1
  exact h2 s1 (VsOk.look s1 v1 hd) q2

/-! ### isinstance -/
def tyStr : Ty → String
  | .int => "int"
  | .bool => "bool"
  | .str => "str"
  | .list => "list"
  | .tuple => "tuple"
theorem ty_boot (t : Ty) : bootBuiltins (tyName t) = some (.type (tyStr t)) := by
  cases t
  · exact PyProof.Rows.boot_int
  · exact PyProof.Rows.boot_bool
  · exact PyProof.Rows.boot_str
  · exact PyProof.Rows.boot_list
  · exact PyProof.Rows.boot_tuple
theorem ty_in (t : Ty) : tyName t ∈ bltNames := by cases t <;> decide +kernel
theorem ty_of {K : PySem.W.Frag} {H : Hp} {x : V} {d : PyData} (h : Rp K H x d) (n : ∀ kvs, d ≠ .dict kvs) (t : Ty) : ∃ tv : Value, TyX K H x tv ∧ PySem.W.kitOne K tv (.type (tyStr t)) = some (isTy t d) := by
  cases h with
  | non => exact ⟨_, .base .non, by cases t <;> first | exact kit_ty (r := true) (by decide +kernel) | exact kit_ty (r := false) (by decide +kernel)⟩
  | bl b => exact ⟨_, .base (.bl b), by cases t <;> first | exact kit_ty (r := true) (by decide +kernel) | exact kit_ty (r := false) (by decide +kernel)⟩
  | int b => exact ⟨_, .base (.int b), by cases t <;> first | exact kit_ty (r := true) (by decide +kernel) | exact kit_ty (r := false) (by decide +kernel)⟩
  | str b => exact ⟨_, .base (.str b), by cases t <;> first | exact kit_ty (r := true) (by decide +kernel) | exact kit_ty (r := false) (by decide +kernel)⟩
  | lst h1 h2 => exact ⟨_, .base (.lst h1), by cases t <;> first | exact kit_ty (r := true) (by decide +kernel) | exact kit_ty (r := false) (by decide +kernel)⟩
  | tup h1 h2 =>
    rcases h1 with ⟨o, h1, _⟩ | ⟨o, its, m, h1, h3, _⟩
    · exact ⟨_, .fTuple h1, by cases t <;> first | exact kit_ty (r := true) (by decide +kernel) | exact kit_ty (r := false) (by decide +kernel)⟩
    · exact ⟨_, .kTuple h1 h3, by cases t <;> first | exact kit_ty (r := true) (by decide +kernel) | exact kit_ty (r := false) (by decide +kernel)⟩
  | dicT => exact absurd rfl (n _)
  | dicK => exact absurd rfl (n _)
theorem pe_isiE (o : XOk L N n cl sc W X) {e : Expr} {t : Ty} {p pz : Pos} (hg : globOk sc "isinstance" = true) (hz : globOk sc (tyName t) = true) (ha : PE X e (TV W L.K f)) (hs : ∀ y q, e ≠ .Starred y q) :
    PE X (.Call (.Name "isinstance" p) [e, .Name (tyName t) pz] [] pos) (TV W L.K (ev1 f (isiD t))) := by
  obtain ⟨g1, g2, g3⟩ := o.gl hg
  obtain ⟨k1, k2, k3⟩ := o.gl hz
  have hn : ∀ (z : Expr) q, Expr.Name (tyName t) pz ≠ .Starred z q := fun _ _ z => by cases z
  refine PE.imp (pe_callB call_isi g1 (o.bl (by decide +kernel)) boot_isinstance (pa_cons ha (pa_cons (pe_bltn (v := .ty (tyStr t)) k1 (o.bl (ty_in t)) (ty_boot t) rfl k3 k2) pa_nil (star_cons hn [] X.env)) (star_cons hs _ X.env)) g3 g2 (star_cons hs _ X.env) (star_any (fun y hy => by
    have : y = .Name (tyName t) pz := by simpa using hy
    subst this
    exact hn) pos X.env)) ?_
  rw [o.hK]
  rintro σ H Q ⟨P, F0, io, F, env, s, q⟩
  refine TV.goF (prV W L.K P F0 io σ Q) s q fun v e1 _ x F1 H1 s1 x1 v1 q1 => ?_
  obtain ⟨d, l1, q2⟩ := PR.of q1
  have nd : ∀ kvs, d ≠ .dict kvs := fun kvs z => by
    rw [z] at q2
    exact q2
  obtain ⟨tv, t1, t2⟩ := ty_of ((VOk.look s1 v1 l1).rp s1.fH nd) nd t
  have e : isiD t d = .ok (.fz (.bool (isTy t d))) := by cases d <;> first | rfl | exact absurd rfl (nd _)
  rw [e] at q2
  exact ⟨x, .ty (tyStr t), tv, .type (tyStr t), isTy t d, rfl, .ty _, t1, t2, PostV.fz (W := W) q2 s1 (.bl _)⟩

/-! ### comprehensions -/
theorem tg_tup {tg : Tg} {target : Expr} {scope : Scope} (h : tgOk N scope tg target = true) : isTup target = true → ∃ js, tg = .tup js := fun ht => by
  cases tg with
  | tup js => exact ⟨js, rfl⟩
  | name i => cases target <;> first | (cases ht; done) | (simp [tgOk, tgName] at h)
theorem lc_imp {own : List Nat} {tg : Tg} {its : MP.Env → R (List PyData × MP.Env)} {fe : MP.Env → R (Val × MP.Env)} {ft : MP.Env → R (Bool × MP.Env)} {bt : Bool} (hbt : bt = true → ∃ js, tg = .tup js) (hsub : ∀ j ∈ tgSl tg, j ∈ own) : ∀ (σ : L2.St) (H : Hp) (Q : VK), TV W L.K (evComp its ft fe own tg) σ H Q → tLc (TIi W L.K bt its) (gTg L.K tg) (TTt W0 L.K ft) (TV W0 L.K fe) own σ H Q := by
  rintro σ H Q ⟨P, F0, io, F, env, s, q⟩
  refine ⟨P, F0, io, F, env, s, ?_⟩
  unfold evComp at q
  cases hi : its env with
  | stuck => rw [hi] at q; exact q
  | exc c => rw [hi] at q; exact q
  | ok w =>
    rw [hi] at q
    simp only [R.bind_ok] at q
    intro J F1 H1 s1 x1 y D hD
    by_cases hcond : w.1.length ≤ cap ∧ (own.all fun i => calmS w.2[i]?) = true
    · rw [if_pos hcond] at q
      cases hl : compL ft fe tg own w.1 w.2 with
      | stuck => rw [hl] at q; exact q.elim
      | exc c => rw [hl] at q; exact q.elim
      | ok r =>
        rw [hl] at q
        exact comp_turns hbt hsub s1 hcond.1 hcond.2 hl y (PostV.mono (W := W) x1 q) D hD
    · rw [if_neg hcond] at q
      exact q.elim
theorem pe_compE (o : XOk L N n cl sc W X) {own : List Nat} {tg : Tg} {its : MP.Env → R (List PyData × MP.Env)} {elt target iter : Expr} {ifs : List Expr} {scope : Scope} {fe : MP.Env → R (Val × MP.Env)} {ft : MP.Env → R (Bool × MP.Env)}
    (hi : PI X target iter (TIi W L.K (isTup target) its)) (hb : blkC N sc scope (ownOf N own) = true) (ho : (ownOf N own).map (·.2) = own) (hsub : ∀ j ∈ tgSl tg, j ∈ own) (htg : tgOk N scope tg target = true)
    (he : ∀ {sc' : Scope} {X' : Cx}, sc' = relS scope sc → XOk L N n cl sc' W0 X' → PE X' elt (TV W0 L.K fe)) (ht : ∀ {sc' : Scope} {X' : Cx}, sc' = relS scope sc → XOk L N n cl sc' W0 X' → PTs X' ifs (TTt W0 L.K ft)) (hf : ∀ (env : PySem.Env) x, foldedSetIterable iter env x = pure x) :
    PE X (.ListComp elt [⟨target, iter, ifs, 0⟩] scope pos) (TV W L.K (evComp its ft fe own tg)) := by
  have hb' : BlkOk X.N X.env.scope scope (ownOf N own) := by
    rw [o.hN, o.hsc]
    exact blkOk_by hb
  refine PE.imp (pe_lc (own := ownOf N own) (g := gTg X.K tg) (tt := TTt W0 L.K ft) (te := TV W0 L.K fe) o.calm (o.hN ▸ o.nd) hi hb' (fun s H C cells fp => ?_) (fun s H C cells fp => ht rfl (o.blk s H scope C cells fp)) (fun s H C cells fp => he rfl (o.blk s H scope C cells fp)) (hf X.env)) ?_
  · exact pg_tgOk (X := X.blk s H scope (compEnvC scope cells C X.env) fp) (N := N) (sc := scope) o.calm o.hN o.nd (loc_blk scope s H C cells fp) htg
  rw [ho, o.hK]
  exact lc_imp (tg_tup htg) hsub
theorem set_compE (o : XOk L N n cl sc W X) {i : Nat} {y : Str} {py spos : Pos} {own : List Nat} {tg : Tg} {its : MP.Env → R (List PyData × MP.Env)} {elt target iter : Expr} {ifs : List Expr} {scope : Scope} {fe : MP.Env → R (Val × MP.Env)} {ft : MP.Env → R (Bool × MP.Env)}
    (hi : PI X target iter (TIi W L.K (isTup target) its)) (hb : blkC N sc scope (ownOf N own) = true) (ho : (ownOf N own).map (·.2) = own) (hsub : ∀ j ∈ tgSl tg, j ∈ own) (htg : tgOk N scope tg target = true)
    (he : ∀ {sc' : Scope} {X' : Cx}, sc' = relS scope sc → XOk L N n cl sc' W0 X' → PE X' elt (TV W0 L.K fe)) (ht : ∀ {sc' : Scope} {X' : Cx}, sc' = relS scope sc → XOk L N n cl sc' W0 X' → PTs X' ifs (TTt W0 L.K ft)) (hf : ∀ (env : PySem.Env) x, foldedSetIterable iter env x = pure x)
    (hy : N[i]? = some y) (hyl : sc.names.lookup y = some .local) (hk : sc.kind = .function) (hl : (py.line == pos.line) = true) (hn : (scope.names.any fun (n, k) => n == y && (k == .local || k == .cell)) = false) :
    PS X (.Assign [.Name y py] (.ListComp elt [⟨target, iter, ifs, 0⟩] scope pos) spos) (fun D σ H => TV W L.K (evComp its ft fe own tg) σ H fun x H1 => gName i x σ H1 D.nx) := by
  have hb' : BlkOk X.N X.env.scope scope (ownOf N own) := by
    rw [o.hN, o.hsc]
    exact blkOk_by hb
  have h := ps_setLc (X := X) (i := i) (y := y) (py := py) (pos := pos) (spos := spos) (own := ownOf N own) (g := gTg X.K tg) (tt := TTt W0 L.K ft) (te := TV W0 L.K fe) o.calm (o.hN ▸ o.nd) (o.hN ▸ hy) (by rw [o.hsc]; exact hyl) (sw_true (by rw [o.hsc]; exact hk) (by rw [o.hsc]; exact hyl) hl hn) hi hb'
    (fun s H C cells fp => pg_tgOk (X := X.blk s H scope (compEnvC scope cells C X.env) fp) (N := N) (sc := scope) o.calm o.hN o.nd (loc_blk scope s H C cells fp) htg) (fun s H C cells fp => ht rfl (o.blk s H scope C cells fp)) (fun s H C cells fp => he rfl (o.blk s H scope C cells fp)) (hf X.env)
  rw [ho, o.hK] at h
  exact ⟨fun pins s σ H D I q => h.run pins s σ H D I (lc_imp (tg_tup htg) hsub σ H _ q)⟩
end
end MP

/-! Mini, part D3: dicts made, methods. -/
set_option linter.all false
set_option Elab.async false
set_option maxRecDepth 100000
set_option maxHeartbeats 4000000
namespace MP
open PySem PySem.Spec PyProof.Rows L2
theorem PE.either {X : Cx} {e : Expr} {t t' : TE} (h : PE X e t) (h' : PE X e t') : PE X e (fun σ H Q => t σ H Q ∨ t' σ H Q) := ⟨fun pins s σ H Q I q => q.elim (h.run pins s σ H Q I) (h'.run pins s σ H Q I)⟩
theorem abase_ok {e : Expr} (h : ∀ id p q, e ≠ .Call (.Name id p) [] [] q) (nm : Str) (env : PySem.Env) (w : Sem Value) : attributeBase e nm env w = w := by
  unfold attributeBase
  split
  · exact absurd rfl (h _ _ _)
  · rfl
theorem chk_noarg {T : Tb} {N : List Str} : ∀ (m : E) {sc : Scope} {id : Str} {p q : Pos}, chk T N m sc (.e (.Call (.Name id p) [] [] q)) = true → False
  | .frzd a, sc, id, p, q, h => by
    unfold chk at h
    exact chk_noarg a (by simpa [isCD] using h)
  | .cst _, _, _, _, _, h => by unfold chk at h; simp at h
  | .glob _, _, _, _, _, h => by unfold chk at h; simp at h
  | .var _, _, _, _, _, h => by unfold chk at h; simp at h
  | .peek _, _, _, _, _, h => by unfold chk at h; simp at h
  | .bin _ _ _, _, _, _, _, h => by unfold chk at h; simp at h
  | .neg _, _, _, _, _, h => by unfold chk at h; simp at h
  | .cmp _ _ _, _, _, _, _, h => by unfold chk at h; simp at h
  | .chn _ _ _ _ _, _, _, _, _, h => by unfold chk at h; simp at h
  | .and _ _, _, _, _, _, h => by unfold chk at h; simp at h
  | .or _ _, _, _, _, _, h => by unfold chk at h; simp at h
  | .orV _ _, _, _, _, _, h => by unfold chk at h; simp at h
  | .not _, _, _, _, _, h => by unfold chk at h; simp at h
  | .ite _ _ _, _, _, _, _, h => by unfold chk at h; simp at h
  | .tup _, _, _, _, _, h => by unfold chk at h; simp at h
  | .lst _, _, _, _, _, h => by unfold chk at h; simp at h
  | .dct0 _, _, _, _, _, h => by unfold chk at h; simp at h
  | .dct1 _ _ _, _, _, _, _, h => by unfold chk at h; simp at h
  | .no, _, _, _, _, h => by unfold chk at h; simp at h
  | .nil, _, _, _, _, h => by unfold chk at h; simp at h
  | .cons _ _, _, _, _, _, h => by unfold chk at h; simp at h
  | .idx _ _, _, _, _, _, h => by unfold chk at h; simp at h
  | .slc _ _ _, _, _, _, _, h => by unfold chk at h; simp at h
  | .call _ _, _, _, _, _, h => by unfold chk at h; simp at h
  | .callIo _ _ _, _, _, _, _, h => by unfold chk at h; simp at h
  | .callScr _ _ _, _, _, _, _, h => by unfold chk at h; simp at h
  | .callPk _ _, _, _, _, _, h => by unfold chk at h; simp at h
  | .rev _, _, _, _, _, h => by unfold chk at h; simp at h
  | .rg _ _, _, _, _, _, h => by unfold chk at h; simp at h
  | .bi _ _, _, _, _, _, h => by unfold chk at h; simp at h
  | .isi _ _, _, _, _, _, h => by unfold chk at h; simp at h
  | .meth _ _ _, _, _, _, _, h => by unfold chk at h; simp at h
  | .comp _ _ _ _ _ _, _, _, _, _, h => by unfold chk at h; simp at h
  | .lenScr _, _, _, _, _, h => by unfold chk at h; simp at h
  | .idxScr _ _, _, _, _, _, h => by unfold chk at h; simp at h
theorem chk_base {T : Tb} {N : List Str} {m : E} {sc : Scope} {e : Expr} (h : chk T N m sc (.e e) = true) (nm : Str) (env : PySem.Env) (w : Sem Value) : attributeBase e nm env w = w :=
  abase_ok (fun id p q z => by rw [z] at h; exact chk_noarg m h) nm env w
section
variable {L : Wld} {N : List Str} {n : Nat} {cl : Cl} {sc : Scope} {W : WX0} {X : Cx} {a b : Expr} {pos : Pos} {f g : MP.Env → R (Val × MP.Env)} {as : MP.Env → R (List Val × MP.Env)}
theorem pe_dct0E {k : Bool} : PE X (.Dict [] [] pos) (TV W L.K (fun env => .ok (.fd k [], env))) := by
  cases k with
  | true =>
    refine PE.imp pe_dic0 ?_
    rintro σ H Q ⟨P, F0, io, F, env, s, q⟩ p hp
    obtain ⟨h1, h2, h3⟩ := s.fresh hp
    exact q (.ref p) F _ (s.alloc hp (hoT p [])) (Ext.refl F) ⟨p, _, rfl, upd_same, ⟨[], [], [], rfl, (fun _ h => nomatch h), List.nodup_nil, .nil, .nil, rfl⟩, h1, h2, h3⟩
  | false =>
    refine PE.imp pe_dnewK ?_
    rintro σ H Q ⟨P, F0, io, F, env, s, q⟩ p hp
    obtain ⟨h1, h2, h3⟩ := s.fresh hp
    exact q (.ref p) F _ (s.alloc hp (.dK [])) (Ext.refl F) ⟨p, _, rfl, upd_same, ⟨[], [], rfl, .nil, .nil, rfl⟩, h1, h2, h3⟩
/-- ends with a kept object more -/
def prVK (W : WX0) (K : PySem.W.Frag) {P P' : Hp} (e : Ext P P') (F0 : Hp) (io : Option Addr) (σ : L2.St) (Q : VK) : PR W P' (Val × MP.Env) := ⟨fun F => PostV W K P F0 io F σ Q, fun _ h => h, fun _ _ h H' e' => h H' (e.trans e'), fun e h => h.mono e⟩
theorem pe_dct1E (o : XOk L N n cl sc W X) {k : Bool} (ha : PE X a (TV W L.K f)) (hb : PE X b (TV W L.K g)) : PE X (.Dict [some a] [b] pos) (TV W L.K (evDct f g k)) := by
  have fin : ∀ {P F0 F H : Hp} {io : Option Addr} {env : MP.Env} {σ : L2.St} {Q : VK} {p : Addr} {u : HO}, StOk L.K P F0 io F env σ H → H p = none → PostV W L.K P F0 io F σ Q (evDct f g k env) →
      ∀ {T : List (V × V) → Hp → Prop}, (∀ {x y : V} {da db : PyData} {F2 H2 : Hp} {e2 : MP.Env}, StOk L.K (upd P p u) F0 io F2 e2 σ H2 → Rp L.K F2 x da → Rp L.K F2 y db → putOk k da = true → F2 p = none → P p = none → (∀ j, ¬ MutAt e2 σ j p) → PostV W L.K P F0 io F2 σ Q (.ok (.fd k [(da, db)], e2)) → T [(x, y)] H2) →
      tPairs [(TV W L.K f, TV W L.K g)] σ (upd H p u) T := by
    intro P F0 F H io env σ Q p u s hp q T h
    obtain ⟨fP, pP, mP⟩ := s.fresh hp
    have s0 := (s.alloc hp u).pin upd_same fP mP
    have eP : Ext P (upd P p u) := Ext.upd pP
    show TV W L.K f σ (upd H p u) fun x H1 => TV W L.K g σ H1 fun y H2 => T [(x, y)] H2
    refine TV.goF (prVK W L.K eP F0 io σ Q) s0 q fun v e1 _ x F1 H1 s1 x1 v1 q1 => ?_
    cases hv : v.frz with
    | fr _ => rw [hv] at q1; exact q1.elim
    | fd _ _ => rw [hv] at q1; exact q1.elim
    | pk _ => rw [hv] at q1; exact q1.elim
    | fz da =>
      rw [hv] at q1 v1
      simp only at q1
      refine TV.goF (prVK W L.K eP F0 io σ Q) s1 q1 fun w e2 _ y F2 H2 s2 x2 v2 q2 => ?_
      cases hw : w.frz with
      | fr _ => rw [hw] at q2; exact q2.elim
      | fd _ _ => rw [hw] at q2; exact q2.elim
      | pk _ => rw [hw] at q2; exact q2.elim
      | fz db =>
        rw [hw] at q2 v2
        simp only at q2
        by_cases c : putOk k da = true
        · rw [if_pos c] at q2
          refine h s2 (Rp.mono x2 _ _ v1) v2 c ?_ pP (fun j m => ?_) q2
          · cases z : F2 p with
            | none => rfl
            | some w0 => exact absurd (s2.hid p u upd_same (s.f0.none fP)) (by rw [z]; simp)
          · have := (s2.own m).2.2
            rw [upd_same] at this
            cases this
        · rw [if_neg c] at q2
          exact q2.elim
  cases k with
  | true =>
    refine PE.imp (pe_dic1T (by have := o.room.units; omega) ha hb) ?_
    rw [o.hK]
    rintro σ H Q ⟨P, F0, io, F, env, s, q⟩ p hp
    refine fin s hp q fun {x y da db F2 H2 e2} s2 rx ry c fp pP nm q2 => ?_
    cases da <;> first | (cases c; done) | skip
    cases rx with
    | @tup b0 _ _ t1 t2 =>
      obtain ⟨ks, rfl, rfl⟩ := ints_of t2 c
      refine ⟨s2.pH p _ upd_same, _, ks, y, rfl, ext_t s2.fH t1.t, fun w rw => ?_⟩
      have s3 := (s2.repin (u := hoT p [(ks, b0, w)]) fp).weakP (Ext.upd pP)
      exact q2 _ F2 _ s3 (Ext.refl F2) ⟨p, _, rfl, upd_same, ⟨[(ks, b0, w)], [y], [db], rfl, fun e he => by rw [List.mem_singleton.mp he]; exact t1, by simp, .cons rw .nil, .cons ry .nil, rfl⟩, fp, pP, nm⟩
  | false =>
    refine PE.imp (pe_disp (pps_cons ha hb pps_nil) rfl rfl (fun z => by cases z) (by show 1 ≤ 15; decide)) ?_
    rintro σ H Q ⟨P, F0, io, F, env, s, q⟩ p hp
    refine fin s hp q fun {x y da db F2 H2 e2} s2 rx ry c fp pP nm q2 => ?_
    cases da <;> first | (cases c; done) | skip
    cases rx
    rename_i i
    refine ⟨s2.pH p _ upd_same, [(.inl i, y)], rfl, (by show 1 ≤ 15; decide), ?_⟩
    have s3 := (s2.repin (u := .dK [(.inl i, y)]) fp).weakP (Ext.upd pP)
    exact q2 _ F2 _ s3 (Ext.refl F2) ⟨p, _, rfl, upd_same, ⟨[(i, y)], [db], rfl, by simp, .cons ry .nil, rfl⟩, fp, pP, nm⟩
/-- a new dict is locked -/
theorem pe_frzdE (h : PE X a (TV W L.K f)) : PE X a (TV W L.K (evFrzd f)) := by
  refine ⟨fun pins s σ H Q I q => ?_⟩
  obtain ⟨P, F0, io, F, env, st, q⟩ := q
  refine thn (h.run pins s σ H (fun x H1 => ∃ p u, x = .ref p ∧ H1 p = some u ∧ Mut (some u) ∧ ∀ od, Q (.ref p) (upd H1 p (.frz od u))) I ?_) fun v s1 ⟨x, H1, I1, r1, p, u, ex, hu, mu, fin⟩ => ?_
  · refine TV.go (prV W L.K P F0 io σ Q) st q fun v e1 _ x F1 H1 s1 x1 v1 q1 => ?_
    cases v with
    | fz _ => exact q1.elim
    | fr _ => exact q1.elim
    | pk _ => exact q1.elim
    | fd k kvs =>
      obtain ⟨p, u, rfl, h1, h2, h3, h4, h5⟩ := v1
      refine ⟨p, u, rfl, h1, h2.mut, fun od => ?_⟩
      obtain ⟨s2, x2⟩ := s1.lock h1 h3 h4 h5 od
      exact q1 _ _ _ s2 x2 ((h2.mono x2).frz upd_same)
  · subst ex
    obtain ⟨od, I2⟩ := I1.lock hu mu
    exact ⟨_, _, I2, r1, fin od⟩
/-! ### x[::-1] -/
section
variable {prog : Program} {w : World} {A : Around} {E : Value → Shared → Prop} {s : Shared}
theorem sliceApplied_rev {sl : Addr} {vl vu vs : Value} {n : Nat} {Q : Int × Int × Nat → Shared → Prop} (hs : s.heap.IsSliceOf sl vl vu vs) (pl : IsPart vl none) (pu : IsPart vu none) (ps : IsPart vs (some (-1)))
    (h : Q ((n : Int) - 1, -1, n) s) : wpAny (model prog w) A (Builtin.Slice.sliceApplied (.ref sl) (pure (n : Int))) Q E s := by
  obtain ⟨os, hos, hcs, hds⟩ := id hs
  unfold Builtin.Slice.sliceApplied Builtin.Slice.sliceFields
  refine wpAny_bind (wpAny_bind (wpAny_field hos hds (x := vl) rfl (wpAny_bind (wpAny_field hos hds (x := vu) rfl (wpAny_bind (wpAny_field hos hds (x := vs) rfl (wpAny_pure ?_)))))))
  refine wpAny_bind (HT.slicePart_ ps ?_)
  show wpAny _ _ (if ((-1 : Int) == 0) = true then _ else _) _ _ s
  rw [if_neg (by decide)]
  refine wpAny_bind (HT.slicePart_ pl (wpAny_bind (HT.slicePart_ pu (wpAny_bind (wpAny_pure ?_)))))
  show wpAny _ _ (match Builtin.Slice.sliceAdjust none none (-1) (n : Int) with | (lo, hi) => pure (lo, (-1 : Int), Builtin.Slice.slicePlaces lo hi (-1))) _ _ s
  have e1 : Builtin.Slice.sliceAdjust none none (-1) (n : Int) = ((n : Int) - 1, -1) := rfl
  rw [e1]
  have e2 : Builtin.Slice.slicePlaces ((n : Int) - 1) (-1) (-1) = n := by
    unfold Builtin.Slice.slicePlaces
    have h1 : ¬ ((-1 : Int) > 0) := by omega
    simp only [h1, if_false]
    split
    · rw [show (- -1 : Int) = 1 by decide, Int.ediv_one]
      omega
    · omega
  show wpAny _ _ (pure ((n : Int) - 1, (-1 : Int), Builtin.Slice.slicePlaces ((n : Int) - 1) (-1) (-1))) _ _ s
  rw [e2]
  exact wpAny_pure h
theorem pick_rev (xs : Array Value) : ((List.range xs.size).filterMap fun (m : Nat) => xs[(((xs.size : Nat) : Int) - 1 + (m : Int) * -1).toNat]?).toArray = xs.toList.reverse.toArray := by
  have e : (fun (m : Nat) => xs[(((xs.size : Nat) : Int) - 1 + (m : Int) * -1).toNat]?) = (fun j => xs[j]?) ∘ fun m => xs.size - 1 - m := by
    funext m
    show xs[(((xs.size : Nat) : Int) - 1 + (m : Int) * -1).toNat]? = xs[xs.size - 1 - m]?
    have : (((xs.size : Nat) : Int) - 1 + (m : Int) * -1).toNat = xs.size - 1 - m := by omega
    rw [this]
  rw [e, ← List.filterMap_map, PySem.W.krv_range, List.filterMap_reverse, PySem.W.krv_all]
theorem getItem_tuple_rev {t sl : Addr} {items : Array Value} {vl vu vs : Value} {Q : Value → Shared → Prop} (ht : IsTup s.heap t items) (hs : s.heap.IsSliceOf sl vl vu vs) (pl : IsPart vl none) (pu : IsPart vu none) (ps : IsPart vs (some (-1)))
    (h : Q (.ref s.heap.objs.size) { s with heap := s.heap.push { cls := .type "tuple", data := .seq items.toList.reverse.toArray } })
    (hsz : items.size ≤ sizeLine) : wpAny (model prog w) A (getItem (.ref t) (.ref sl)) Q E s := by
  have htake : sizeOk (.seq items.toList.reverse.toArray) := by
    show items.toList.reverse.toArray.size ≤ sizeLine
    rw [List.size_toArray, List.length_reverse, Array.length_toList]
    exact hsz
  obtain ⟨os, hos, hcs, hds⟩ := id hs
  have hTs : s.TypeIs (.ref sl) "slice" := ⟨os, hos, hcs⟩
  unfold getItem
  try with_reducible refine wpAny_holding ?_
  first | refine wpAny_bind (wpAny_pure ?_) | skip
  refine wpAny_bind (wpAny_sequenceKey ht.typeIs (by decide) ?_)
  refine wpAny_bind (wpAny_callSpecial?_slot (name := Str.ofString "__getitem__") ht.typeIs PyProof.Rows.slot_tuple_getitem
    (wpAny_call_entry PyProof.Rows.slot_tuple_getitem ht.typeIs PyProof.Rows.entry_tuple_getitem ?_ (PyProof.Rows.args_tuple_getitem _ _)))
  show wpAny _ _ (Builtin.Tuple.tupleItemsOf (.ref t) >>= _) _ _ s
  refine wpAny_bind (tupleItemsOf_ ht ?_)
  refine wpAny_bind (wpAny_typeOf hTs ?_)
  rw [if_pos (by decide)]
  refine wpAny_bind (sliceApplied_rev hs pl pu ps ?_)
  have hno : ¬ ((((items.size : Nat) : Int) - 1 == 0 && (-1 : Int) == 1 && items.size == items.size) = true) := by
    intro q
    rw [Bool.and_eq_true, Bool.and_eq_true] at q
    exact absurd q.1.2 (by decide)
  show wpAny _ _ (if (((items.size : Nat) : Int) - 1 == 0 && (-1 : Int) == 1 && items.size == items.size) = true then _ else _) _ _ s
  rw [if_neg hno, pick_rev]
  first
    | exact wpAny_bind (m := Builtin.Tuple.tupleExact _) (wpAny_newObj_type (wpAny_pure ⟨_, rfl, wpAny_pure h⟩) htake)
    | exact wpAny_bind (m := Builtin.Tuple.tupleExact _) (wpAny_newObj_type (wpAny_bind (wpAny_pure (wpAny_pure ⟨_, rfl, wpAny_pure h⟩))) htake)
    | exact wpAny_bind (wpAny_bind (m := Builtin.Tuple.tupleExact _) (wpAny_newObj_type (wpAny_pure (wpAny_pure ⟨_, rfl, wpAny_pure h⟩)) htake))
    | exact wpAny_bind (wpAny_bind (m := Builtin.Tuple.tupleExact _) (wpAny_newObj_type (wpAny_pure ⟨_, rfl, wpAny_pure h⟩) htake))
end
section
variable {X : Cx}
def tRevN (K : PySem.W.Frag) (te : TE) : TE := fun σ H Q => te σ H fun x H1 => ∃ a xs, x = .ref a ∧ SqT K H1 a xs ∧ ∀ p o, H1 p = none → o.dict = none → Q (.ref p) (upd H1 p (.frz o (.tup xs.reverse)))
theorem pe_revN {e : Expr} {te : TE} {k : Nat} {p1 p2 p3 pos : Pos} (he : PE X e te) : PE X (.Subscript e (.Slice none none (some (.UnaryOp .USub (.Constant (.int 1) k p1) p2)) p3) pos) (tRevN X.K te) := by
  refine ⟨fun pins s σ H Q I h => ?_⟩
  refine Subscript_ (thn (he.run pins s σ H _ I h) fun v s1 ⟨x, H1, I1, r1, q1⟩ => ?_)
  obtain ⟨a, xs, ex, hx, q⟩ := q1
  subst ex
  cases r1
  have hst : PO X (some (.UnaryOp .USub (.Constant (.int 1) k p1) p2)) (tPart (tUn (rU fun i => .int (-i)) (tC (.int 1)))) := po_some (pe_un un_neg pe_int)
  refine wpAny_Slice (thn (po_none.run pins s1 σ H1 (fun o H2 => o = none ∧ H2 = H1) I1 ⟨rfl, rfl⟩) fun vl s2 ⟨l, H2, I2, pl, el, e2⟩ => ?_)
  subst el e2
  refine thn (po_none.run pins s2 σ H2 (fun o H3 => o = none ∧ H3 = H2) I2 ⟨rfl, rfl⟩) fun vu s3 ⟨u, H3, I3, pu, eu, e3⟩ => ?_
  subst eu e3
  refine thn (hst.run pins s3 σ H3 (fun o H4 => o = some (-1) ∧ H4 = H3) I3 ⟨1, rfl, -1, rfl, rfl, rfl⟩) fun vs s4 ⟨o, H4, I4, ps, eo, e4⟩ => ?_
  subst eo e4
  have I5 : Inv X pins σ H4 { s4 with heap := s4.heap.push { cls := .type "slice", data := .fields #[vl, vu, vs] } } := I4.kept (t' := s4.toks) fun b ob q => Heap.get?_push_of_some _ q
  obtain ⟨its, r, tp, hz⟩ := I5.tuple hx
  have hlen := r.length
  show wpAny (model X.prog X.w) X.A (subscriptTail e (.Slice none none (some (.UnaryOp .USub (.Constant (.int 1) k p1) p2)) p3) (.ref a) (.ref s4.heap.objs.size)) (EP X pins σ Q) X.xe { s4 with heap := s4.heap.push { cls := .type "slice", data := .fields #[vl, vu, vs] } }
  refine tail_any (ops := [.ref a, .ref s4.heap.objs.size]) tp.typeIs (PyProof.Rows.slot_tuple_getitem.lookup) ?_ (by with_unfolding_all rfl)
  refine getItem_tuple_rev tp (Heap.IsSliceOf.new _ vl vu vs) pl pu ps ?_ (by rw [List.size_toArray]; omega)
  exact laidP I5 r.reverse (by rw [List.length_reverse]; exact hz) q
end

/-! ### methods -/
theorem find_ok {K : PySem.W.Frag} {F : Hp} {y : V} {d : PyData} (ry : Rp K F y d) (fy : flatD d = true) : ∀ {vs : List V} {ds : List PyData} {j : Nat}, RpA K F vs ds → ds.all flatD = true → findD d ds = some j →
    ∃ z, vs[j]? = some z ∧ eqV z y = true ∧ ∀ (m : Nat) (z' : V), m < j → vs[m]? = some z' → eqV z' y = false
  | _, _, _, .nil, _, h => by cases h
  | _, _, j, .cons a t, h, e => by
    rename_i v vs d0 ds
    rw [List.all_cons, Bool.and_eq_true] at h
    unfold findD at e
    have q := eqV_of a ry h.1 fy
    by_cases c : eqD d0 d = true
    · rw [if_pos c] at e
      cases e
      exact ⟨v, rfl, by rw [q]; exact c, fun m z hm => absurd hm (Nat.not_lt_zero _)⟩
    · rw [if_neg c] at e
      cases g : findD d ds with
      | none => rw [g] at e; cases e
      | some j' =>
        rw [g] at e
        cases e
        obtain ⟨z, h1, h2, h3⟩ := find_ok ry fy t h.2 g
        refine ⟨z, by simpa using h1, h2, fun m z' hm hz => ?_⟩
        cases m with
        | zero =>
          have : z' = v := by simpa using hz.symm
          rw [this, q]
          simpa using c
        | succ m => exact h3 m z' (Nat.lt_of_succ_lt_succ hm) (by simpa using hz)
/-- the rule of a method -/
def MSem (W : WX0) (K : PySem.W.Frag) (r : V → List V → Hp → VK → Prop) (op : PyData → List PyData → R Val) (kind : PyData → Bool) : Prop :=
  ∀ {P F0 F H : Hp} {io : Option Addr} {env : MP.Env} {σ : L2.St} {x : V} {xs : List V} {dx : PyData} {ds : List PyData} {Q : VK}, StOk K P F0 io F env σ H → OpOk K F H x dx → kind dx = true → RpA K F xs ds → PostV W K P F0 io F σ Q ((op dx ds).bind fun v => .ok (v, env)) → r x xs H Q
def isL : PyData → Bool
  | .list _ => true
  | _ => false
def isT : PyData → Bool
  | .tuple _ => true
  | _ => false
def isD : Bool → PyData → Bool
  | k, .dict ((.bool b, .none) :: _) => b == k
  | _, _ => false
theorem same_L {a b : PyData} (h : sameK a b = true) (k : isL a = true) : isL b = true := by cases a <;> cases b <;> first | rfl | (cases h; done) | (cases k; done)
theorem same_T {a b : PyData} (h : sameK a b = true) (k : isT a = true) : isT b = true := by cases a <;> cases b <;> first | rfl | (cases h; done) | (cases k; done)
/-- how a method's term goes -/
theorem meth_go {m : Mt} {T : String} {r : V → List V → Hp → VK → Prop} {kind kind' : PyData → Bool} (hr : MSem W L.K r (methD m) kind') (hk : ∀ {a b : PyData}, kind a = true → sameK a b = true → kind' b = true) (hrc : ∀ {F H : Hp} {x : V} {d : PyData}, Ext F H → OpOk L.K F H x d → kind d = true → Recv X T x H)
    {σ : L2.St} {H : Hp} {Q : VK} {P F0 F : Hp} {io : Option Addr} {env : MP.Env} {p : Val × MP.Env} {x0 : PyData} (s : StOk L.K P F0 io F env σ H) (hf : f env = .ok p) (h0 : p.1.frz.look p.2 = some x0) (hx0 : kind x0 = true) (hk0 : mtKd m x0 = true) (q : PostV W L.K P F0 io F σ Q (evMeth f as m env)) : tMeth X T r (TV W L.K f) (TAa W L.K as) σ H Q := by
  refine TV.goF (prV W L.K P F0 io σ Q) s q fun v e1 he x F1 H1 s1 x1 v1 q1 => ?_
  rw [hf] at he
  cases he
  simp only [h0, R.of_some, R.bind_ok, if_pos hk0] at q1
  refine ⟨hrc s1.fH (VOk.look s1 v1 h0) hx0, ?_⟩
  refine TAa.go (prV W L.K P F0 io σ Q) s1 q1 fun vs e2 _ xs F2 H2 s2 x2 v2 q2 => ?_
  obtain ⟨ds, hd, q3⟩ := PR.of q2
  obtain ⟨dx, hx, q4⟩ := PR.of q3
  by_cases c : sameK x0 dx = true
  · simp only [if_pos c] at q4
    exact hr s2 (VOk.look s2 (v1.mono x2) hx) (hk hx0 c) (VsOk.fz v2 hd) q4
  · simp only [if_neg c] at q4
    exact q4.elim

theorem ms_ixL : MSem W L.K (rIndex L.K) (methD .index) isL := by
  intro P F0 F H io env σ x xs dx ds Q s hx k r q
  cases dx <;> first | (cases k; done) | skip
  match ds, r with
  | [], _ => exact q.elim
  | _ :: _ :: _, _ => exact q.elim
  | [d], r =>
  obtain ⟨p, vs, rfl, h1, h2⟩ := hx.list s.fH
  cases r with
  | cons ry rt =>
  cases rt
  rename_i us y
  simp only [methD] at q
  by_cases c : (flatD d && us.all flatD) = true
  · rw [if_pos c] at q
    rw [Bool.and_eq_true] at c
    cases e : findD d us with
    | none => rw [e] at q; exact q.elim
    | some j =>
      rw [e] at q
      obtain ⟨z, a1, a2, a3⟩ := find_ok ry c.1 h2 c.2 e
      exact ⟨p, vs, y, j, z, rfl, rfl, SqL.of h1, flat_of ry c.1, flats_of h2 c.2, a1, a2, a3, PostV.fz q s (.int _)⟩
  · rw [if_neg c] at q
    exact q.elim
theorem ms_ixT : MSem W L.K (rIxN L.K) (methD .index) isT := by
  intro P F0 F H io env σ x xs dx ds Q s hx k r q
  cases dx <;> first | (cases k; done) | skip
  match ds, r with
  | [], _ => exact q.elim
  | _ :: _ :: _, _ => exact q.elim
  | [d], r =>
  obtain ⟨p, vs, rfl, h1, h2⟩ := hx.tuple s.fH
  cases r with
  | cons ry rt =>
  cases rt
  rename_i us y
  simp only [methD] at q
  by_cases c : (flatD d && us.all flatD) = true
  · rw [if_pos c] at q
    rw [Bool.and_eq_true] at c
    cases e : findD d us with
    | none => rw [e] at q; exact q.elim
    | some j =>
      rw [e] at q
      obtain ⟨z, a1, a2, a3⟩ := find_ok ry c.1 h2 c.2 e
      exact ⟨p, vs, y, j, z, rfl, rfl, h1, flat_of ry c.1, flats_of h2 c.2, a1, a2, a3, PostV.fz q s (.int _)⟩
  · rw [if_neg c] at q
    exact q.elim
theorem ms_cnt : MSem W L.K (rCntI L.K) (methD .count) isL := by
  intro P F0 F H io env σ x xs dx ds Q s hx k r q
  cases dx <;> first | (cases k; done) | skip
  rename_i us
  match ds, r with
  | [], _ => exact q.elim
  | d1 :: _ :: _, _ => exact (by cases d1 <;> exact q.elim)
  | [d], r =>
  cases d <;> first | exact q.elim | skip
  rename_i i
  obtain ⟨p, vs, rfl, h1, h2⟩ := hx.list s.fH
  cases r with
  | cons ry rt =>
  cases rt
  cases ry
  simp only [methD] at q
  cases e : allI us with
  | none => rw [e] at q; exact q.elim
  | some ns =>
    rw [e] at q
    rw [allI_eq e] at h2
    rw [h2.ints] at h1
    exact ⟨p, ns, i, rfl, rfl, SqL.of h1, PostV.fz q s (.int _)⟩
theorem isD_ex {k : Bool} {d : PyData} (h : isD k d = true) : ∃ kvs, d = mkD k kvs := by
  unfold isD at h
  split at h
  · rename_i b kvs
    exact ⟨kvs, by rw [← eq_of_beq h]⟩
  · cases h
theorem methD_g1 (k : Bool) (kvs : List (PyData × PyData)) (a : PyData) : methD .get1 (mkD k kvs) [a] = if askOk k a then .ok (.fz ((dlook kvs a).getD .none)) else .stuck := rfl
theorem methD_g2 (k : Bool) (kvs : List (PyData × PyData)) (a x : PyData) : methD .get2 (mkD k kvs) [a, x] = if askOk k a then .ok (.fz ((dlook kvs a).getD x)) else .stuck := rfl
theorem ms_g1T : MSem W L.K (rG1T L.K) (methD .get1) (isD true) := by
  intro P F0 F H io env σ x xs dx ds Q s hx k r q
  obtain ⟨kvs, rfl⟩ := isD_ex k
  obtain ⟨p, u, rfl, hu, ho⟩ := hx.dict s.fH
  match ds, r with
  | [], _ => exact q.elim
  | _ :: _ :: _, _ => exact q.elim
  | [d], r =>
  rw [methD_g1] at q
  by_cases c : askOk true d = true
  · rw [if_pos c] at q
    cases d <;> first | (cases c; done) | skip
    cases r with
    | cons ry rt =>
    cases rt
    cases ry with
    | tup t1 t2 =>
    obtain ⟨ks, rfl, rfl⟩ := keys_of t2 c
    obtain ⟨es, ws, ds, rfl, k1, k2, k3, k4, rfl⟩ := ho
    have a := look_ok ks k3 k4
    refine ⟨p, _, es, ks, rfl, rfl, ⟨hu, fun e he => ext_t s.fH (k1 e he).t⟩, ext_t s.fH t1.t, fun w hw => ?_, fun hw => ?_⟩
    · rw [hw] at a
      cases e1 : dlook ((es.map keyT).zip ds) (.tuple (ks.map pkD)) with
      | none => rw [e1] at a; exact a.elim
      | some d =>
        rw [e1] at a q
        obtain ⟨v, a1, a2⟩ := a
        exact ⟨v, a1, PostV.fz q s a2⟩
    · rw [hw] at a
      cases e1 : dlook ((es.map keyT).zip ds) (.tuple (ks.map pkD)) with
      | none =>
        rw [e1] at q
        exact PostV.fz q s .non
      | some d => rw [e1] at a; exact a.elim
  · rw [if_neg c] at q
    exact q.elim
theorem ms_g2T : MSem W L.K (rG2T L.K) (methD .get2) (isD true) := by
  intro P F0 F H io env σ x xs dx ds Q s hx k r q
  obtain ⟨kvs, rfl⟩ := isD_ex k
  obtain ⟨p, u, rfl, hu, ho⟩ := hx.dict s.fH
  match ds, r with
  | [], _ => exact q.elim
  | [_], _ => exact q.elim
  | _ :: _ :: _ :: _, _ => exact q.elim
  | [d, d'], r =>
  rw [methD_g2] at q
  by_cases c : askOk true d = true
  · rw [if_pos c] at q
    cases d <;> first | (cases c; done) | skip
    cases r with
    | cons ry rt =>
    cases rt with
    | cons rz rt =>
    cases rt
    rename_i z0
    cases ry with
    | tup t1 t2 =>
    obtain ⟨ks, rfl, rfl⟩ := keys_of t2 c
    obtain ⟨es, ws, ds, rfl, k1, k2, k3, k4, rfl⟩ := ho
    have a := look_ok ks k3 k4
    refine ⟨p, _, es, ks, _, rfl, rfl, ⟨hu, fun e he => ext_t s.fH (k1 e he).t⟩, ext_t s.fH t1.t, fun w hw => ?_, fun hw => ?_⟩
    · rw [hw] at a
      cases e1 : dlook ((es.map keyT).zip ds) (.tuple (ks.map pkD)) with
      | none => rw [e1] at a; exact a.elim
      | some d =>
        rw [e1] at a q
        obtain ⟨v, a1, a2⟩ := a
        exact ⟨v, a1, PostV.fz q s a2⟩
    · rw [hw] at a
      cases e1 : dlook ((es.map keyT).zip ds) (.tuple (ks.map pkD)) with
      | none =>
        rw [e1] at q
        exact PostV.fz q s rz
      | some d => rw [e1] at a; exact a.elim
  · rw [if_neg c] at q
    exact q.elim
theorem ms_g1K : MSem W L.K rG1K (methD .get1) (isD false) := by
  intro P F0 F H io env σ x xs dx ds Q s hx k r q
  obtain ⟨kvs, rfl⟩ := isD_ex k
  obtain ⟨p, u, rfl, hu, ho⟩ := hx.dict s.fH
  match ds, r with
  | [], _ => exact q.elim
  | _ :: _ :: _, _ => exact q.elim
  | [d], r =>
  rw [methD_g1] at q
  by_cases c : askOk false d = true
  · rw [if_pos c] at q
    cases d <;> first | (cases c; done) | skip
    rename_i i
    cases r with
    | cons ry rt =>
    cases rt
    cases ry
    obtain ⟨es, ds, rfl, k2, k3, rfl⟩ := ho
    have a := look_okK i k3
    refine ⟨p, i, _, rfl, rfl, hu, ?_⟩
    cases e1 : dlook ((es.map fun e => PyData.int e.1).zip ds) (.int i) with
    | none =>
      cases e2 : valV (es.map fun e => (Sum.inl e.1, e.2)) (Sum.inl i : Key) with
      | none =>
        rw [e1] at q
        exact PostV.fz q s .non
      | some w => rw [e1, e2] at a; exact a.elim
    | some d =>
      cases e2 : valV (es.map fun e => (Sum.inl e.1, e.2)) (Sum.inl i : Key) with
      | none => rw [e1, e2] at a; exact a.elim
      | some w =>
        rw [e1, e2] at a
        rw [e1] at q
        exact PostV.fz q s a
  · rw [if_neg c] at q
    exact q.elim
theorem ms_g2K : MSem W L.K rG2K (methD .get2) (isD false) := by
  intro P F0 F H io env σ x xs dx ds Q s hx k r q
  obtain ⟨kvs, rfl⟩ := isD_ex k
  obtain ⟨p, u, rfl, hu, ho⟩ := hx.dict s.fH
  match ds, r with
  | [], _ => exact q.elim
  | [_], _ => exact q.elim
  | _ :: _ :: _ :: _, _ => exact q.elim
  | [d, d'], r =>
  rw [methD_g2] at q
  by_cases c : askOk false d = true
  · rw [if_pos c] at q
    cases d <;> first | (cases c; done) | skip
    rename_i i
    cases r with
    | cons ry rt =>
    cases rt with
    | cons rz rt =>
    cases rt
    cases ry
    obtain ⟨es, ds, rfl, k2, k3, rfl⟩ := ho
    have a := look_okK i k3
    refine ⟨p, i, _, _, rfl, rfl, hu, ?_⟩
    cases e1 : dlook ((es.map fun e => PyData.int e.1).zip ds) (.int i) with
    | none =>
      cases e2 : valV (es.map fun e => (Sum.inl e.1, e.2)) (Sum.inl i : Key) with
      | none =>
        rw [e1] at q
        exact PostV.fz q s rz
      | some w => rw [e1, e2] at a; exact a.elim
    | some d =>
      cases e2 : valV (es.map fun e => (Sum.inl e.1, e.2)) (Sum.inl i : Key) with
      | none => rw [e1, e2] at a; exact a.elim
      | some w =>
        rw [e1, e2] at a
        rw [e1] at q
        exact PostV.fz q s a
  · rw [if_neg c] at q
    exact q.elim
/-- the receiver, as it is looked up -/
theorem meth_at {P F0 F : Hp} {io : Option Addr} {env : MP.Env} {σ : L2.St} {Q : VK} {m : Mt} {v : Val} {e1 : MP.Env} (q : PostV W L.K P F0 io F σ Q (evMeth f as m env)) (hf : f env = .ok (v, e1)) : ∃ x0, v.frz.look e1 = some x0 ∧ mtKd m x0 = true := by
  unfold evMeth at q
  rw [hf] at q
  simp only [R.bind_ok] at q
  cases e : v.frz.look e1 with
  | none => rw [e] at q; exact q.elim
  | some x0 =>
    rw [e] at q
    simp only [R.of_some, R.bind_ok] at q
    by_cases c : mtKd m x0 = true
    · exact ⟨x0, rfl, c⟩
    · rw [if_neg c] at q
      exact q.elim
theorem meth_exc {m : Mt} {T : String} {r : V → List V → Hp → VK → Prop} {σ : L2.St} {H : Hp} {Q : VK} {P F0 F : Hp} {io : Option Addr} {env : MP.Env} (s : StOk L.K P F0 io F env σ H) (hf : ∀ p, f env ≠ .ok p) (q : PostV W L.K P F0 io F σ Q (evMeth f as m env)) : tMeth X T r (TV W L.K f) (TAa W L.K as) σ H Q :=
  TV.goF (prV W L.K P F0 io σ Q) s q fun v e1 he x F1 H1 s1 x1 v1 q1 => absurd he (hf _)
theorem recL {F H : Hp} {x : V} {d : PyData} (K : X.K = L.K) (e : Ext F H) (h : OpOk L.K F H x d) (k : isL d = true) : Recv X "list" x H := by
  cases d <;> first | (cases k; done) | skip
  obtain ⟨p, vs, rfl, h1, h2⟩ := h.list e
  exact recv_lst (SqL.of h1)
theorem recT {F H : Hp} {x : V} {d : PyData} (K : X.K = L.K) (e : Ext F H) (h : OpOk L.K F H x d) (k : isT d = true) : Recv X "tuple" x H := by
  cases d <;> first | (cases k; done) | skip
  obtain ⟨p, vs, rfl, h1, h2⟩ := h.tupN e
  exact recv_tup (K ▸ h1)
theorem recD {b : Bool} {F H : Hp} {x : V} {d : PyData} (e : Ext F H) (h : OpOk L.K F H x d) (k : isD b d = true) : Recv X "dict" x H := by
  obtain ⟨kvs, rfl⟩ := isD_ex k
  obtain ⟨p, u, rfl, hu, ho⟩ := h.dict e
  refine recv_dic ?_
  cases b with
  | true =>
    obtain ⟨es, ws, ds, rfl, _⟩ := ho
    exact .inr ⟨es, hu⟩
  | false =>
    obtain ⟨es, ds, rfl, _⟩ := ho
    exact .inl ⟨_, hu⟩
theorem same_D {k : Bool} {a b : PyData} (h : isD k a = true) (e : sameK a b = true) : isD k b = true := by
  obtain ⟨kvs, rfl⟩ := isD_ex h
  have : ∃ kvs', b = mkD k kvs' := by
    cases b <;> first | (cases e; done) | skip
    rename_i l
    cases l <;> first | (cases e; done) | skip
    rename_i hd tl
    obtain ⟨h1, h2⟩ := hd
    cases h1 <;> first | (cases e; done) | skip
    cases h2 <;> first | (cases e; done) | skip
    rename_i c
    have e : (k == c) = true := e
    exact ⟨tl, by rw [eq_of_beq e]⟩
  obtain ⟨kvs', rfl⟩ := this
  exact beq_self_eq_true k
theorem kd_D {m : Mt} (h : m = .get1 ∨ m = .get2) (d : PyData) (e : mtKd m d = true) : isD true d = true ∨ isD false d = true := by
  have : ∃ b kvs, d = .dict ((.bool b, .none) :: kvs) := by
    rcases h with rfl | rfl
    all_goals
      cases d <;> first | (cases e; done) | skip
      rename_i l
      cases l <;> first | (cases e; done) | skip
      rename_i hd tl
      obtain ⟨h1, h2⟩ := hd
      cases h1 <;> first | (cases e; done) | skip
      cases h2 <;> first | (cases e; done) | skip
      exact ⟨_, _, rfl⟩
  obtain ⟨b, kvs, rfl⟩ := this
  cases b
  · exact .inr rfl
  · exact .inl rfl
theorem star_allN {es : List Expr} (hs : ∀ e ∈ es, ∀ x q, e ≠ .Starred x q) (p : Pos) (env : PySem.Env) : (backTo p (starEach es env)).all (fun x => !x.1) = true := by
  have := star_any hs p env
  rw [List.any_eq_false] at this
  rw [List.all_eq_true]
  intro z hz
  have := this z hz
  simpa using this
theorem pe_m1 {m : Mt} {T id : String} {x : Expr} {es : List Expr} {apos cpos : Pos} {r : V → List V → Hp → VK → Prop} (K : X.K = L.K) (pa : PlainAttrs T) (slot : PySem.Slot T (mtName m) id) (hty : typeOf (.builtin id) = pure (.type "method_descriptor")) (hm : MtR X id r) (hx : PE X x (TV W L.K f)) (hb : attributeBase x (mtName m) X.env (eval x X.env) = eval x X.env) (hl : (apos.endLine == cpos.line) = true)
    (ha : PA X es (TAa W L.K as)) (hne : es ≠ []) (hn : es.length ≤ 3) (hs : ∀ e ∈ es, ∀ y q, e ≠ .Starred y q) : PE X (.Call (.Attribute x (mtName m) apos) es [] cpos) (tMeth X T r (TV W L.K f) (TAa W L.K as)) := by
  match es, hne, ha, hs, hn with
  | e :: es, _, ha, hs, hn =>
  exact pe_methN pa slot hty hm hx ha hb hl (by have : es.length + 1 ≤ 3 := hn; omega) hs (star_cons (hs e (by simp)) es X.env) (star_allN hs cpos X.env)
theorem pe_methE (o : XOk L N n cl sc W X) {m : Mt} {x : Expr} {es : List Expr} {apos cpos : Pos} (hx : PE X x (TV W L.K f)) (hb : attributeBase x (mtName m) X.env (eval x X.env) = eval x X.env) (hl : (apos.endLine == cpos.line) = true) (ha : PA X es (TAa W L.K as)) (hne : es ≠ []) (hn : es.length ≤ 3) (hs : ∀ e ∈ es, ∀ y q, e ≠ .Starred y q) :
    PE X (.Call (.Attribute x (mtName m) apos) es [] cpos) (TV W L.K (evMeth f as m)) := by
  have K := o.hK
  have hu : X.A.units + 1 < cLine := by have := o.room.units; omega
  have two : ∀ {T T' id id' : String} {r r' : V → List V → Hp → VK → Prop} {k1 k2 : PyData → Bool}, (PE X (.Call (.Attribute x (mtName m) apos) es [] cpos) (tMeth X T r (TV W L.K f) (TAa W L.K as))) → (PE X (.Call (.Attribute x (mtName m) apos) es [] cpos) (tMeth X T' r' (TV W L.K f) (TAa W L.K as))) →
      MSem W L.K r (methD m) k1 → MSem W L.K r' (methD m) k2 → (∀ {a b : PyData}, k1 a = true → sameK a b = true → k1 b = true) → (∀ {a b : PyData}, k2 a = true → sameK a b = true → k2 b = true) →
      (∀ {F H : Hp} {x : V} {d : PyData}, Ext F H → OpOk L.K F H x d → k1 d = true → Recv X T x H) → (∀ {F H : Hp} {x : V} {d : PyData}, Ext F H → OpOk L.K F H x d → k2 d = true → Recv X T' x H) → (∀ d, mtKd m d = true → k1 d = true ∨ k2 d = true) →
      PE X (.Call (.Attribute x (mtName m) apos) es [] cpos) (TV W L.K (evMeth f as m)) := by
    intro T T' id id' r r' k1 k2 p1 p2 m1 m2 s1 s2 c1 c2 hk
    refine PE.imp (PE.either p1 p2) ?_
    rintro σ H Q ⟨P, F0, io, F, env, s, q⟩
    cases hf : f env with
    | stuck => exact .inl (meth_exc s (fun p e => by rw [hf] at e; cases e) q)
    | exc c => exact .inl (meth_exc s (fun p e => by rw [hf] at e; cases e) q)
    | ok p =>
      obtain ⟨x0, h0, hk0⟩ := meth_at q hf
      rcases hk x0 hk0 with k | k
      · exact .inl (meth_go m1 s1 c1 s hf h0 k hk0 q)
      · exact .inr (meth_go m2 s2 c2 s hf h0 k hk0 q)
  cases m with
  | index =>
    refine two (T := "list") (T' := "tuple") (id := "") (id' := "") (pe_m1 K PySem.F.plainAttrs_list PySem.F.slot_list_index rfl (K ▸ mt_index) hx hb hl ha hne hn hs) (pe_m1 K PySem.F.plainAttrs_tuple PySem.F.slot_tuple_index rfl (K ▸ mt_tupIx) hx hb hl ha hne hn hs) ms_ixL ms_ixT (fun a b => same_L b a) (fun a b => same_T b a) (recL K) (recT K) (fun d h => by cases d <;> first | (cases h; done) | exact .inl rfl | exact .inr rfl)
  | count =>
    refine two (T := "list") (T' := "list") (id := "") (id' := "") (pe_m1 K PySem.F.plainAttrs_list PySem.F.slot_list_count rfl (K ▸ mt_lcount) hx hb hl ha hne hn hs) (pe_m1 K PySem.F.plainAttrs_list PySem.F.slot_list_count rfl (K ▸ mt_lcount) hx hb hl ha hne hn hs) ms_cnt ms_cnt (fun a b => same_L b a) (fun a b => same_L b a) (recL K) (recL K) (fun d h => by cases d <;> first | (cases h; done) | exact .inl rfl)
  | get1 =>
    refine two (T := "dict") (T' := "dict") (id := "") (id' := "") (pe_m1 K PySem.F.plainAttrs_dict PySem.F.slot_dict_get rfl (K ▸ mt_g1T hu) hx hb hl ha hne hn hs) (pe_m1 K PySem.F.plainAttrs_dict PySem.F.slot_dict_get rfl (mt_g1K hu) hx hb hl ha hne hn hs) ms_g1T ms_g1K same_D same_D recD recD (kd_D (.inl rfl))
  | get2 =>
    refine two (T := "dict") (T' := "dict") (id := "") (id' := "") (pe_m1 K PySem.F.plainAttrs_dict PySem.F.slot_dict_get rfl (K ▸ mt_g2T hu) hx hb hl ha hne hn hs) (pe_m1 K PySem.F.plainAttrs_dict PySem.F.slot_dict_get rfl (mt_g2K hu) hx hb hl ha hne hn hs) ms_g2T ms_g2K same_D same_D recD recD (kd_D (.inr rfl))
theorem pe_revE {p1 p2 p3 : Pos} {kk : Nat} (K : X.K = L.K) (ha : PE X a (TV W L.K f)) : PE X (.Subscript a (.Slice none none (some (.UnaryOp .USub (.Constant (.int 1) kk p1) p2)) p3) pos) (TV W L.K (ev1 f revD)) := by
  refine PE.imp (PE.either (pe_revN ha) (pe_revL ha)) ?_
  rw [K]
  rintro σ H Q ⟨P, F0, io, F, env, s, q⟩
  by_cases c : ∃ p xs, f env = .ok p ∧ p.1.frz.look p.2 = some (.tuple xs)
  · obtain ⟨p, xs, hf, hl⟩ := c
    refine .inl (TV.goF (prV W L.K P F0 io σ Q) s q fun v e1 he x F1 H1 s1 x1 v1 q1 => ?_)
    rw [hf] at he
    cases he
    obtain ⟨d, l1, q2⟩ := PR.of q1
    rw [hl] at l1
    cases l1
    obtain ⟨p, vs, rfl, h1, h2⟩ := (VOk.look s1 v1 hl).tuple s1.fH
    exact ⟨p, vs, rfl, h1, fun p o hp ho => PostV.tup (W := W) q2 s1 h2.reverse hp ho⟩
  · refine .inr (TV.goF (prV W L.K P F0 io σ Q) s q fun v e1 he x F1 H1 s1 x1 v1 q1 => ?_)
    obtain ⟨d, l1, q2⟩ := PR.of q1
    cases d with
    | tuple xs => exact absurd ⟨_, _, he, l1⟩ c
    | list xs =>
      obtain ⟨p, vs, rfl, h1, h2⟩ := (VOk.look s1 v1 l1).list s1.fH
      exact ⟨p, vs, rfl, SqL.of h1, fun p hp => PostV.lst (W := W) q2 s1 h2.reverse hp⟩
    | _ => exact q2.elim
/-! ### list(range(..)), tuple(range(..)) -/
def tRgA (ta : TA) : L2.St → Hp → (Int → Int → Hp → Prop) → Prop := fun σ H Q => ta σ H fun xs H1 => (∃ n, xs = [.int n] ∧ Q 0 n H1) ∨ ∃ i j, xs = [.int i, .int j] ∧ Q i j H1
theorem rg_end {pins : List (Addr × Obj)} {s : Shared} {σ : L2.St} {H : Hp} {xs : List V} {us : List Value} {Q : Int → Int → Hp → Prop} (I : Inv X pins σ H s) (r : Vals xs us) (q : (∃ n, xs = [.int n] ∧ Q 0 n H) ∨ ∃ i j, xs = [.int i, .int j] ∧ Q i j H) :
    wpAny (model X.prog X.w) X.A (call (.type "range") us) (fun x s' => ∃ r a b t u v H', x = .ref r ∧ IsRange s'.heap r a b 1 t u v ∧ Inv X pins σ H' s' ∧ Q a b H') X.xe s := by
  rcases q with ⟨n, rfl, q⟩ | ⟨i, j, rfl, q⟩
  · cases r with
    | cons r1 rr =>
      cases rr
      obtain ⟨t, rfl⟩ := r1
      exact call_range_1 ⟨_, 0, n, _, _, _, H, rfl, IsRange.new _ _ _ _ _ _ _, I.kept fun b u e => Heap.get?_push_of_some _ e, q⟩
  · cases r with
    | cons r1 rr =>
      cases rr with
      | cons r2 rr =>
        cases rr
        obtain ⟨t, rfl⟩ := r1
        obtain ⟨t', rfl⟩ := r2
        exact call_range_2 ⟨_, i, j, _, _, _, H, rfl, IsRange.new _ _ _ _ _ _ _, I.kept fun b u e => Heap.get?_push_of_some _ e, q⟩
theorem prgA {es : List Expr} {ta : TA} {p pos : Pos} (hg : Gl X "range") (hm : X.mg "range" = none) (ha : PA X es ta) (hne : es ≠ []) (hl : es.length ≤ 2) (hs : ∀ e ∈ es, ∀ y q, e ≠ .Starred y q) : PRg X (.Call (.Name "range" p) es [] pos) (tRgA ta) := by
  match es, hne, ha, hs, hl with
  | [a], _, ha, hs, _ =>
    intro pins s σ H Q I h
    exact Call_ (ld_blt I hg hm boot_range (PyProof.Rows.callWith_type1 (thn (ha.run pos pins s σ H _ I h) fun us s1 ⟨xs, H1, I1, r1, q1⟩ => rg_end I1 r1 q1) (star_cons (hs a (by simp)) [] X.env) rfl))
  | [a, b], _, ha, hs, _ =>
    intro pins s σ H Q I h
    have hb := star_cons (hs b (by simp)) [] X.env
    refine Call_ (ld_blt I hg hm boot_range (PyProof.Rows.callWith_type1 (thn (ha.run pos pins s σ H _ I h) fun us s1 ⟨xs, H1, I1, r1, q1⟩ => rg_end I1 r1 q1) ((star_cons (hs a (by simp)) [b] X.env).trans (by rw [hb] <;> rfl)) (by rw [hb] <;> rfl)))
  | _ :: _ :: _ :: _, _, _, _, hl => exact absurd hl (by simp)
def tTupRgN (te : L2.St → Hp → (Int → Int → Hp → Prop) → Prop) : TE := fun σ H Q => te σ H fun a b H1 => RgOk a b ∧ ∀ q o, H1 q = none → o.dict = none → Q (.ref q) (upd H1 q (.frz o (.tup (rgV a b))))
theorem pe_tupRgN {e : Expr} {te : L2.St → Hp → (Int → Int → Hp → Prop) → Prop} {p pos : Pos} (hc : X.calm = true) (hg : Gl X "tuple") (hm : X.mg "tuple" = none) (he : PRg X e te) (na : starEach [e] X.env = (false, eval e X.env) :: starEach [] X.env := by rfl) : PE X (.Call (.Name "tuple" p) [e] [] pos) (tTupRgN te) := by
  refine ⟨fun pins s σ H Q I h => ?_⟩
  refine Call_ (ld_blt I hg hm boot_tuple (PyProof.Rows.callWith_type1 (args_cons (thn (he pins s σ H _ I h) fun x s1 ⟨r, a, b, t, u, v, H1, ex, hr, I1, ok, q⟩ => args_nil ?_) na) na))
  subst ex
  obtain ⟨b1, b2, b3, b4, b5⟩ := ok
  refine call_tuple_range (n := (b - a).toNat) (I1.ok.hd hc) hr (small_one b1 b2 b3 b4) (rangeSize_nat a b) b5 fun h' tk acc hk hi => ?_
  have I2 : Inv X pins σ H1 { s1 with heap := h', toks := tk } := I1.kept hk
  have hv := vals_rg hi
  have := laidP I2 hv (by rw [rgV_length, sizeLine_eq]; omega) q
  rw [show tupO acc.toList = { cls := .type "tuple", data := .seq acc } by unfold tupO; simp] at this
  exact this
theorem rg_data {K : PySem.W.Frag} {F : Hp} (a b : Int) : RpA K F (rgV a b) (rangeD a b) := by
  have e1 : rgV a b = ((List.range (b - a).toNat).map fun k : Nat => a + (k : Int)).map V.int := by
    unfold rgV
    rw [List.map_map]
    rfl
  have e2 : rangeD a b = ((List.range (b - a).toNat).map fun k : Nat => a + (k : Int)).map PyData.int := by
    unfold rangeD
    rw [List.map_map]
    rfl
  rw [e1, e2]
  exact RpA.of_ints _
theorem rgD_two (tp : Bool) (ds : List PyData) : rgD tp ds = .stuck ∨ (∃ j, ds = [.int j] ∧ (-1000000 ≤ j ∧ j ≤ 1000000) ∧ rgD tp ds = .ok (if tp then .fz (.tuple (rangeD 0 j)) else .fr (rangeD 0 j))) ∨
    ∃ i j, ds = [.int i, .int j] ∧ (-1000000 ≤ i ∧ i ≤ 1000000 ∧ -1000000 ≤ j ∧ j ≤ 1000000) ∧ rgD tp ds = .ok (if tp then .fz (.tuple (rangeD i j)) else .fr (rangeD i j)) := by
  unfold rgD
  split
  · rename_i j
    by_cases c : -1000000 ≤ j ∧ j ≤ 1000000
    · exact .inr (.inl ⟨j, rfl, c, if_pos c⟩)
    · exact .inl (if_neg c)
  · rename_i i j
    by_cases c : -1000000 ≤ i ∧ i ≤ 1000000 ∧ -1000000 ≤ j ∧ j ≤ 1000000
    · exact .inr (.inr ⟨i, j, rfl, c, if_pos c⟩)
    · exact .inl (if_neg c)
  · exact .inl rfl
theorem pe_rgE (o : XOk L N n cl sc W X) {tp : Bool} {x y : Str} {es : List Expr} {p1 p2 p3 p4 : Pos} (hx : x = if tp then "tuple" else "list") (hgx : globOk sc x = true) (hy : y = "range") (hgy : globOk sc y = true) (ha : PA X es (TAa W L.K as)) (hne : es ≠ []) (hl : es.length ≤ 2) (hs : ∀ e ∈ es, ∀ y q, e ≠ .Starred y q) :
    PE X (.Call (.Name x p1) [.Call (.Name y p2) es [] p3] [] p4) (TV W L.K (evFz as (kRg tp))) := by
  subst hy
  obtain ⟨g1, g2, g3⟩ := o.gl hgy
  obtain ⟨f1, f2, f3⟩ := o.gl hgx
  have he := prgA (p := p2) (pos := p3) g1 (o.bl (by decide +kernel)) ha hne hl hs
  have go : ∀ {σ : L2.St} {H : Hp} {P F0 F : Hp} {io : Option Addr} {env : MP.Env} {Q : VK} {Q' : Int → Int → Hp → Prop}, StOk L.K P F0 io F env σ H → PostV W L.K P F0 io F σ Q (evFz as (kRg tp) env) →
      (∀ {i j : Int} {F1 H1 : Hp} {e1 : MP.Env}, StOk L.K P F0 io F1 e1 σ H1 → RgOk i j → PostV W L.K P F0 io F1 σ Q (.ok ((if tp then .fz (.tuple (rangeD i j)) else .fr (rangeD i j)), e1)) → Q' i j H1) → tRgA (TAa W L.K as) σ H Q' := by
    intro σ H P F0 F io env Q Q' s q k
    refine TAa.go (prV W L.K P F0 io σ Q) s q fun vs e1 _ xs F1 H1 s1 x1 v1 q1 => ?_
    obtain ⟨ds, hd, q2⟩ := PR.of q1
    have r := VsOk.fz v1 hd
    have q2 : PostV W L.K P F0 io F1 σ Q ((rgD tp ds).bind fun v => .ok (v, e1)) := q2
    rcases rgD_two tp ds with e | ⟨j, rfl, c, e⟩ | ⟨i, j, rfl, c, e⟩
    · rw [e] at q2
      exact q2.elim
    · rw [e] at q2
      cases r with
      | cons r1 rr =>
        cases rr
        cases r1
        exact .inl ⟨j, rfl, k s1 ⟨by omega, by omega, by omega, by omega, by omega⟩ q2⟩
    · rw [e] at q2
      cases r with
      | cons r1 rr =>
        cases rr with
        | cons r2 rr =>
          cases rr
          cases r1
          cases r2
          exact .inr ⟨i, j, rfl, k s1 ⟨by omega, by omega, by omega, by omega, by omega⟩ q2⟩
  cases tp with
  | true =>
    obtain rfl : x = "tuple" := hx
    refine PE.imp (pe_tupRgN o.calm f1 (o.bl (by decide +kernel)) he) ?_
    rintro σ H Q ⟨P, F0, io, F, env, s, q⟩
    exact go s q fun {i j F1 H1 e1} s1 ok q1 => ⟨ok, fun p ob hp ho => PostV.tup (W := W) q1 s1 (rg_data i j) hp ho⟩
  | false =>
    obtain rfl : x = "list" := hx
    refine PE.imp (pe_listRg o.calm f1 (o.bl (by decide +kernel)) he) ?_
    rintro σ H Q ⟨P, F0, io, F, env, s, q⟩
    exact go s q fun {i j F1 H1 e1} s1 ok q1 => ⟨ok, fun p hp => PostV.lst (W := W) q1 s1 (rg_data i j) hp⟩
end
end MP

/-! Mini, part C9: every term that a text has the form of has its reading. -/
set_option linter.all false
set_option Elab.async false
set_option maxRecDepth 100000
set_option maxHeartbeats 4000000
namespace MP
open PySem PySem.Spec PyProof.Rows L2
structure SndE (L : Wld) (n : Nat) (cl : Cl) (m : E) : Prop where
  vt : ∀ {N : List Str} {sc : Scope} {W : WX0} {X : Cx} {e : Expr}, XOk L N n cl sc W X → chk L.T N m sc (.e e) = true → PE X e (TV W L.K (ev cl L.gb m).v) ∧ PT X e (TTt W L.K (ev cl L.gb m).t)
  a : ∀ {N : List Str} {sc : Scope} {W : WX0} {X : Cx} {es : List Expr}, XOk L N n cl sc W X → chk L.T N m sc (.es es) = true → PA X es (TAa W L.K (ev cl L.gb m).a) ∧ ArgN (ev cl L.gb m).a es.length ∧ ∀ e ∈ es, ∀ x q, e ≠ .Starred x q
section
variable {L : Wld} {n : Nat} {cl : Cl} {N : List Str} {sc : Scope} {W : WX0} {X : Cx} {e : Expr}
theorem chk_set {T : Tb} {m : E} (h : chk T N m sc (.e e) = true) : (∀ x y z, e ≠ .Set x y z) ∧ (∀ x y z p, e ≠ .Slice x y z p) := by
  constructor
  · rintro x y z rfl
    cases m <;> (unfold chk at h; first | cases h | (simp at h; done) | (dsimp only at h; cases h))
  · rintro x y z p rfl
    cases m <;> (unfold chk at h; first | cases h | (simp at h; done) | (dsimp only at h; cases h))
theorem pe_notE (K : X.K = L.K) {x : Expr} {pos : Pos} {f : MP.Env → R (Val × MP.Env)} (ha : PE X x (TV W L.K f)) : PE X (.UnaryOp .Not x pos) (TV W L.K (ev1 f notD)) := by
  refine PE.imp (pe_notT ha) ?_
  rw [K]
  rintro σ H Q ⟨P, F0, io, F, env, s, q⟩
  refine TV.goF (prV W L.K P F0 io σ Q) s q fun v e1 _ x F1 H1 s1 x1 v1 q1 => ?_
  obtain ⟨d, l1, q2⟩ := PR.of q1
  have q2 : PostV W L.K P F0 io F1 σ Q (((truthD d).bind fun b => R.ok (Val.fz (.bool (!b)))).bind fun v => .ok (v, e1)) := q2
  cases ht : truthD d with
  | stuck => rw [ht] at q2; exact q2.elim
  | exc c => cases d <;> cases ht
  | ok b =>
    rw [ht] at q2
    exact ⟨b, truth_of s1.fH (VOk.look s1 v1 l1) ht, PostV.fz (W := W) q2 s1 (.bl _)⟩
/-- no argument list -/
theorem no_es {T : Tb} {m : E} (hm : ∀ t, (∃ l, t = Tx.es l) → chk T N m sc t = false) {es : List Expr} (h : chk T N m sc (.es es) = true) {Pr : Prop} : Pr := by
  rw [hm _ ⟨_, rfl⟩] at h
  cases h
theorem isCD_plain {e : Expr} (h : isCD e = true) : Plain e := by
  cases e <;> first | (cases h; done) | exact fun _ _ => rfl
theorem vt_of {f : MP.Env → R (Val × MP.Env)} (o : XOk L N n cl sc W X) (h : PE X e (TV W L.K f)) (p : Plain e) : PE X e (TV W L.K (Ev4.of f).v) ∧ PT X e (TTt W L.K (Ev4.of f).t) := ⟨h, pt_plain o.hK h p⟩
/-- an end of a slice -/
theorem po_of {m : E} (S : SndE L n cl m) (o : XOk L N n cl sc W X) {l : Option Expr} (h : (match l with
      | none => isNo m
      | some y => chk L.T N m sc (.e y)) = true) : PO X l (TOo W L.K (ev cl L.gb m).o) := by
  cases l with
  | none =>
    cases m <;> simp only [isNo] at h <;> first | (cases h; done) | skip
    exact po_noneE
  | some y =>
    have v := (S.vt o h).1
    have key : (ev cl L.gb m).o = endOf (ev cl L.gb m).v ∨ ∀ env, (ev cl L.gb m).o env = .stuck := by
      cases m <;> first | exact .inl rfl | exact .inr fun _ => rfl | (simp [chk] at h)
    rcases key with k | k
    · rw [k]
      exact po_someE v
    · refine ⟨fun pins s σ H Q I q => ?_⟩
      obtain ⟨P, F0, io, F, env, st, q⟩ := q
      rw [k] at q
      exact q.elim
/-- what is walked -/
theorem pi_of {m : E} (S : SndE L n cl m) (o : XOk L N n cl sc W X) {ik : Ik} {tg iter : Expr} (h : chkIt (fun s t => chk L.T N m s t) sc ik tg iter = true) : PI X tg iter (TIi W L.K (isTup tg) (itE ik (ev cl L.gb m).v (ev cl L.gb m).a)) ∧ ∀ (env : PySem.Env) x, foldedSetIterable iter env x = pure x := by
  cases ik with
  | seq =>
    have h : chk L.T N m sc (.e iter) = true := h
    refine ⟨pi_seq o.hK (S.vt o h).1, fun env x => ?_⟩
    have := (chk_set h).1
    cases iter <;> first | rfl | exact absurd rfl (this _ _ _)
  | rng =>
    simp only [chkIt] at h
    split at h <;> first | (cases h; done) | skip
    simp only [Bool.and_eq_true, decide_eq_true_eq, Bool.not_eq_true'] at h
    obtain ⟨⟨⟨⟨rfl, h2⟩, h3⟩, h4⟩, h5⟩ := h
    obtain ⟨s1, s2, s3⟩ := S.a o h5
    exact ⟨pi_rng o (o.gl h2).1 s1 s2 s3 (fun z => by rw [z] at h3; cases h3) h4, fun _ _ => rfl⟩
  | enum =>
    simp only [chkIt] at h
    split at h <;> first | (cases h; done) | skip
    simp only [Bool.and_eq_true, decide_eq_true_eq] at h
    obtain ⟨⟨⟨rfl, h2⟩, h3⟩, h4⟩ := h
    obtain ⟨s1, s2, s3⟩ := S.a o h4
    cases tg <;> first | (cases h3; done) | skip
    exact ⟨pi_enumA o (o.gl h2).1 s1 s2 (s3 _ (by simp)), fun _ _ => rfl⟩
  | zip =>
    simp only [chkIt] at h
    split at h <;> first | (cases h; done) | skip
    simp only [Bool.and_eq_true, decide_eq_true_eq] at h
    obtain ⟨⟨⟨rfl, h2⟩, h3⟩, h4⟩ := h
    obtain ⟨s1, s2, s3⟩ := S.a o h4
    cases tg <;> first | (cases h3; done) | skip
    exact ⟨pi_zipE o (o.gl h2).1 s1 s2 (s3 _ (by simp)) (s3 _ (by simp)), fun _ _ => rfl⟩
  | rev =>
    simp only [chkIt] at h
    split at h <;> first | (cases h; done) | skip
    simp only [Bool.and_eq_true, decide_eq_true_eq] at h
    obtain ⟨⟨rfl, h2⟩, h4⟩ := h
    obtain ⟨s1, s2, s3⟩ := S.a o h4
    exact ⟨pi_revE o (o.gl h2).1 s1 s2 (s3 _ (by simp)), fun _ _ => rfl⟩
  | items =>
    simp only [chkIt] at h
    split at h <;> first | (cases h; done) | skip
    simp only [Bool.and_eq_true, decide_eq_true_eq] at h
    obtain ⟨⟨⟨rfl, h2⟩, h3⟩, h4⟩ := h
    cases tg <;> first | (cases h3; done) | skip
    exact ⟨pi_itemsE o.hK (S.vt o h4).1 (chk_base h4 _ _ _) h2, fun _ _ => rfl⟩
theorem argN_cons {f : MP.Env → R (Val × MP.Env)} {as : MP.Env → R (List Val × MP.Env)} {k : Nat} (h : ArgN as k) : ArgN (evCons f as) (k + 1) := fun env vs e1 e => by
  unfold evCons at e
  cases h1 : f env with
  | stuck => rw [h1] at e; cases e
  | exc c => rw [h1] at e; cases e
  | ok p =>
    rw [h1] at e
    simp only [R.bind_ok] at e
    cases h2 : as p.2 with
    | stuck => rw [h2] at e; cases e
    | exc c => rw [h2] at e; cases e
    | ok q =>
      rw [h2] at e
      cases e
      simp [h _ _ _ h2]
end
theorem snd (L : Wld) (n : Nat) (cl : Cl) : ∀ m : E, SndE L n cl m
  | .cst d => ⟨fun {N sc W X e} o h => by
      simp only [chk] at h
      split at h <;> first | (cases h; done) | skip
      rename_i e'
      cases e'
      exact vt_of o (pe_cst h) fun _ _ => rfl, fun o h => no_es (fun t ⟨l, z⟩ => by subst z; rfl) h⟩
  | .glob g => ⟨fun {N sc W X e} o h => by
      simp only [chk] at h
      split at h <;> first | (cases h; done) | skip
      rename_i e'
      cases e'
      simp only [Bool.and_eq_true, decide_eq_true_eq] at h
      exact vt_of o (pe_glb o h.1 h.2) fun _ _ => rfl, fun o h => no_es (fun t ⟨l, z⟩ => by subst z; rfl) h⟩
  | .var i => ⟨fun {N sc W X e} o h => by
      simp only [chk] at h
      split at h <;> first | (cases h; done) | skip
      rename_i e'
      cases e'
      exact vt_of o (pe_readVar o h) fun _ _ => rfl, fun o h => no_es (fun t ⟨l, z⟩ => by subst z; rfl) h⟩
  | .peek i => ⟨fun {N sc W X e} o h => by
      simp only [chk] at h
      split at h <;> first | (cases h; done) | skip
      rename_i e'
      cases e'
      exact vt_of o (pe_readPeek o h) fun _ _ => rfl, fun o h => no_es (fun t ⟨l, z⟩ => by subst z; rfl) h⟩
  | .bin op a b => ⟨fun {N sc W X e} o h => by
      simp only [chk] at h
      split at h <;> first | (cases h; done) | skip
      rename_i e'
      cases e'
      simp only [Bool.and_eq_true, decide_eq_true_eq] at h
      obtain ⟨⟨rfl, h1⟩, h2⟩ := h
      exact vt_of o (pe_bin o ((snd L n cl a).vt o h1).1 ((snd L n cl b).vt o h2).1) fun _ _ => rfl, fun o h => no_es (fun t ⟨l, z⟩ => by subst z; rfl) h⟩
  | .neg a => ⟨fun {N sc W X e} o h => by
      simp only [chk] at h
      split at h <;> first | (cases h; done) | skip
      rename_i e'
      cases e'
      exact vt_of o (pe_neg1 ((snd L n cl a).vt o h).1) fun _ _ => rfl, fun o h => no_es (fun t ⟨l, z⟩ => by subst z; rfl) h⟩
  | .cmp op a b => ⟨fun {N sc W X e} o h => by
      simp only [chk] at h
      split at h <;> first | (cases h; done) | skip
      rename_i e'
      cases e'
      simp only [Bool.and_eq_true, decide_eq_true_eq] at h
      obtain ⟨⟨rfl, h1⟩, h2⟩ := h
      have a1 := ((snd L n cl a).vt o h1).1
      have b1 := ((snd L n cl b).vt o h2).1
      exact ⟨pe_cmpE o a1 b1 (chk_set h2).1, pt_cmpE o a1 b1 (chk_set h2).1⟩, fun o h => no_es (fun t ⟨l, z⟩ => by subst z; rfl) h⟩
  | .chn o1 o2 a b c => ⟨fun {N sc W X e} o h => by
      simp only [chk] at h
      split at h <;> first | (cases h; done) | skip
      rename_i e'
      cases e'
      simp only [Bool.and_eq_true, decide_eq_true_eq] at h
      obtain ⟨⟨⟨⟨rfl, rfl⟩, h1⟩, h2⟩, h3⟩ := h
      have a1 := ((snd L n cl a).vt o h1).1
      have b1 := ((snd L n cl b).vt o h2).1
      have c1 := ((snd L n cl c).vt o h3).1
      exact ⟨pe_chnE o a1 b1 c1 (chk_set h3).1, pt_chnE o a1 b1 c1 (chk_set h3).1⟩, fun o h => no_es (fun t ⟨l, z⟩ => by subst z; rfl) h⟩
  | .and a b => ⟨fun {N sc W X e} o h => by
      simp only [chk] at h
      split at h <;> first | (cases h; done) | skip
      · rename_i e'
        cases e'
        simp only [Bool.and_eq_true] at h
        have a1 := (snd L n cl a).vt o h.1
        have b1 := (snd L n cl b).vt o h.2
        exact ⟨pe_andE a1.1 (pe_one b1.1), pt_andE a1.2 (pw_and1 b1.2)⟩
      · rename_i e'
        cases e'
        simp only [Bool.and_eq_true] at h
        have a1 := (snd L n cl a).vt o h.1
        have b1 := (snd L n cl b).vt o h.2
        exact ⟨pe_andE a1.1 b1.1, pt_andE a1.2 (pw_bool b1.2)⟩, fun o h => no_es (fun t ⟨l, z⟩ => by subst z; rfl) h⟩
  | .or a b => ⟨fun {N sc W X e} o h => by
      simp only [chk] at h
      split at h <;> first | (cases h; done) | skip
      · rename_i e'
        cases e'
        simp only [Bool.and_eq_true] at h
        have a1 := (snd L n cl a).vt o h.1
        have b1 := (snd L n cl b).vt o h.2
        exact ⟨pe_orE a1.1 (pe_one b1.1), pt_orE a1.2 (pw_or1 b1.2)⟩
      · rename_i e'
        cases e'
        simp only [Bool.and_eq_true] at h
        have a1 := (snd L n cl a).vt o h.1
        have b1 := (snd L n cl b).vt o h.2
        exact ⟨pe_orE a1.1 b1.1, pt_orE a1.2 (pw_bool b1.2)⟩, fun o h => no_es (fun t ⟨l, z⟩ => by subst z; rfl) h⟩
  | .orV a b => ⟨fun {N sc W X e} o h => by
      simp only [chk] at h
      split at h <;> first | (cases h; done) | skip
      rename_i e'
      cases e'
      simp only [Bool.and_eq_true] at h
      refine ⟨pe_orTE o.hK ((snd L n cl a).vt o h.1).1 ((snd L n cl b).vt o h.2).1, ⟨fun pins s σ H Q I q => ?_⟩⟩
      obtain ⟨P, F0, io, F, env, st, q⟩ := q
      exact q.elim, fun o h => no_es (fun t ⟨l, z⟩ => by subst z; rfl) h⟩
  | .not a => ⟨fun {N sc W X e} o h => by
      simp only [chk] at h
      split at h <;> first | (cases h; done) | skip
      rename_i e'
      cases e'
      have a1 := (snd L n cl a).vt o h
      exact ⟨pe_notE o.hK a1.1, pt_notE a1.2⟩, fun o h => no_es (fun t ⟨l, z⟩ => by subst z; rfl) h⟩
  | .ite c a b => ⟨fun {N sc W X e} o h => by
      simp only [chk] at h
      split at h <;> first | (cases h; done) | skip
      rename_i e'
      cases e'
      simp only [Bool.and_eq_true] at h
      obtain ⟨⟨h1, h2⟩, h3⟩ := h
      refine ⟨pe_iteE ((snd L n cl c).vt o h1).2 ((snd L n cl a).vt o h2).1 ((snd L n cl b).vt o h3).1, ⟨fun pins s σ H Q I q => ?_⟩⟩
      obtain ⟨P, F0, io, F, env, st, q⟩ := q
      exact q.elim, fun o h => no_es (fun t ⟨l, z⟩ => by subst z; rfl) h⟩
  | .tup as => ⟨fun {N sc W X e} o h => by
      simp only [chk] at h
      split at h <;> first | (cases h; done) | skip
      rename_i e'
      cases e'
      exact vt_of o (pe_tupE ((snd L n cl as).a o h).1) fun _ _ => rfl, fun o h => no_es (fun t ⟨l, z⟩ => by subst z; rfl) h⟩
  | .lst as => ⟨fun {N sc W X e} o h => by
      simp only [chk] at h
      split at h <;> first | (cases h; done) | skip
      rename_i e'
      cases e'
      exact vt_of o (pe_lstE ((snd L n cl as).a o h).1) fun _ _ => rfl, fun o h => no_es (fun t ⟨l, z⟩ => by subst z; rfl) h⟩
  | .dct0 k => ⟨fun {N sc W X e} o h => by
      simp only [chk] at h
      split at h <;> first | (cases h; done) | skip
      rename_i e'
      cases e'
      exact vt_of o pe_dct0E fun _ _ => rfl, fun o h => no_es (fun t ⟨l, z⟩ => by subst z; rfl) h⟩
  | .dct1 k a b => ⟨fun {N sc W X e} o h => by
      simp only [chk] at h
      split at h <;> first | (cases h; done) | skip
      rename_i e'
      cases e'
      simp only [Bool.and_eq_true] at h
      exact vt_of o (pe_dct1E o ((snd L n cl a).vt o h.1).1 ((snd L n cl b).vt o h.2).1) fun _ _ => rfl, fun o h => no_es (fun t ⟨l, z⟩ => by subst z; rfl) h⟩
  | .frzd a => ⟨fun {N sc W X e} o h => by
      simp only [chk, Bool.and_eq_true] at h
      exact vt_of o (pe_frzdE ((snd L n cl a).vt o h.2).1) (isCD_plain h.1), fun o h => no_es (fun t ⟨l, z⟩ => by subst z; rfl) h⟩
  | .rg tp as => ⟨fun {N sc W X e} o h => by
      simp only [chk] at h
      split at h <;> first | (cases h; done) | skip
      rename_i e'
      cases e'
      simp only [Bool.and_eq_true, decide_eq_true_eq, Bool.not_eq_true'] at h
      obtain ⟨⟨⟨⟨⟨⟨h1, h2⟩, h3⟩, h4⟩, h5⟩, h6⟩, h7⟩ := h
      obtain ⟨b1, b2, b3⟩ := (snd L n cl as).a o h7
      exact vt_of o (pe_rgE o h1 h2 h3 h4 b1 (fun z => by rw [z] at h5; cases h5) h6 b3) fun _ _ => rfl, fun o h => no_es (fun t ⟨l, z⟩ => by subst z; rfl) h⟩
  | .rev a => ⟨fun {N sc W X e} o h => by
      simp only [chk] at h
      split at h <;> first | (cases h; done) | skip
      rename_i e'
      cases e'
      exact vt_of o (pe_revE o.hK ((snd L n cl a).vt o h).1) fun _ _ => rfl, fun o h => no_es (fun t ⟨l, z⟩ => by subst z; rfl) h⟩
  | .no => ⟨fun o h => by simp [chk] at h, fun o h => by simp [chk] at h⟩
  | .nil => ⟨fun o h => by simp [chk] at h, fun {N sc W X es} o h => by
      simp only [chk] at h
      split at h <;> first | (cases h; done) | skip
      rename_i e'
      cases e'
      exact ⟨pa_nilE, fun env vs e1 e => by cases e; rfl, fun _ z => by cases z⟩⟩
  | .cons a as => ⟨fun o h => by simp [chk] at h, fun {N sc W X es} o h => by
      simp only [chk] at h
      split at h <;> first | (cases h; done) | skip
      rename_i e'
      cases e'
      simp only [Bool.and_eq_true] at h
      have a1 := (snd L n cl a).vt o h.1
      obtain ⟨b1, b2, b3⟩ := (snd L n cl as).a o h.2
      refine ⟨pa_consE a1.1 b1 (chk_star h.1), argN_cons b2, fun e he => ?_⟩
      rcases List.mem_cons.mp he with rfl | he
      · exact chk_star h.1
      · exact b3 e he⟩
  | .idx a i => ⟨fun {N sc W X e} o h => by
      simp only [chk] at h
      split at h <;> first | (cases h; done) | skip
      rename_i e'
      cases e'
      simp only [Bool.and_eq_true] at h
      exact vt_of o (pe_idxE o ((snd L n cl a).vt o h.1).1 ((snd L n cl i).vt o h.2).1 (chk_set h.2).2) fun _ _ => rfl, fun o h => no_es (fun t ⟨l, z⟩ => by subst z; rfl) h⟩
  | .slc a lo hi => ⟨fun {N sc W X e} o h => by
      simp only [chk] at h
      split at h <;> first | (cases h; done) | skip
      rename_i e'
      cases e'
      simp only [Bool.and_eq_true] at h
      obtain ⟨⟨h1, h2⟩, h3⟩ := h
      exact vt_of o (pe_slcE o ((snd L n cl a).vt o h1).1 (po_of (snd L n cl lo) o h2) (po_of (snd L n cl hi) o h3)) fun _ _ => rfl, fun o h => no_es (fun t ⟨l, z⟩ => by subst z; rfl) h⟩
  | .call f as => ⟨fun {N sc W X e} o h => by
      simp only [chk] at h
      split at h <;> first | (cases h; done) | skip
      rename_i e'
      cases e'
      simp only [Bool.and_eq_true, decide_eq_true_eq, Bool.not_eq_true'] at h
      obtain ⟨⟨⟨h1, h2⟩, h3⟩, h4⟩ := h
      obtain ⟨b1, b2, b3⟩ := (snd L n cl as).a o h4
      exact vt_of o (pe_callE o h1 h2 b1 (fun z => by rw [z] at h3; cases h3) b3) fun _ _ => rfl, fun o h => no_es (fun t ⟨l, z⟩ => by subst z; rfl) h⟩
  | .callIo f i as => ⟨fun {N sc W X e} o h => by
      simp only [chk] at h
      split at h <;> first | (cases h; done) | skip
      rename_i e'
      cases e'
      simp only [Bool.and_eq_true, decide_eq_true_eq] at h
      obtain ⟨⟨⟨h1, h2⟩, h3⟩, h4⟩ := h
      obtain ⟨b1, b2, b3⟩ := (snd L n cl as).a o h4
      exact vt_of o (pe_callIoE o h1 h2 h3 b1 b3) fun _ _ => rfl, fun o h => no_es (fun t ⟨l, z⟩ => by subst z; rfl) h⟩
  | .callScr f i as => ⟨fun {N sc W X e} o h => by
      simp only [chk] at h
      split at h <;> first | (cases h; done) | skip
      rename_i e'
      cases e'
      simp only [Bool.and_eq_true, decide_eq_true_eq] at h
      obtain ⟨⟨⟨h1, h2⟩, h3⟩, h4⟩ := h
      obtain ⟨b1, b2, b3⟩ := (snd L n cl as).a o h4
      exact vt_of o (pe_callScrE o h1 h2 h3 b1 b3) fun _ _ => rfl, fun o h => no_es (fun t ⟨l, z⟩ => by subst z; rfl) h⟩
  | .callPk f as => ⟨fun {N sc W X e} o h => by
      simp only [chk] at h
      split at h <;> first | (cases h; done) | skip
      rename_i e'
      cases e'
      simp only [Bool.and_eq_true, decide_eq_true_eq, Bool.not_eq_true'] at h
      obtain ⟨⟨⟨h1, h2⟩, h3⟩, h4⟩ := h
      obtain ⟨b1, b2, b3⟩ := (snd L n cl as).a o h4
      exact vt_of o (pe_callPkE o h1 h2 b1 (fun z => by rw [z] at h3; cases h3) b3) fun _ _ => rfl, fun o h => no_es (fun t ⟨l, z⟩ => by subst z; rfl) h⟩
  | .bi b as => ⟨fun {N sc W X e} o h => by
      simp only [chk] at h
      split at h <;> first | (cases h; done) | skip
      rename_i e'
      cases e'
      simp only [Bool.and_eq_true, decide_eq_true_eq, Bool.not_eq_true'] at h
      obtain ⟨⟨⟨rfl, h2⟩, h3⟩, h4⟩ := h
      obtain ⟨b1, b2, b3⟩ := (snd L n cl as).a o h4
      exact vt_of o (pe_biE o h2 b1 (fun z => by rw [z] at h3; cases h3) b3) fun _ _ => rfl, fun o h => no_es (fun t ⟨l, z⟩ => by subst z; rfl) h⟩
  | .isi a t => ⟨fun {N sc W X e} o h => by
      simp only [chk] at h
      split at h <;> first | (cases h; done) | skip
      rename_i e'
      cases e'
      simp only [Bool.and_eq_true, decide_eq_true_eq] at h
      obtain ⟨⟨⟨⟨rfl, h2⟩, rfl⟩, h4⟩, h5⟩ := h
      exact vt_of o (pe_isiE o h2 h4 ((snd L n cl a).vt o h5).1 (chk_star h5)) fun _ _ => rfl, fun o h => no_es (fun t ⟨l, z⟩ => by subst z; rfl) h⟩
  | .meth m ob as => ⟨fun {N sc W X e} o h => by
      simp only [chk] at h
      split at h <;> first | (cases h; done) | skip
      rename_i e'
      cases e'
      simp only [Bool.and_eq_true, decide_eq_true_eq, Bool.not_eq_true'] at h
      obtain ⟨⟨⟨⟨⟨rfl, h2⟩, h3⟩, h4⟩, h5⟩, h6⟩ := h
      obtain ⟨b1, b2, b3⟩ := (snd L n cl as).a o h6
      exact vt_of o (pe_methE o ((snd L n cl ob).vt o h5).1 (chk_base h5 _ _ _) h2 b1 (fun z => by rw [z] at h3; cases h3) h4 b3) fun _ _ => rfl, fun o h => no_es (fun t ⟨l, z⟩ => by subst z; rfl) h⟩
  | .comp own tg ik src cnd elt => ⟨fun {N sc W X e} o h => (by
      simp only [chk] at h
      split at h <;> first | (cases h; done) | skip
      rename_i el target iter ifs scope pos e'
      cases e'
      simp only [Bool.and_eq_true, decide_eq_true_eq, List.all_eq_true] at h
      obtain ⟨⟨⟨⟨⟨⟨h1, h2⟩, h3⟩, h4⟩, h5⟩, h6⟩, h7⟩ := h
      obtain ⟨i1, i2⟩ := pi_of (snd L n cl src) o h4
      refine vt_of o (pe_compE o i1 h1 h2 h3 h5 (fun {sc' X'} z o' => ?_) (fun {sc' X'} z o' => ?_) i2) fun _ _ => rfl
      · subst z
        exact ((snd L n cl elt).vt o' h6).1
      · subst z
        match ifs, h7 with
        | [], h7 =>
          cases cnd <;> simp only [isNo] at h7 <;> first | (cases h7; done) | skip
          refine ⟨fun pins s σ H Q I q => (pts_nil (X := X')).run pins s σ H Q I ?_⟩
          obtain ⟨P, F0, io, F, env, st, q⟩ := q
          exact q F H st (Ext.refl F)
        | [c], h7 => exact pts_one ((snd L n cl cnd).vt o' h7).2
        | _ :: _ :: _, h7 => cases h7), fun o h => no_es (fun t ⟨l, z⟩ => by subst z; rfl) h⟩
  | .lenScr i => ⟨fun {N sc W X e} o h => by
      simp only [chk] at h
      split at h <;> first | (cases h; done) | skip
      rename_i e'
      cases e'
      simp only [Bool.and_eq_true, decide_eq_true_eq] at h
      obtain ⟨⟨rfl, h2⟩, h3⟩ := h
      exact vt_of o (pe_lenScrE o h2 h3) fun _ _ => rfl, fun o h => no_es (fun t ⟨l, z⟩ => by subst z; rfl) h⟩
  | .idxScr i a => ⟨fun {N sc W X e} o h => by
      simp only [chk] at h
      split at h <;> first | (cases h; done) | skip
      rename_i e'
      cases e'
      simp only [Bool.and_eq_true] at h
      exact vt_of o (pe_idxScrE o h.1 ((snd L n cl a).vt o h.2).1 (chk_set h.2).2) fun _ _ => rfl, fun o h => no_es (fun t ⟨l, z⟩ => by subst z; rfl) h⟩
end MP

/-! Mini, part C10: statements. -/
set_option linter.all false
set_option Elab.async false
set_option maxRecDepth 100000
set_option maxHeartbeats 4000000
namespace MP
open PySem PySem.Spec PyProof.Rows L2

/-! ### forms -/
inductive Ts where
  | s (st : Stmt)
  | b (l : List Stmt)
def Ts.one : Ts → Option Stmt
  | .s st => some st
  | .b [st] => some st
  | .b _ => none
def isComp : Expr → Bool
  | .ListComp _ _ _ _ => true
  | .SetComp _ _ _ _ => true
  | .DictComp _ _ _ _ _ => true
  | _ => false
def locB (sc : Scope) (x : Str) : Bool := match sc.names.lookup x with
  | some .local => true
  | _ => false
/-- may the term be stored at the name y? -/
def stoOk (sc : Scope) (py : Pos) (y : Str) (e : Expr) : Bool := match e with
  | .ListComp _ [⟨_, _, _, 0⟩] scope pos => (py.line == pos.line) && locB sc y && !(scope.names.any fun (n, k) => n == y && (k == .local || k == .cell))
  | e => !isComp e
def plainTup : Expr → Bool
  | .Tuple _ _ _ => false
  | .List _ _ => false
  | _ => true
def parOk (sc : Scope) (px py : Pos) (x y : Str) (a b : Expr) : Bool :=
  locB sc x && locB sc y && (py.line == px.line) && !(x == y) && !(foldedForSure 8 a && foldedForSure 8 b) && !(constantsAlone 8 a && constantsAlone 8 b)
def parOk3 (sc : Scope) (px py pz : Pos) (x y z : Str) (a b c : Expr) : Bool :=
  locB sc x && locB sc y && locB sc z && (py.line == px.line) && (pz.line == px.line) && !(x == y) && !(x == z) && !(y == z) && !(foldedForSure 8 a && (foldedForSure 8 b && foldedForSure 8 c)) && !(constantsAlone 8 a && (constantsAlone 8 b && constantsAlone 8 c))
def ipOf : BOp → Option Operator
  | .add => some .Add
  | .mul => some .Mult
  | _ => none
/-- the two statements that make the lists of children -/
def kidOk (T : Tb) (N : List Str) (sc : Scope) (f it pr o k : Nat) (st1 st2 : Stmt) : Bool := match st1, st2 with
  | .Assign [.Name y py] (.ListComp (.List [] _) [⟨.Name v vp, .Name z zp, [], 0⟩] scope1 pos1) _, .For target iter [.If (.Compare (.Name w3 _) [.IsNot] [.Constant .none _ _] _) [.Expr (.Call (.Attribute (.Subscript (.Name x3 _) (.Name w4 _) _) at_ apos) [.Name y5 _] [] cpos) _] [] _] [] _ =>
    tgName N sc f (.Name y py) && nameOk N sc o z && L2.blkC N sc scope1 (ownOf N [it]) && decide ((ownOf N [it]).map (·.2) = [it]) && tgOk N scope1 (.name it) (.Name v vp) && (py.line == pos1.line) && locB sc y && !(scope1.names.any fun (n, k) => n == y && (k == .local || k == .cell)) &&
    chkIt (fun s t => chk T N (.cons (.call k (.cons (.var o) .nil)) .nil) s t) sc .enum target iter && tgOk N sc (.tup [it, pr]) target && nameOk N sc pr w3 && nameOk N sc f x3 && nameOk N sc pr w4 && decide (at_ = "append") && (apos.endLine == cpos.line) && nameOk N sc it y5 &&
    decide (f ≠ it ∧ f ≠ pr ∧ it ≠ pr ∧ o ≠ f ∧ o ≠ it ∧ o ≠ pr)
  | _, _ => false
section
variable (T : Tb) (N : List Str) (sc : Scope)
def chkS : S → Ts → Bool
  | .pass, t => match t with
    | .b [] => true
    | .b [.Pass _] => true
    | _ => false
  | .seq a b, t => match t with
    | .b (st :: st2 :: rest) => chkS a (.s st) && chkS b (.b (st2 :: rest))
    | _ => false
  | .asg i e, t => match t.one with
    | some (.Assign [.Name y py] x _) => tgName N sc i (.Name y py) && chk T N e sc (.e x) && stoOk sc py y x
    | _ => false
  | .asg2 i j a b, t => match t.one with
    | some (.Assign [.Tuple [.Name x px, .Name y py] kt pt] (.Tuple [p, q] _ _) _) => decide (N[i]? = some x) && decide (N[j]? = some y) && !(i == j) && chk T N a sc (.e p) && chk T N b sc (.e q) && (parOk sc px py x y p q || (tgOk N sc (.tup [i, j]) (.Tuple [.Name x px, .Name y py] kt pt) && !(locB sc x && locB sc y)))
    | _ => false
  | .asg3 i j l a b c, t => match t.one with
    | some (.Assign [.Tuple [.Name x px, .Name y py, .Name z pz] kt pt] (.Tuple [p, q, r] _ _) _) => decide (N[i]? = some x) && decide (N[j]? = some y) && decide (N[l]? = some z) && chk T N a sc (.e p) && chk T N b sc (.e q) && chk T N c sc (.e r) && (parOk3 sc px py pz x y z p q r || (tgOk N sc (.tup [i, j, l]) (.Tuple [.Name x px, .Name y py, .Name z pz] kt pt) && !(i == j) && !(i == l) && !(j == l) && !(locB sc x && locB sc y && locB sc z)))
    | _ => false
  | .kids f it pr o k rest, t => match t with
    | .b (st1 :: st2 :: st3 :: more) => kidOk T N sc f it pr o k st1 st2 && chkS rest (.b (st3 :: more))
    | _ => false
  | .unpack js e, t => match t.one with
    | some (.Assign [.Tuple ts k p] x _) => tgNames N sc js ts && chk T N e sc (.e x) && plainTup x
    | _ => false
  | .setIx i ix e, t => match t.one with
    | some (.Assign [.Subscript (.Name y _) z _] x _) => nameOk N sc i y && chk T N ix sc (.e z) && chk T N e sc (.e x)
    | _ => false
  | .aug i op e, t => match t.one with
    | some (.AugAssign (.Name y p) o x _) => tgName N sc i (.Name y p) && decide (some o = ipOf op) && chk T N e sc (.e x)
    | _ => false
  | .app i e, t => match t.one with
    | some (.Expr (.Call (.Attribute (.Name y _) at_ apos) [x] [] cpos) _) => decide (at_ = "append") && (apos.endLine == cpos.line) && nameOk N sc i y && chk T N e sc (.e x)
    | _ => false
  | .ins i a e, t => match t.one with
    | some (.Expr (.Call (.Attribute (.Name y _) at_ apos) [x, z] [] cpos) _) => decide (at_ = "insert") && (apos.endLine == cpos.line) && nameOk N sc i y && chk T N a sc (.e x) && chk T N e sc (.e z)
    | _ => false
  | .drop e, t => match t.one with
    | some (.Expr x _) => chk T N e sc (.e x) && !isComp x
    | _ => false
  | .ret e, t => match t.one with
    | some (.Return (some x) _) => chk T N e sc (.e x)
    | _ => false
  | .retv i, t => match t.one with
    | some (.Return (some (.Name y _)) _) => nameOk N sc i y
    | _ => false
  | .iff c a b, t => match t.one with
    | some (.If x p q _) => chk T N c sc (.e x) && chkS a (.b p) && chkS b (.b q)
    | _ => false
  | .for_ tg ik src body, t => match t.one with
    | some (.For target iter p [] _) => chkIt (fun s t => chk T N src s t) sc ik target iter && tgOk N sc tg target && chkS body (.b p)
    | _ => false
  | .while_ c body, t => match t.one with
    | some (.While x p [] _) => chk T N c sc (.e x) && chkS body (.b p)
    | _ => false
  | .try_ body i lim yes a b, t => match t.one with
    | some (.Try p [.ExceptHandler (some (.Name x _)) (some nm) [.Return (some (.IfExp (.Call (.Name f _) [.Name n2 _, .Name y _] [] _) (.Constant (.str ca) _ _) (.Constant (.str cb) _ _) _)) _] _] [] [] _) =>
      T.tr && decide (lim = T.ex.length) && decide (f = "isinstance") && globOk sc f && decide (n2 = nm) && decide (N[i]? = some nm) && locB sc nm && !(nm == ("__debug__" : Str)) && !(nm == ("__classdict__" : Str)) && globOk sc x && globOk sc y && cstOk a (.str ca) && cstOk b (.str cb) &&
      ((List.range lim).any fun c0 => decide (T.ex[c0]? = some x) && (List.range lim).all fun c => T.sub c c0) &&
      ((List.range lim).any fun c1 => decide (T.ex[c1]? = some y) && (List.range lim).all fun c => T.sub c c1 == decide (c ∈ yes)) && chkS body (.b p)
    | _ => false
  | .raise c, t => match t.one with
    | some (.Raise (some (.Call (.Name x _) [.Constant (.str _) _ _] [] _)) none _) => decide (T.ex[c]? = some x) && globOk sc x
    | _ => false
end
/-! ### readings -/
def PostS (W : WX0) (K : PySem.W.Frag) (P F0 : Hp) (io : Option Addr) (F : Hp) (D : Ends) : R (Fl × MP.Env) → Prop
  | .stuck => False
  | .exc c => ∀ H', Ext P H' → W c H'
  | .ok (.next, env') => ∀ σ' F' H', StOk K P F0 io F' env' σ' H' → Ext F F' → D.nx σ' H'
  | .ok (.ret r, env') => ∀ x σ' F' H', StOk K P F0 io F' env' σ' H' → Ext F F' → ValOk K P F' H' env' σ' x r.val → D.rt x H'
theorem PostS.mono {W : WX0} {K : PySem.W.Frag} {P F0 F F' : Hp} {io : Option Addr} {D : Ends} {r : R (Fl × MP.Env)} (e : Ext F F') (h : PostS W K P F0 io F D r) : PostS W K P F0 io F' D r := by
  match r, h with
  | .stuck, h => exact h
  | .exc c, h => exact h
  | .ok (.next, env'), h => exact fun σ' G H' s e2 => h σ' G H' s (e.trans e2)
  | .ok (.ret r, env'), h => exact fun x σ' G H' s e2 v => h x σ' G H' s (e.trans e2) v
def prS (W : WX0) (K : PySem.W.Frag) (P F0 : Hp) (io : Option Addr) (D : Ends) : PR W P (Fl × MP.Env) := ⟨fun F => PostS W K P F0 io F D, fun _ h => h, fun _ _ h => h, fun e h => h.mono e⟩
def TSm (W : WX0) (K : PySem.W.Frag) (f : MP.Env → R (Fl × MP.Env)) : TS := fun D σ H => ∃ P F0 io F env, StOk K P F0 io F env σ H ∧ PostS W K P F0 io F D (f env)
section
variable {X : Cx} {W : WX0} {K : PySem.W.Frag}
theorem PS.imp {st : Stmt} {t t' : TS} (h : PS X st t) (i : ∀ D σ H, t' D σ H → t D σ H) : PS X st t' := ⟨fun pins s σ H D I q => h.run pins s σ H D I (i D σ H q)⟩
theorem PSs.imp {st : List Stmt} {t t' : TS} (h : PSs X st t) (i : ∀ D σ H, t' D σ H → t D σ H) : PSs X st t' := ⟨fun pins s σ H D I q => h.run pins s σ H D I (i D σ H q)⟩
theorem sw_no {x : Expr} (h : isComp x = false) (t : Option Expr) (l : Nat) (env : PySem.Env) : swapsWith x t l env = pure false := by
  cases x <;> first | rfl | (cases h)
theorem lookup_loc {sc : Scope} {y : Str} (h : locB sc y = true) : sc.names.lookup y = some .local := by
  unfold locB at h
  split at h
  · assumption
  · cases h
/-- a value that is held: its address is its own -/
def isOw : Val → Bool
  | .fr _ => true
  | .fd _ _ => true
  | _ => false
theorem ValOk.own {P F H : Hp} {env : MP.Env} {σ : L2.St} {x : V} {v : Val} (h : ValOk K P F H env σ x v) (o : isOw v = true) : ∃ p u, x = .ref p ∧ H p = some u ∧ F p = none ∧ P p = none ∧ (∀ i, ¬ MutAt env σ i p) ∧ ∀ {F' H' P' : Hp} {env' : MP.Env} {σ' : L2.St}, Ext F F' → H' p = some u → F' p = none → P' p = none → (∀ i, ¬ MutAt env' σ' i p) → ValOk K P' F' H' env' σ' x v := by
  cases v with
  | fz _ => cases o
  | pk _ => cases o
  | fr ds =>
    obtain ⟨p, vs, rfl, h1, h2, h3, h4, h5⟩ := h
    exact ⟨p, _, rfl, h1, h3, h4, h5, fun e a b c d => ⟨p, vs, rfl, a, RpA.mono e _ _ h2, b, c, d⟩⟩
  | fd k ds =>
    obtain ⟨p, u, rfl, h1, h2, h3, h4, h5⟩ := h
    exact ⟨p, _, rfl, h1, h3, h4, h5, fun e a b c d => ⟨p, u, rfl, a, h2.mono e, b, c, d⟩⟩
/-- a first value is held while a second is worked out -/
theorem TV.hold {P F0 F H : Hp} {io : Option Addr} {env : MP.Env} {σ : L2.St} {β : Type} (C : PR W P β) {x : V} {v : Val} {g : MP.Env → R (Val × MP.Env)} {k : Val × MP.Env → R β} {Q' : VK} (s : StOk K P F0 io F env σ H) (hv : ValOk K P F H env σ x v) (h : C.post F ((g env).bind k))
    (q : ∀ w e2, g env = .ok (w, e2) → ∀ y F2 H2, StOk K P F0 io F2 e2 σ H2 → Ext F F2 → ValOk K P F2 H2 e2 σ x v → ValOk K P F2 H2 e2 σ y w → (isOw v = true → isOw w = true → x ≠ y) → C.post F2 (k (w, e2)) → Q' y H2) : TV W K g σ H Q' := by
  by_cases o : isOw v = true
  · obtain ⟨p, u, rfl, h1, h3, h4, h5, mk⟩ := hv.own o
    have s' := s.pin h1 h3 h5
    refine TV.go (⟨C.post, C.nos, fun F c h H' e => C.exc F c h H' ((Ext.upd h4).trans e), C.mono⟩ : PR W (upd P p u) β) s' h fun w e2 hw y F2 H2 s2 x2 v2 hh => ?_
    have f0p : F0 p = none := Ext.none s.f0 h3
    have f2p : F2 p = none := s2.hid p _ upd_same f0p
    have nm : ∀ i, ¬ MutAt e2 σ i p := fun i m => by
      have := (s2.own m).2.2
      rw [upd_same] at this
      cases this
    have wk : ValOk K P F2 H2 e2 σ y w ∧ (isOw w = true → V.ref p ≠ y) := by
      by_cases ow : isOw w = true
      · obtain ⟨p', u', rfl, g1, g3, g4, g5, mk'⟩ := v2.own ow
        have ne : p' ≠ p := fun z => by rw [z, upd_same] at g4; cases g4
        rw [upd_ne ne] at g4
        exact ⟨mk' (Ext.refl F2) g1 g3 g4 g5, fun _ z => ne (by cases z; rfl)⟩
      · cases w with
        | fz d => exact ⟨v2, fun z => by cases z⟩
        | pk i => exact ⟨v2, fun z => by cases z⟩
        | fr _ => exact absurd rfl ow
        | fd _ _ => exact absurd rfl ow
    exact q w e2 hw y F2 H2 (s2.weakP (Ext.upd h4)) x2 (mk x2 (s2.pH p _ upd_same) f2p h4 nm) wk.1 (fun _ z => wk.2 z) hh
  · cases v with
    | fz d =>
      refine TV.go C s h fun w e2 hw y F2 H2 s2 x2 v2 h2 => q w e2 hw y F2 H2 s2 x2 (Rp.mono x2 _ _ hv) v2 (fun z => by cases z) h2
    | pk i =>
      refine TV.go C s h fun w e2 hw y F2 H2 s2 x2 v2 h2 => q w e2 hw y F2 H2 s2 x2 hv v2 (fun z => by cases z) h2
    | fr _ => exact absurd rfl o
    | fd _ _ => exact absurd rfl o
/-- two values are held while a third is worked out -/
theorem TV.hold2 {P F0 F H : Hp} {io : Option Addr} {env : MP.Env} {σ : L2.St} {β : Type} (C : PR W P β) {x y : V} {v w : Val} {g : MP.Env → R (Val × MP.Env)} {k : Val × MP.Env → R β} {Q' : VK} (s : StOk K P F0 io F env σ H) (hv : ValOk K P F H env σ x v) (hw : ValOk K P F H env σ y w) (sep : isOw v = true → isOw w = true → x ≠ y) (h : C.post F ((g env).bind k))
    (q : ∀ u e2, g env = .ok (u, e2) → ∀ z F2 H2, StOk K P F0 io F2 e2 σ H2 → Ext F F2 → ValOk K P F2 H2 e2 σ x v → ValOk K P F2 H2 e2 σ y w → ValOk K P F2 H2 e2 σ z u → (isOw v = true → isOw u = true → x ≠ z) → (isOw w = true → isOw u = true → y ≠ z) → C.post F2 (k (u, e2)) → Q' z H2) : TV W K g σ H Q' := by
  by_cases o : isOw w = true
  · obtain ⟨p, uu, rfl, h1, h3, h4, h5, mk⟩ := hw.own o
    have s' := s.pin h1 h3 h5
    have hv' : ValOk K (upd P p uu) F H env σ x v := by
      by_cases ov : isOw v = true
      · obtain ⟨p', u', rfl, g1, g3, g4, g5, mk'⟩ := hv.own ov
        have ne : p' ≠ p := fun z => sep ov o (by rw [z])
        exact mk' (Ext.refl F) g1 g3 (by rw [upd_ne ne]; exact g4) g5
      · cases v with
        | fz d => exact hv
        | pk i => exact hv
        | fr _ => exact absurd rfl ov
        | fd _ _ => exact absurd rfl ov
    refine TV.hold (⟨C.post, C.nos, fun F c h H' e => C.exc F c h H' ((Ext.upd h4).trans e), C.mono⟩ : PR W (upd P p uu) β) s' hv' h fun u e2 he z F2 H2 s2 x2 v2 u2 sep2 hh => ?_
    have f0p : F0 p = none := Ext.none s.f0 h3
    have f2p : F2 p = none := s2.hid p _ upd_same f0p
    have nm : ∀ i, ¬ MutAt e2 σ i p := fun i m => by
      have := (s2.own m).2.2
      rw [upd_same] at this
      cases this
    have back : ∀ {xx : V} {vv : Val}, ValOk K (upd P p uu) F2 H2 e2 σ xx vv → ValOk K P F2 H2 e2 σ xx vv ∧ (isOw vv = true → V.ref p ≠ xx) := fun {xx vv} hx => by
      by_cases ow : isOw vv = true
      · obtain ⟨p', u', rfl, g1, g3, g4, g5, mk'⟩ := hx.own ow
        have ne : p' ≠ p := fun z => by rw [z, upd_same] at g4; cases g4
        rw [upd_ne ne] at g4
        exact ⟨mk' (Ext.refl F2) g1 g3 g4 g5, fun _ z => ne (by cases z; rfl)⟩
      · cases vv with
        | fz d => exact ⟨hx, fun z => by cases z⟩
        | pk i => exact ⟨hx, fun z => by cases z⟩
        | fr _ => exact absurd rfl ow
        | fd _ _ => exact absurd rfl ow
    obtain ⟨v3, _⟩ := back v2
    obtain ⟨u3, u4⟩ := back u2
    exact q u e2 he z F2 H2 (s2.weakP (Ext.upd h4)) x2 v3 (mk x2 (s2.pH p _ upd_same) f2p h4 nm) u3 sep2 (fun _ => u4) hh
  · refine TV.hold C s hv h fun u e2 he z F2 H2 s2 x2 v2 u2 sep2 hh => ?_
    have w2 : ValOk K P F2 H2 e2 σ y w := by
      cases w with
      | fz d => exact Rp.mono x2 _ _ hw
      | pk i => exact hw
      | fr _ => exact absurd rfl o
      | fd _ _ => exact absurd rfl o
    exact q u e2 he z F2 H2 s2 x2 v2 w2 u2 sep2 (fun z => absurd z o) hh
theorem ValOk.alloc {P F H : Hp} {env : MP.Env} {σ : L2.St} {x : V} {v : Val} {T : Addr} (u : HO) (h : ValOk K P F H env σ x v) (hT : H T = none) : ValOk K P F (upd H T u) env σ x v := by
  by_cases ow : isOw v = true
  · obtain ⟨p', u', rfl, k1, k2, k3, k5, mk⟩ := h.own ow
    exact mk (Ext.refl F) (by rw [upd_ne (fun z => by rw [z, hT] at k1; cases k1)]; exact k1) k2 k3 k5
  · cases v with
    | fz d => exact h
    | pk k => exact h
    | fd _ _ => exact absurd rfl ow
    | fr _ => exact absurd rfl ow
/-- a value is stored at a name -/
theorem StOk.putVar {P F0 F H : Hp} {io : Option Addr} {env env' : MP.Env} {σ : L2.St} {x : V} {v : Val} {i : Nat} (s : StOk K P F0 io F env σ H) (hv : ValOk K P F H env σ x v) (h : MP.putVar i v env = .ok env') :
    StOk K P F0 io F env' (σ.set i (some x)) H ∧ ((∃ d, v = .fz d ∧ env' = env.set i (.val d)) ∨ (isOw v = true ∧ ∃ sl, isOwn (some sl) = true ∧ env' = env.set i sl)) := by
  unfold MP.putVar at h
  split at h
  · cases v with
    | fz d =>
      cases h
      exact ⟨s.putVal i hv, .inl ⟨d, rfl, rfl⟩⟩
    | fr ds =>
      cases h
      obtain ⟨p, vs, rfl, h1, h2, h3, h4, h5⟩ := hv
      exact ⟨s.putOwn i h1 h2 h3 h4 h5, .inr ⟨rfl, _, rfl, rfl⟩⟩
    | fd k ds =>
      cases h
      obtain ⟨p, u, rfl, h1, h2, h3, h4, h5⟩ := hv
      exact ⟨s.putMdk i h1 h2 h3 h4 h5, .inr ⟨rfl, _, rfl, rfl⟩⟩
    | pk _ => cases h
  · cases h
/-- another value stays what it is, when one is stored -/
theorem ValOk.put {P F H : Hp} {env env' : MP.Env} {σ : L2.St} {x y : V} {v w : Val} {i : Nat} (w2 : ValOk K P F H env σ y w) (nw : ∀ k, w ≠ .pk k) (sep : isOw v = true → isOw w = true → x ≠ y) (hv : (∃ d, v = .fz d ∧ env' = env.set i (.val d)) ∨ (isOw v = true ∧ ∃ sl, isOwn (some sl) = true ∧ env' = env.set i sl)) : ValOk K P F H env' (σ.set i (some x)) y w := by
  by_cases ow : isOw w = true
  · obtain ⟨p', u, rfl, k1, k2, k3, k5, mk⟩ := w2.own ow
    refine mk (Ext.refl F) k1 k2 k3 fun k mk => ?_
    rcases hv with ⟨d, rfl, rfl⟩ | ⟨ov, sl, hsl, rfl⟩
    · exact k5 k (mutAt_set rfl mk).2
    · by_cases hk : k = i
      · subst hk
        obtain ⟨_, b⟩ := mk
        have hl : k < σ.length := by
          cases hq : (σ.set k (some x))[k]? with
          | none => rw [hq] at b; cases b
          | some _ => simpa using (List.getElem?_eq_some_iff.mp hq).1
        rw [List.getElem?_set_self hl] at b
        exact sep ov ow (by cases b; rfl)
      · obtain ⟨a, b⟩ := mk
        rw [List.getElem?_set_ne (Ne.symm hk)] at a b
        exact k5 k ⟨a, b⟩
  · cases w with
    | fz d => exact w2
    | fd _ _ => exact absurd rfl ow
    | fr _ => exact absurd rfl ow
    | pk k => exact absurd rfl (nw k)
theorem putVar_exc {i : Nat} {v : Val} {env : MP.Env} {c : Nat} : MP.putVar i v env ≠ .exc c := by
  unfold MP.putVar
  split
  · cases v <;> simp
  · simp
end
end MP

/-! Mini, part C11: every statement that a text has the form of has its reading. -/
set_option linter.all false
set_option Elab.async false
set_option maxRecDepth 100000
set_option maxHeartbeats 4000000
namespace MP
open PySem PySem.Spec PyProof.Rows L2
/-- the program's exception classes -/
def ExOk (L : Wld) : Prop := ∀ (c : Nat) (x : Str), L.T.ex[c]? = some x → L.mg x = some (.ref (L.xa c)) ∧ PySem.W.keepIn L.K (.ref (L.xa c)) = true ∧ PySem.W.excIn L.K (L.xa c) [.type "ValueError", .type "Exception", .type "BaseException", .type "object"] "ValueError.__new__" = true ∧
  PySem.W.subIn L.K (.ref (L.xa c)) (.type "BaseException") = some true ∧ PySem.W.typeIn L.K (.ref (L.xa c)) = some (.type "type")
/-- what is asked of the classes where exceptions are caught -/
def TryOk (L : Wld) : Prop := L.T.tr = true → ∀ (c : Nat) (x : Str), L.T.ex[c]? = some x → ExcC L.K (L.xa c) ∧ ∀ (d : Nat) (y : Str), L.T.ex[d]? = some y → PySem.W.exmOne L.K (.ref (L.xa c)) (.ref (L.xa d)) = some (L.T.sub c d) ∧ PySem.W.kitOne L.K (.ref (L.xa c)) (.ref (L.xa d)) = some (L.T.sub c d)
structure SOk (L : Wld) (N : List Str) (n : Nat) (cl : Cl) (sc : Scope) (W : WX0) (X : Cx) : Prop where
  o : XOk L N n cl sc W X
  lo : LocOk X sc
  ps : PassesOwn (model X.prog X.w) X.A X.env X.xe
  kd : sc.kind = .function
  ex : ExOk L
  tr : TryOk L
  stk : X.stack = X.env :: X.outer
  frm : X.env.frame = some X.env.locals
structure SndS (L : Wld) (n : Nat) (cl : Cl) (m : S) : Prop where
  run : ∀ {N : List Str} {sc : Scope} {W : WX0} {X : Cx}, SOk L N n cl sc W X →
    (∀ st, chkS L.T N sc m (.s st) = true → PS X st (TSm W L.K (exS cl L.gb m))) ∧ ∀ sts, chkS L.T N sc m (.b sts) = true → PSs X sts (TSm W L.K (exS cl L.gb m))
def plainS : S → Bool
  | .pass => false
  | .seq _ _ => false
  | .kids _ _ _ _ _ _ => false
  | _ => true
section
variable {L : Wld} {n : Nat} {cl : Cl} {N : List Str} {sc : Scope} {W : WX0} {X : Cx}
theorem one_b {T : Tb} : ∀ (m : S), plainS m = true → ∀ sts, chkS T N sc m (.b sts) = true → ∃ st, sts = [st] ∧ chkS T N sc m (.s st) = true := by
  intro m hm sts h
  match sts, h with
  | [st], h => exact ⟨st, rfl, by cases m <;> first | exact h | (cases hm; done)⟩
  | [], h => cases m <;> first | (cases hm; done) | (cases h; done) | (simp [chkS, Ts.one] at h; done)
  | _ :: _ :: _, h => cases m <;> first | (cases hm; done) | (cases h; done) | (simp [chkS, Ts.one] at h; done)
theorem both {m : S} (hm : plainS m = true) {t : TS} (h : ∀ st, chkS L.T N sc m (.s st) = true → PS X st t) : (∀ st, chkS L.T N sc m (.s st) = true → PS X st t) ∧ ∀ sts, chkS L.T N sc m (.b sts) = true → PSs X sts t :=
  ⟨h, fun sts hs => by
    obtain ⟨st, rfl, h2⟩ := one_b m hm sts hs
    exact pss_one (h st h2)⟩
theorem sw_sub {o i x : Expr} {p : Pos} (l : Nat) (env : PySem.Env) : swapsWithSole [.Subscript o i p] x l env = pure false ∧ swappedStores [.Subscript o i p] x env = pure none := by
  constructor
  · cases x <;> rfl
  · cases x <;> rfl
theorem sw_tup {ts : List Expr} {k : Nat} {x : Expr} {p : Pos} (h : plainTup x = true) (l : Nat) (env : PySem.Env) : swapsWithSole [.Tuple ts k p] x l env = pure false ∧ swappedStores [.Tuple ts k p] x env = pure none := by
  constructor
  · cases x <;> rfl
  · cases x <;> first | rfl | (cases h)
def isStar (a : Expr) : Bool := match a with
  | .Starred _ _ => true
  | _ => false
theorem star_all {a : Expr} (h : ∀ z q, a ≠ .Starred z q) : isStar a = false := by
  cases a <;> first | rfl | exact absurd rfl (h _ _)
theorem par_sw {x y : Str} {px py pt pt2 : Pos} {kt k2 : Nat} {a b : Expr} {env : PySem.Env} (hk : env.scope.kind = .function) (hp : parOk env.scope px py x y a b = true) (sa : ∀ z q, a ≠ .Starred z q) (sb : ∀ z q, b ≠ .Starred z q) :
    swappedStores [.Tuple [.Name x px, .Name y py] kt pt] (.Tuple [a, b] k2 pt2) env = pure (some [x, y]) := by
  unfold parOk at hp
  simp only [Bool.and_eq_true, Bool.not_eq_true'] at hp
  obtain ⟨⟨⟨⟨⟨h1, h2⟩, h3⟩, h4⟩, h5⟩, h6⟩ := hp
  have k1 : env.kindOf x = some .local := lookup_loc h1
  have k2 : env.kindOf y = some .local := lookup_loc h2
  have kb : env.blockKind = .function := by unfold Env.blockKind; rw [hk]; rfl
  have e5 : [a, b].all (foldedForSure 8) = false := by simpa using h5
  have e6 : [a, b].all (constantsAlone 8) = false := by simpa using h6
  have es : [a, b].any (fun | .Starred .. => true | _ => false) = false := by
    show (isStar a || (isStar b || false)) = false
    rw [star_all sa, star_all sb]
    rfl
  have h3' : py.line = px.line := by simpa using h3
  have hxy : x ≠ y := by
    intro z
    rw [z] at h4
    simp at h4
  have en : ([Expr.Name x px, Expr.Name y py].filterMap fun
    | .Name id pos => if env.kindOf id == some .local && pos.line == (([Expr.Name x px, Expr.Name y py].head?.map (·.pos.line)).getD 0) then some id else none
    | _ => none) = [x, y] := by
    have hl : (([Expr.Name x px, Expr.Name y py].head?.map (·.pos.line)).getD 0) = px.line := rfl
    rw [hl]
    have q1 : (if env.kindOf x == some .local && px.line == px.line then some x else none) = some x := by
      rw [k1]
      simp
    have q2 : (if env.kindOf y == some .local && py.line == px.line then some y else none) = some y := by
      rw [k2, h3']
      simp
    simp only [List.filterMap_cons, List.filterMap_nil, q1, q2]
  have ed : ([x, y].eraseDups.length != [x, y].length) = false := by
    have : [x, y].eraseDups = [x, y] := by
      rw [List.eraseDups_cons, List.filter_cons]
      have : (!(y == x)) = true := by simpa using Ne.symm hxy
      rw [if_pos this]
      rfl
    rw [this]
    simp
  have eg : (!([Expr.Name x px, Expr.Name y py].length == 2 || [Expr.Name x px, Expr.Name y py].length == 3) || [a, b].length != [Expr.Name x px, Expr.Name y py].length || ScopeKind.function != ScopeKind.function) = false := rfl
  unfold swappedStores
  simp only [kb, e5, e6, eg, Bool.false_eq_true, if_false]
  generalize hA : List.any [a, b] _ = bA
  have hA' : bA = false := hA.symm.trans es
  subst hA'
  simp only [Bool.false_eq_true, if_false]
  generalize hg : List.filterMap _ _ = names
  have hn : names = [x, y] := hg.symm.trans en
  subst hn
  have el : ([x, y].length != [Expr.Name x px, Expr.Name y py].length) = false := rfl
  simp only [el, ed, Bool.or_self, Bool.false_eq_true, if_false]
theorem par_sw3 {x y z : Str} {px py pz pt pt2 : Pos} {kt k2 : Nat} {a b c : Expr} {env : PySem.Env} (hk : env.scope.kind = .function) (hp : parOk3 env.scope px py pz x y z a b c = true) (sa : ∀ z q, a ≠ .Starred z q) (sb : ∀ z q, b ≠ .Starred z q) (sc : ∀ z q, c ≠ .Starred z q) :
    swappedStores [.Tuple [.Name x px, .Name y py, .Name z pz] kt pt] (.Tuple [a, b, c] k2 pt2) env = pure (some [x, y, z]) := by
  unfold parOk3 at hp
  simp only [Bool.and_eq_true, Bool.not_eq_true'] at hp
  obtain ⟨⟨⟨⟨⟨⟨⟨⟨⟨h1, h2⟩, h0⟩, h3⟩, h30⟩, h4⟩, h40⟩, h41⟩, h5⟩, h6⟩ := hp
  have k1 : env.kindOf x = some .local := lookup_loc h1
  have k2 : env.kindOf y = some .local := lookup_loc h2
  have k0 : env.kindOf z = some .local := lookup_loc h0
  have kb : env.blockKind = .function := by unfold Env.blockKind; rw [hk]; rfl
  have e5 : [a, b, c].all (foldedForSure 8) = false := by simpa using h5
  have e6 : [a, b, c].all (constantsAlone 8) = false := by simpa using h6
  have es : [a, b, c].any (fun | .Starred .. => true | _ => false) = false := by
    show (isStar a || (isStar b || (isStar c || false))) = false
    rw [star_all sa, star_all sb, star_all sc]
    rfl
  have h3' : py.line = px.line := by simpa using h3
  have h30' : pz.line = px.line := by simpa using h30
  have hxy : x ≠ y := by
    intro z
    rw [z] at h4
    simp at h4
  have hxz : x ≠ z := by
    intro w
    rw [w] at h40
    simp at h40
  have hyz : y ≠ z := by
    intro w
    rw [w] at h41
    simp at h41
  have en : ([Expr.Name x px, Expr.Name y py, Expr.Name z pz].filterMap fun
    | .Name id pos => if env.kindOf id == some .local && pos.line == (([Expr.Name x px, Expr.Name y py, Expr.Name z pz].head?.map (·.pos.line)).getD 0) then some id else none
    | _ => none) = [x, y, z] := by
    have hl : (([Expr.Name x px, Expr.Name y py, Expr.Name z pz].head?.map (·.pos.line)).getD 0) = px.line := rfl
    rw [hl]
    have q1 : (if env.kindOf x == some .local && px.line == px.line then some x else none) = some x := by
      rw [k1]
      simp
    have q2 : (if env.kindOf y == some .local && py.line == px.line then some y else none) = some y := by
      rw [k2, h3']
      simp
    have q3 : (if env.kindOf z == some .local && pz.line == px.line then some z else none) = some z := by
      rw [k0, h30']
      simp
    simp only [List.filterMap_cons, List.filterMap_nil, q1, q2, q3]
  have ed : ([x, y, z].eraseDups.length != [x, y, z].length) = false := by
    have : [x, y, z].eraseDups = [x, y, z] := by
      rw [List.eraseDups_cons, List.filter_cons, List.filter_cons]
      have e1 : (!(y == x)) = true := by simpa using Ne.symm hxy
      have e2 : (!(z == x)) = true := by simpa using Ne.symm hxz
      have e3 : (!(z == y)) = true := by simpa using Ne.symm hyz
      rw [if_pos e1, if_pos e2, List.filter_nil, List.eraseDups_cons, List.filter_cons, if_pos e3]
      rfl
    rw [this]
    simp
  have eg : (!([Expr.Name x px, Expr.Name y py, Expr.Name z pz].length == 2 || [Expr.Name x px, Expr.Name y py, Expr.Name z pz].length == 3) || [a, b, c].length != [Expr.Name x px, Expr.Name y py, Expr.Name z pz].length || ScopeKind.function != ScopeKind.function) = false := rfl
  unfold swappedStores
  simp only [kb, e5, e6, eg, Bool.false_eq_true, if_false]
  generalize hA : List.any [a, b, c] _ = bA
  have hA' : bA = false := hA.symm.trans es
  subst hA'
  simp only [Bool.false_eq_true, if_false]
  generalize hg : List.filterMap _ _ = names
  have hn : names = [x, y, z] := hg.symm.trans en
  subst hn
  have el : ([x, y, z].length != [Expr.Name x px, Expr.Name y py, Expr.Name z pz].length) = false := rfl
  simp only [el, ed, Bool.or_self, Bool.false_eq_true, if_false]
theorem sw_cell {x y : Str} {px py pt pt2 : Pos} {kt k2 : Nat} {a b : Expr} {env : PySem.Env} (hc : (locB env.scope x && locB env.scope y) = false) (sa : ∀ z q, a ≠ .Starred z q) (sb : ∀ z q, b ≠ .Starred z q) :
    swappedStores [.Tuple [.Name x px, .Name y py] kt pt] (.Tuple [a, b] k2 pt2) env = pure none := by
  have es : [a, b].any (fun | .Starred .. => true | _ => false) = false := by
    show (isStar a || (isStar b || false)) = false
    rw [star_all sa, star_all sb]
    rfl
  have loc : ∀ {w : Str}, locB env.scope w = false → (env.kindOf w == some .local) = false := fun {w} h => by
    show (env.scope.names.lookup w == some .local) = false
    unfold locB at h
    cases q : env.scope.names.lookup w with
    | none => rfl
    | some kd => cases kd <;> first | rfl | (rw [q] at h; cases h)
  unfold swappedStores
  dsimp only
  generalize hA : List.any [a, b] _ = bA
  have hA' : bA = false := hA.symm.trans es
  subst hA'
  by_cases hk : (!([Expr.Name x px, Expr.Name y py].length == 2 || [Expr.Name x px, Expr.Name y py].length == 3) || [a, b].length != [Expr.Name x px, Expr.Name y py].length || env.blockKind != .function) = true
  · simp only [if_pos hk]
  · simp only [if_neg hk, Bool.false_eq_true, if_false]
    generalize hg : List.filterMap _ _ = names
    have hn : names.length ≤ 1 := by
      rw [← hg]
      rw [Bool.and_eq_false_iff] at hc
      rcases hc with h | h
      · rw [List.filterMap_cons]
        simp only [loc h, Bool.false_and, Bool.false_eq_true, if_false]
        exact List.length_filterMap_le _ _
      · simp only [List.filterMap_cons, List.filterMap_nil, loc h, Bool.false_and, Bool.false_eq_true, if_false]
        split <;> simp
    have el : (names.length != [Expr.Name x px, Expr.Name y py].length || names.eraseDups.length != names.length) = true := by
      have : names.length ≠ 2 := by omega
      simp [this]
    simp only [el, if_true]
theorem sw_cell3 {x y z : Str} {px py pz pt pt2 : Pos} {kt k2 : Nat} {a b c : Expr} {env : PySem.Env} (hc : (locB env.scope x && locB env.scope y && locB env.scope z) = false) (sa : ∀ z q, a ≠ .Starred z q) (sb : ∀ z q, b ≠ .Starred z q) (sc : ∀ z q, c ≠ .Starred z q) :
    swappedStores [.Tuple [.Name x px, .Name y py, .Name z pz] kt pt] (.Tuple [a, b, c] k2 pt2) env = pure none := by
  have es : [a, b, c].any (fun | .Starred .. => true | _ => false) = false := by
    show (isStar a || (isStar b || (isStar c || false))) = false
    rw [star_all sa, star_all sb, star_all sc]
    rfl
  have loc : ∀ {w : Str}, locB env.scope w = false → (env.kindOf w == some .local) = false := fun {w} h => by
    show (env.scope.names.lookup w == some .local) = false
    unfold locB at h
    cases q : env.scope.names.lookup w with
    | none => rfl
    | some kd => cases kd <;> first | rfl | (rw [q] at h; cases h)
  unfold swappedStores
  dsimp only
  generalize hA : List.any [a, b, c] _ = bA
  have hA' : bA = false := hA.symm.trans es
  subst hA'
  by_cases hk : (!([Expr.Name x px, Expr.Name y py, Expr.Name z pz].length == 2 || [Expr.Name x px, Expr.Name y py, Expr.Name z pz].length == 3) || [a, b, c].length != [Expr.Name x px, Expr.Name y py, Expr.Name z pz].length || env.blockKind != .function) = true
  · simp only [if_pos hk]
  · simp only [if_neg hk, Bool.false_eq_true, if_false]
    generalize hg : List.filterMap _ _ = names
    have hn : names.length ≤ 2 := by
      rw [← hg]
      rw [Bool.and_eq_false_iff, Bool.and_eq_false_iff] at hc
      rcases hc with (h | h) | h
      · rw [List.filterMap_cons]
        simp only [loc h, Bool.false_and, Bool.false_eq_true, if_false]
        exact List.length_filterMap_le _ _
      · simp only [List.filterMap_cons, List.filterMap_nil, loc h, Bool.false_and, Bool.false_eq_true, if_false]
        split <;> split <;> simp
      · simp only [List.filterMap_cons, List.filterMap_nil, loc h, Bool.false_and, Bool.false_eq_true, if_false]
        split <;> split <;> simp
    have el : (names.length != [Expr.Name x px, Expr.Name y py, Expr.Name z pz].length || names.eraseDups.length != names.length) = true := by
      have : names.length ≠ 3 := by omega
      simp [this]
    simp only [el, if_true]
end
end MP

/-! Mini, part C12: the statements' soundness. -/
set_option linter.all false
set_option Elab.async false
set_option maxRecDepth 100000
set_option maxHeartbeats 4000000
namespace MP
open PySem PySem.Spec PyProof.Rows L2
section
variable {L : Wld} {n : Nat} {cl : Cl} {N : List Str} {sc : Scope} {W : WX0} {X : Cx}
theorem vt_s {m : E} {e : Expr} (o : XOk L N n cl sc W X) (h : chk L.T N m sc (.e e) = true) : PE X e (TV W L.K (ev cl L.gb m).v) := ((snd L n cl m).vt o h).1
theorem tgN {i : Nat} {y : Str} {py : Pos} (o : XOk L N n cl sc W X) (lo : LocOk X sc) (h : tgName N sc i (.Name y py) = true) : N[i]? = some y ∧ Loc X.env.scope y ∧ (X.fn y = true ∨ X.env.scope.names.lookup y = some .local) := by
  unfold tgName at h
  simp only [Bool.and_eq_true, decide_eq_true_eq] at h
  obtain ⟨h1, h2⟩ := h
  have hx : sc.names.lookup y = some .local ∨ sc.names.lookup y = some .cell := by
    split at h2
    · exact .inl ‹_›
    · exact .inr ‹_›
    · cases h2
  obtain ⟨l1, l2⟩ := lo y hx
  exact ⟨h1, l1, l2⟩
theorem asg_imp {i : Nat} {f : MP.Env → R (Val × MP.Env)} {D : Ends} {σ : L2.St} {H : Hp} (h : TSm W L.K (fun env => (f env).bind fun p => (putVar i p.1 p.2).bind fun e1 => .ok (.next, e1)) D σ H) : TV W L.K f σ H fun x H1 => gName i x σ H1 D.nx := by
  obtain ⟨P, F0, io, F, env, s, q⟩ := h
  refine TV.go (prS W L.K P F0 io D) s q fun v e1 _ x F1 H1 s1 x1 v1 q1 => ?_
  obtain ⟨e2, h2, q2⟩ := PR.bind q1 fun c => putVar_exc
  exact q2 _ F1 H1 (s1.putVar v1 h2).1 (Ext.refl F1)
theorem s_asg (so : SOk L N n cl sc W X) {i : Nat} {e : E} {st : Stmt} (h : chkS L.T N sc (.asg i e) (.s st) = true) : PS X st (TSm W L.K (exS cl L.gb (.asg i e))) := by
  simp only [chkS, Ts.one] at h
  split at h <;> first | (cases h; done) | skip
  rename_i y py x spos e'
  cases e'
  simp only [Bool.and_eq_true] at h
  obtain ⟨⟨h1, h2⟩, h3⟩ := h
  obtain ⟨hN, hl, hf⟩ := tgN so.o so.lo h1
  by_cases hc : isComp x = false
  · exact PS.imp (ps_set (so.o.hN ▸ so.o.nd) (so.o.hN ▸ hN) hl (vt_s so.o h2) (sw_no hc _ _ _) hf) fun D σ H q => asg_imp q
  · unfold stoOk at h3
    split at h3
    · rename_i el target iter ifs scope pos
      simp only [Bool.and_eq_true, Bool.not_eq_true'] at h3
      obtain ⟨⟨k1, k2⟩, k3⟩ := h3
      cases e <;> first | (simp [chk] at h2; done) | (simp [chk, isCD] at h2; done) | skip
      rename_i own tg ik src cnd elt
      simp only [chk] at h2
      simp only [Bool.and_eq_true, decide_eq_true_eq, List.all_eq_true] at h2
      obtain ⟨⟨⟨⟨⟨⟨g1, g2⟩, g3⟩, g4⟩, g5⟩, g6⟩, g7⟩ := h2
      obtain ⟨i1, i2⟩ := pi_of (snd L n cl src) so.o g4
      refine PS.imp (set_compE so.o i1 g1 g2 g3 g5 (fun {sc' X'} z o' => ?_) (fun {sc' X'} z o' => ?_) i2 hN (lookup_loc k2) so.kd k1 k3) fun D σ H q => asg_imp q
      · subst z
        exact ((snd L n cl elt).vt o' g6).1
      · subst z
        match ifs, g7 with
        | [], h7 =>
          cases cnd <;> simp only [isNo] at h7 <;> first | (cases h7; done) | skip
          refine ⟨fun pins s σ H Q I q => (pts_nil (X := X')).run pins s σ H Q I ?_⟩
          obtain ⟨P, F0, io, F, env, st, q⟩ := q
          exact q F H st (Ext.refl F)
        | [c], h7 => exact pts_one ((snd L n cl cnd).vt o' h7).2
        | _ :: _ :: _, h7 => cases h7
    · exact absurd (by simpa using h3) hc
theorem s_unpack (so : SOk L N n cl sc W X) {js : List Nat} {e : E} {st : Stmt} (h : chkS L.T N sc (.unpack js e) (.s st) = true) : PS X st (TSm W L.K (exS cl L.gb (.unpack js e))) := by
  simp only [chkS, Ts.one] at h
  split at h <;> first | (cases h; done) | skip
  rename_i ts k p x spos e'
  cases e'
  simp only [Bool.and_eq_true] at h
  obtain ⟨⟨h1, h2⟩, h3⟩ := h
  have hg := pg_tgOk (tg := .tup js) (e := .Tuple ts k p) so.o.calm so.o.hN so.o.nd so.lo h1
  refine PS.imp (ps_asg (vt_s so.o h2) hg (sw_tup h3 _ _).1 (sw_tup h3 0 _).2) fun D σ H q => ?_
  obtain ⟨P, F0, io, F, env, s, q⟩ := q
  simp only [exS] at q
  rw [so.o.hK]
  refine TV.goF (prS W L.K P F0 io D) s q fun v e1 _ x F1 H1 s1 x1 v1 q1 => ?_
  cases v with
  | fz d =>
    cases d with
    | tuple ds =>
      have q1 : PostS W L.K P F0 io F1 D (if ds.length = js.length then (R.of (MP.putVals e1 js ds)).bind fun e1 => .ok (.next, e1) else .stuck) := q1
      by_cases hl : ds.length = js.length
      · rw [if_pos hl] at q1
        obtain ⟨e2, he, q2⟩ := PR.of (C := prS W L.K P F0 io D) q1
        refine s1.bindTg (bt := false) (fun z => by cases z) (tg := .tup js) (d := .tuple ds) (.inl v1) (by simp only [MP.bindTg, if_pos hl]; exact he) fun σ' s2 _ => q2 σ' F1 H1 s2 (Ext.refl F1)
      · rw [if_neg hl] at q1
        exact q1.elim
    | none => exact q1.elim
    | bool _ => exact q1.elim
    | int _ => exact q1.elim
    | str _ => exact q1.elim
    | list _ => exact q1.elim
    | dict _ => exact q1.elim
  | fr _ => exact q1.elim
  | fd _ _ => exact q1.elim
  | pk _ => exact q1.elim
/-- a slot that holds a list or a dict -/
theorem own_slotD {i : Nat} {f : MP.Env → R (Val × MP.Env)} {k : Val × MP.Env → R (Fl × MP.Env)} {P F0 F H : Hp} {io : Option Addr} {env : MP.Env} {σ : L2.St} {D : Ends} (s : StOk L.K P F0 io F env σ H) (q : PostS W L.K P F0 io F D ((evOwnD i f env).bind k)) :
    (∃ p, σ[i]? = some (some (.ref p))) ∧ PostS W L.K P F0 io F D ((f env).bind k) := by
  unfold evOwnD at q
  cases e : env[i]? with
  | none => rw [e] at q; exact q.elim
  | some sl =>
    rw [e] at q
    have z := s.sl i sl e
    cases sl with
    | un => exact q.elim
    | val _ => exact q.elim
    | own ds =>
      obtain ⟨p, vs, h1, h2, _⟩ := z
      exact ⟨⟨p, h1⟩, q⟩
    | io ds =>
      obtain ⟨p, vs, _, h1, h2, _⟩ := z
      exact ⟨⟨p, h1⟩, q⟩
    | scr _ => exact q.elim
    | mdk _ _ =>
      obtain ⟨p, u, h1, _⟩ := z
      exact ⟨⟨p, h1⟩, q⟩
/-- the dict at a slot is written -/
theorem StOk.wroteD {P F0 F H : Hp} {io : Option Addr} {env : MP.Env} {σ : L2.St} {i : Nat} {p : Addr} {u' : HO} {k : Bool} {us us' : List (PyData × PyData)} (s : StOk L.K P F0 io F env σ H) (e : env[i]? = some (.mdk k us))
    (hp : σ[i]? = some (some (.ref p))) (r : DicO L.K F p u' k us') : StOk L.K P F0 io F (env.set i (.mdk k us')) σ (upd H p u') := by
  have m : MutAt env σ i p := ⟨by rw [e]; rfl, hp⟩
  obtain ⟨_, fP, pP⟩ := s.own m
  have hi : i < env.length := (List.getElem?_eq_some_iff.mp e).1
  have keep : ∀ q o, H q = some o → q ≠ p → upd H p u' q = some o := fun q o h hq => by rw [upd_ne hq]; exact h
  have mm : ∀ {j q}, MutAt (env.set i (.mdk k us')) σ j q → MutAt env σ j q := fun {j q} ⟨a, b⟩ => by
    by_cases hj : j = i
    · subst hj
      exact ⟨by rw [e]; rfl, b⟩
    · rw [List.getElem?_set_ne (Ne.symm hj)] at a
      exact ⟨a, b⟩
  refine ⟨fun a o h => keep a o (s.pH a o h) (fun z => by rw [z, pP] at h; cases h), s.f0, fun a o h => keep a o (s.fH a o h) (fun z => by rw [z, fP] at h; cases h), s.hid, by rw [List.length_set]; exact s.len, fun j sj hj => ?_, fun j k q mj mk => s.dist j k q (mm mj) (mm mk)⟩
  by_cases hji : j = i
  · subst hji
    rw [List.getElem?_set_self hi] at hj
    cases hj
    exact ⟨p, u', hp, upd_same, r, fP, pP⟩
  · rw [List.getElem?_set_ne (Ne.symm hji)] at hj
    have q := s.sl j sj hj
    cases sj with
    | un => trivial
    | val d => exact q
    | own ds =>
      obtain ⟨p', vs, q1, q2, q3, q4, q5⟩ := q
      have ne : p' ≠ p := fun z => hji (s.dist j i p ⟨by rw [hj]; rfl, z ▸ q1⟩ m)
      exact ⟨p', vs, q1, keep _ _ q2 ne, q3, q4, q5⟩
    | io ds =>
      obtain ⟨p', vs, q0, q1, q2, q3, q4, q5⟩ := q
      have ne : p' ≠ p := fun z => hji (s.dist j i p ⟨by rw [hj]; rfl, z ▸ q1⟩ m)
      exact ⟨p', vs, q0, q1, keep _ _ q2 ne, q3, q4, q5⟩
    | scr ns => exact q
    | mdk k kvs =>
      obtain ⟨p', u, q1, q2, q3, q4, q5⟩ := q
      have ne : p' ≠ p := fun z => hji (s.dist j i p ⟨by rw [hj]; rfl, z ▸ q1⟩ m)
      exact ⟨p', u, q1, keep _ _ q2 ne, q3, q4, q5⟩
def rSetT (K : PySem.W.Frag) : TSet := fun o i v H Q => ∃ p b xs ks, o = .ref p ∧ i = .ref b ∧ H p = some (hoT p xs) ∧ TDic K H p xs ∧ SqT K H b (ks.map V.int) ∧ xs.length < sizeLine ∧ ∀ w, RelV v w → Q (upd H p (hoT p (putT xs ks b w)))
theorem set_T (hu : X.A.units + 1 < cLine) : PSet X (rSetT X.K) := by
  intro pins s σ H o i v ov iv u Q I ro ri rv h
  obtain ⟨p, b, xs, ks, rfl, rfl, h1, h2, h3, h4, q⟩ := h
  cases ro
  cases ri
  exact t_setItem hu I h1 h2 h3 h4 rv fun s' I' => ⟨_, I', q u rv⟩
def rSetK : TSet := fun o i v H Q => ∃ p k kvs, o = .ref p ∧ i = .int k ∧ H p = some (.dK kvs) ∧ kvs.length < sizeLine ∧ Q (upd H p (.dK (putK kvs (.inl k) v)))
theorem set_K (hu : X.A.units + 1 < cLine) : PSet X rSetK := by
  intro pins s σ H o i v ov iv u Q I ro ri rv h
  obtain ⟨p, k, kvs, rfl, rfl, h1, h2, q⟩ := h
  cases ro
  exact d_setItem hu I (DPut.k (k := .inl k) h1 h2) ri rv fun s' I' => ⟨_, I', q⟩
def rSet3 (K : PySem.W.Frag) : TSet := fun o i v H Q => rSetL o i v H Q ∨ rSetT K o i v H Q ∨ rSetK o i v H Q
theorem set_3 (hu : X.A.units + 1 < cLine) : PSet X (rSet3 X.K) := by
  intro pins s σ H o i v ov iv u Q I ro ri rv h
  rcases h with h | h | h
  · exact set_list pins s σ H o i v ov iv u Q I ro ri rv h
  · exact set_T hu pins s σ H o i v ov iv u Q I ro ri rv h
  · exact set_K hu pins s σ H o i v ov iv u Q I ro ri rv h
theorem cap_line {n : Nat} (h : n < cap) : n < sizeLine := by
  have : cap ≤ sizeLine := by rw [sizeLine_eq]; decide
  omega
/-- a slot that holds a list, its list as it is later -/
theorem own_slot {i : Nat} {f : MP.Env → R (Val × MP.Env)} {k : Val × MP.Env → R (Fl × MP.Env)} {P F0 F H : Hp} {io : Option Addr} {env : MP.Env} {σ : L2.St} {D : Ends} (s : StOk L.K P F0 io F env σ H) (q : PostS W L.K P F0 io F D ((evOwn i f env).bind k)) :
    (∃ p vs, σ[i]? = some (some (.ref p)) ∧ H p = some (.lst vs)) ∧ PostS W L.K P F0 io F D ((f env).bind k) := by
  unfold evOwn at q
  cases e : env[i]? with
  | none => rw [e] at q; exact q.elim
  | some sl =>
    rw [e] at q
    have z := s.sl i sl e
    cases sl with
    | un => exact q.elim
    | val _ => exact q.elim
    | own ds =>
      obtain ⟨p, vs, h1, h2, _⟩ := z
      exact ⟨⟨p, vs, h1, h2⟩, q⟩
    | io ds =>
      obtain ⟨p, vs, _, h1, h2, _⟩ := z
      exact ⟨⟨p, vs, h1, h2⟩, q⟩
    | scr _ => exact q.elim
    | mdk _ _ => exact q.elim
/-- the list at a slot is written -/
theorem StOk.wrote {P F0 F H : Hp} {io : Option Addr} {env : MP.Env} {σ : L2.St} {i : Nat} {p : Addr} {ws : List V} {us us' : List PyData} {sl : Slot} (s : StOk L.K P F0 io F env σ H) (e : (env[i]? = some (.own us) ∧ sl = .own us') ∨ (env[i]? = some (.io us) ∧ sl = .io us'))
    (hp : σ[i]? = some (some (.ref p))) (r : RpA L.K F ws us') : StOk L.K P F0 io F (env.set i sl) σ (upd H p (.lst ws)) := by
  obtain ⟨p', vs, h1, h2, h3, h4, h5, h6⟩ := s.ownAt (e.elim (fun z => .inl z.1) fun z => .inr z.1)
  rw [hp] at h1
  cases h1
  refine s.changed (ws := ws) e hp (fun a o h => ?_) (Ext.refl F) (fun a o h => ?_) (fun _ _ _ h => h) upd_same r h4
  · unfold offIo at h
    by_cases ha : some p = some a
    · rw [if_pos ha] at h; cases h
    · rw [if_neg ha] at h
      rw [upd_ne (fun z => ha (by rw [z]))]
      exact h
  · rw [upd_ne (fun z => by rw [z, h4] at h; cases h)]
    exact s.fH a o h
theorem ixN_of {n : Nat} {k : Int} {j : Nat} (h : ixOf n k = some j) : ixN n k = some j := by
  unfold ixOf at h
  unfold ixN
  exact h
theorem s_setIx (so : SOk L N n cl sc W X) {i : Nat} {ix e : E} {st : Stmt} (h : chkS L.T N sc (.setIx i ix e) (.s st) = true) : PS X st (TSm W L.K (exS cl L.gb (.setIx i ix e))) := by
  simp only [chkS, Ts.one] at h
  split at h <;> first | (cases h; done) | skip
  rename_i y p1 z p2 x spos e'
  cases e'
  simp only [Bool.and_eq_true] at h
  obtain ⟨⟨h1, h2⟩, h3⟩ := h
  obtain ⟨n1, n2, n3, n4⟩ := so.o.vis h1
  have hns := (chk_set h2).2
  refine PS.imp (ps_asg (vt_s so.o h3) (pg_sub (pe_var n1 n2 n3 n4) (vt_s so.o h2) (set_3 (by have := so.o.room.units; omega)) (by cases z <;> first | (intro _; rfl) | exact absurd rfl (hns _ _ _ _))) (sw_sub _ _).1 (sw_sub 0 _).2) fun D σ H q => ?_
  obtain ⟨P, F0, io, F, env, s, q⟩ := q
  simp only [exS] at q
  refine TV.goF (prS W L.K P F0 io D) s q fun v e1 _ x F1 H1 s1 x1 v1 q1 => ?_
  obtain ⟨⟨p, hp⟩, q1⟩ := own_slotD s1 q1
  refine ⟨_, hp, ?_⟩
  refine TV.goF (prS W L.K P F0 io D) s1 q1 fun w e2 _ k F2 H2 s2 x2 v2 q2 => ?_
  have v1' := v1.mono x2
  unfold setIxD at q2
  revert v1' v2
  simp only at q2
  cases hv : v.frz with
  | fr _ => intro _ z; exact z.elim
  | fd _ _ => rw [hv] at q2; split at q2 <;> first | exact q2.elim | (rename_i hz; cases hz; done)
  | pk j => rw [hv] at q2; split at q2 <;> first | exact q2.elim | (rename_i hz; cases hz; done)
  | fz d =>
    intro v2 v1'
    have rd : Rp L.K F2 x d := v1'
    rw [hv] at q2
    split at q2
    · rename_i xs j d' he hw hd
      cases hd
      rw [hw] at v2
      have rk : Rp L.K F2 k (.int j) := v2
      cases rk
      obtain ⟨p', ws, g1, g2, g3, g4, g5, g6⟩ := s2.ownAt (.inl he)
      rw [hp] at g1
      cases g1
      cases hm : ixOf xs.length j with
      | none => rw [hm] at q2; exact q2.elim
      | some m =>
      rw [hm] at q2
      refine .inl ⟨p, ws, j, m, rfl, rfl, g2, ixN_of (by rw [g3.length]; exact hm), ?_⟩
      exact q2 _ F2 _ (s2.wrote (.inl ⟨he, rfl⟩) hp (g3.set m rd)) (Ext.refl F2)
    · rename_i xs j d' he hw hd
      cases hd
      rw [hw] at v2
      have rk : Rp L.K F2 k (.int j) := v2
      cases rk
      obtain ⟨p', ws, g1, g2, g3, g4, g5, g6⟩ := s2.ownAt (.inr he)
      rw [hp] at g1
      cases g1
      cases hm : ixOf xs.length j with
      | none => rw [hm] at q2; exact q2.elim
      | some m =>
      rw [hm] at q2
      refine .inl ⟨p, ws, j, m, rfl, rfl, g2, ixN_of (by rw [g3.length]; exact hm), ?_⟩
      exact q2 _ F2 _ (s2.wrote (.inr ⟨he, rfl⟩) hp (g3.set m rd)) (Ext.refl F2)
    · rename_i t kvs a d' he hw hd
      cases hd
      rw [hw] at v2
      have rk : Rp L.K F2 k a := v2
      obtain ⟨p', u, g1, g2, g3, g4, g5⟩ := s2.sl i _ he
      rw [hp] at g1
      cases g1
      by_cases c : putOk t a = true ∧ kvs.length < cap
      · rw [if_pos c] at q2
        cases t with
        | true =>
          cases a <;> first | (cases c.1; done) | skip
          cases rk with
          | @tup b0 _ _ t1 t2 =>
            obtain ⟨ks, rfl, rfl⟩ := ints_of t2 c.1
            obtain ⟨es, vs, ds, rfl, k1, k2, k3, k4, rfl⟩ := g3
            have hz : es.length < sizeLine := by
              have h1 := k3.length
              have h2 := k4.length
              have h3 := c.2
              rw [List.length_zip, List.length_map] at h3
              rw [List.length_map] at h1
              exact cap_line (by omega)
            refine .inr (.inl ⟨p, b0, es, ks, rfl, rfl, g2, ⟨.inl g2, fun e he => by rw [so.o.hK]; exact ext_t s2.fH (k1 e he).t⟩, by rw [so.o.hK]; exact ext_t s2.fH t1.t, hz, fun w' rw' => ?_⟩)
            obtain ⟨vs', ds', a1, a2, a3⟩ := put_ok ks b0 rw' rd k2 k3 k4
            refine q2 _ F2 _ (s2.wroteD he hp ⟨putT es ks b0 w', vs', ds', rfl, fun e he' => ?_, put_nodup k2, a1, a2, a3⟩) (Ext.refl F2)
            rcases put_keys e he' with ⟨y, hy, e1, e2⟩ | rfl
            · rw [e1, e2]
              exact k1 y hy
            · exact t1
        | false =>
          cases a <;> first | (cases c.1; done) | skip
          cases rk
          rename_i j
          obtain ⟨es, ds, rfl, k2, k3, rfl⟩ := g3
          have hz : es.length < sizeLine := by
            have h2 := k3.length
            have h3 := c.2
            rw [List.length_zip, List.length_map] at h3
            rw [List.length_map] at h2
            exact cap_line (by omega)
          obtain ⟨es', a1, a2, a3⟩ := putK_map (K := L.K) (F := F2) j x es k2
          obtain ⟨ds', a4, a5⟩ := a3 k3 rd
          refine .inr (.inr ⟨p, j, _, rfl, rfl, g2, by rw [List.length_map]; exact hz, ?_⟩)
          rw [a1]
          exact q2 _ F2 _ (s2.wroteD he hp ⟨es', ds', rfl, a2, a4, a5⟩) (Ext.refl F2)
      · rw [if_neg c] at q2
        exact q2.elim
    · exact q2.elim
theorem bd_slot {i : Nat} {f : MP.Env → R (Val × MP.Env)} {k : Val × MP.Env → R (Fl × MP.Env)} {P F0 F H : Hp} {io : Option Addr} {env : MP.Env} {σ : L2.St} {D : Ends} (s : StOk L.K P F0 io F env σ H) (q : PostS W L.K P F0 io F D ((evBd i f env).bind k)) :
    (∃ x, σ[i]? = some (some x)) ∧ PostS W L.K P F0 io F D ((f env).bind k) := by
  unfold evBd at q
  cases e : env[i]? with
  | none => rw [e] at q; exact q.elim
  | some sl =>
    rw [e] at q
    have z := s.sl i sl e
    cases sl with
    | un => exact q.elim
    | val _ =>
      obtain ⟨v, h1, _⟩ := z
      exact ⟨⟨v, h1⟩, q⟩
    | own ds =>
      obtain ⟨p, vs, h1, h2, _⟩ := z
      exact ⟨⟨_, h1⟩, q⟩
    | io ds => exact q.elim
    | scr _ => exact q.elim
    | mdk _ _ => exact q.elim
theorem st_same {P F0 F H : Hp} {io : Option Addr} {env : MP.Env} {σ : L2.St} {i : Nat} {x : V} (s : StOk L.K P F0 io F env σ H) (h : σ[i]? = some (some x)) : StOk L.K P F0 io F env (σ.set i (some x)) H := by
  have : σ.set i (some x) = σ := by
    apply List.ext_getElem?
    intro j
    by_cases hj : j = i
    · subst hj
      rw [List.getElem?_set_self (List.getElem?_eq_some_iff.mp h).1, h]
    · rw [List.getElem?_set_ne (Ne.symm hj)]
  rw [this]
  exact s
theorem s_aug (so : SOk L N n cl sc W X) {i : Nat} {op : BOp} {e : E} {st : Stmt} (h : chkS L.T N sc (.aug i op e) (.s st) = true) : PS X st (TSm W L.K (exS cl L.gb (.aug i op e))) := by
  simp only [chkS, Ts.one] at h
  split at h <;> first | (cases h; done) | skip
  rename_i y p1 o x spos e'
  cases e'
  simp only [Bool.and_eq_true, decide_eq_true_eq] at h
  obtain ⟨⟨h1, h2⟩, h3⟩ := h
  obtain ⟨hN, hl, hf⟩ := tgN so.o so.lo h1
  cases op with
  | add =>
    cases h2
    refine PS.imp (ps_aug (ti := fun x y H Q => rI0 (fun i j => .int (i + j)) x y H Q ∨ rExt2 x y H Q) (so.o.hN ▸ so.o.nd) (so.o.hN ▸ hN) hl (vt_s so.o h3) (fun pins s σ H x y v u Q I rx ry q => q.elim (iop_add pins s σ H x y v u Q I rx ry) (iop_ext pins s σ H x y v u Q I rx ry)) hf) fun D σ H q => ?_
    obtain ⟨P, F0, io, F, env, s, q⟩ := q
    simp only [exS] at q
    obtain ⟨⟨x, hx⟩, q⟩ := bd_slot s q
    refine ⟨x, hx, ?_⟩
    refine TV.goF (prS W L.K P F0 io D) s q fun v e1 _ y F1 H1 s1 x1 v1 q1 => ?_
    unfold augD at q1
    simp only at q1
    split at q1
    · rename_i a b he hop hv
      rw [hv] at v1
      have r1 : Rp L.K F1 y (.int b) := v1
      cases r1
      obtain ⟨z, z1, z2⟩ := s1.sl i _ he
      rw [hx] at z1
      cases z1
      cases z2
      exact .inl ⟨a, b, rfl, rfl, q1 _ F1 H1 (s1.putVal i (.int _)) (Ext.refl F1)⟩
    · rename_i hop _
      cases hop
    · rename_i xs ys he hop hv
      by_cases hc : xs.length + ys.length ≤ cap
      · rw [if_pos hc] at q1
        rw [hv] at v1
        have r1 : Rp L.K F1 y (.list ys) := v1
        obtain ⟨p, ws, g1, g2, g3, g4, g5, g6⟩ := s1.ownAt (.inl he)
        rw [hx] at g1
        cases g1
        cases r1 with
        | lst k1 k2 =>
          refine .inr ⟨p, _, ws, _, rfl, rfl, g2, s1.fH _ _ k1, by rw [g3.length, k2.length]; exact line_of hc, ?_⟩
          exact q1 _ F1 _ (st_same (s1.wrote (.inl ⟨he, rfl⟩) hx (g3.append k2)) hx) (Ext.refl F1)
      · rw [if_neg hc] at q1
        exact q1.elim
    · exact q1.elim
  | mul =>
    cases h2
    refine PS.imp (ps_aug (so.o.hN ▸ so.o.nd) (so.o.hN ▸ hN) hl (vt_s so.o h3) iop_mul hf) fun D σ H q => ?_
    obtain ⟨P, F0, io, F, env, s, q⟩ := q
    simp only [exS] at q
    obtain ⟨⟨x, hx⟩, q⟩ := bd_slot s q
    refine ⟨x, hx, ?_⟩
    refine TV.goF (prS W L.K P F0 io D) s q fun v e1 _ y F1 H1 s1 x1 v1 q1 => ?_
    unfold augD at q1
    simp only at q1
    split at q1
    · rename_i hop _
      cases hop
    · rename_i a b he hop hv
      by_cases hc : (-(2 ^ 64) < a ∧ a < 2 ^ 64) ∨ (-(2 ^ 64) < b ∧ b < 2 ^ 64)
      · rw [if_pos hc] at q1
        rw [hv] at v1
        have r1 : Rp L.K F1 y (.int b) := v1
        cases r1
        obtain ⟨z, z1, z2⟩ := s1.sl i _ he
        rw [hx] at z1
        cases z1
        cases z2
        exact ⟨a, b, rfl, rfl, hc, q1 _ F1 H1 (s1.putVal i (.int _)) (Ext.refl F1)⟩
      · rw [if_neg hc] at q1
        exact q1.elim
    · rename_i hop _
      cases hop
    · exact q1.elim
  | sub => cases h2
  | fdiv => cases h2
  | mod => cases h2
  | pow => cases h2
end
end MP

/-! Mini, part C13: the statements' soundness, the rest. -/
set_option linter.all false
set_option Elab.async false
set_option maxRecDepth 100000
set_option maxHeartbeats 4000000
namespace MP
open PySem PySem.Spec PyProof.Rows L2
section
variable {L : Wld} {n : Nat} {cl : Cl} {N : List Str} {sc : Scope} {W : WX0} {X : Cx}
theorem few1 {x : Expr} (h : ∀ z q, x ≠ .Starred z q) (cpos : Pos) (env : PySem.Env) : ((backTo cpos (starEach [x] env)).all (fun x => !x.1) && (backToKw cpos (keywordEach [] env)).all (fun x => x.1.isSome)
      && decide (([x] : List Expr).length + ([] : List Keyword).length + (if ([] : List Keyword).isEmpty then 0 else 1) < 30)) = true := by
  rw [star_cons h [] env]
  rfl
theorem few2 {x z : Expr} (h : ∀ z q, x ≠ .Starred z q) (h2 : ∀ w q, z ≠ .Starred w q) (cpos : Pos) (env : PySem.Env) : ((backTo cpos (starEach [x, z] env)).all (fun x => !x.1) && (backToKw cpos (keywordEach [] env)).all (fun x => x.1.isSome)
      && decide (([x, z] : List Expr).length + ([] : List Keyword).length + (if ([] : List Keyword).isEmpty then 0 else 1) < 30)) = true := by
  rw [star_cons h [z] env, star_cons h2 [] env]
  rfl
theorem s_app (so : SOk L N n cl sc W X) {i : Nat} {e : E} {st : Stmt} (h : chkS L.T N sc (.app i e) (.s st) = true) : PS X st (TSm W L.K (exS cl L.gb (.app i e))) := by
  simp only [chkS, Ts.one] at h
  split at h <;> first | (cases h; done) | skip
  rename_i y p1 at_ apos x cpos spos e'
  cases e'
  simp only [Bool.and_eq_true, decide_eq_true_eq] at h
  obtain ⟨⟨⟨rfl, h1⟩, h2⟩, h3⟩ := h
  obtain ⟨n1, n2, n3, n4⟩ := so.o.vis h2
  have hs := chk_star h3
  refine PS.imp (ps_expr (pe_bm PySem.F.plainAttrs_list PySem.F.slot_list_append PySem.F.type_list_append mt_append (pe_var n1 n2 n3 n4) (pa_cons (vt_s so.o h3) pa_nil (star_cons hs [] X.env)) rfl (few1 hs cpos X.env) h1 (star_cons hs [] X.env) rfl) rfl) fun D σ H q => ?_
  obtain ⟨P, F0, io, F, env, s, q⟩ := q
  simp only [exS] at q
  obtain ⟨⟨p, vs, hp, hH⟩, q⟩ := own_slot s q
  refine ⟨_, hp, .inl ⟨rfl, vs, SqL.of hH⟩, ?_⟩
  refine TV.goF (prS W L.K P F0 io D) s q fun v e1 _ y F1 H1 s1 x1 v1 q1 => ?_
  unfold appD at q1
  simp only at q1
  split at q1
  · rename_i xs d he hv
    by_cases hc : xs.length < cap
    · rw [if_pos hc] at q1
      rw [hv] at v1
      have r1 : Rp L.K F1 y d := v1
      obtain ⟨p', ws, g1, g2, g3, g4, g5, g6⟩ := s1.ownAt (.inl he)
      rw [hp] at g1
      cases g1
      exact ⟨p, ws, y, rfl, rfl, g2, by rw [g3.length]; exact line_lt hc, q1 _ F1 _ (s1.wrote (.inl ⟨he, rfl⟩) hp (g3.append (.cons r1 .nil))) (Ext.refl F1)⟩
    · rw [if_neg hc] at q1
      exact q1.elim
  · exact q1.elim
theorem s_ins (so : SOk L N n cl sc W X) {i : Nat} {a e : E} {st : Stmt} (h : chkS L.T N sc (.ins i a e) (.s st) = true) : PS X st (TSm W L.K (exS cl L.gb (.ins i a e))) := by
  simp only [chkS, Ts.one] at h
  split at h <;> first | (cases h; done) | skip
  rename_i y p1 at_ apos x z cpos spos e'
  cases e'
  simp only [Bool.and_eq_true, decide_eq_true_eq] at h
  obtain ⟨⟨⟨⟨rfl, h1⟩, h2⟩, h3⟩, h4⟩ := h
  obtain ⟨n1, n2, n3, n4⟩ := so.o.vis h2
  have hs := chk_star h3
  have hs2 := chk_star h4
  refine PS.imp (ps_expr (pe_bm PySem.F.plainAttrs_list PySem.F.slot_list_insert PySem.F.type_list_insert mt_insert (pe_var n1 n2 n3 n4) (pa_cons (vt_s so.o h3) (pa_cons (vt_s so.o h4) pa_nil (star_cons hs2 [] X.env)) (star_cons hs [z] X.env)) rfl (few2 hs hs2 cpos X.env) h1 (star_cons hs [z] X.env) (by rw [star_cons hs2 [] X.env]; rfl)) rfl) fun D σ H q => ?_
  obtain ⟨P, F0, io, F, env, s, q⟩ := q
  simp only [exS] at q
  obtain ⟨⟨p, vs, hp, hH⟩, q⟩ := own_slot s q
  refine ⟨_, hp, .inl ⟨rfl, vs, SqL.of hH⟩, ?_⟩
  refine TV.goF (prS W L.K P F0 io D) s q fun v e1 _ y F1 H1 s1 x1 v1 q1 => ?_
  refine TV.goF (prS W L.K P F0 io D) s1 q1 fun w e2 _ y2 F2 H2 s2 x2 v2 q2 => ?_
  have v1' := v1.mono x2
  unfold insD at q2
  simp only at q2
  split at q2
  · rename_i xs j d he hv hw
    by_cases hc : xs.length < cap ∧ 0 ≤ j ∧ j < 2 ^ 63
    · rw [if_pos hc] at q2
      rw [hv] at v1'
      rw [hw] at v2
      have r1 : Rp L.K F2 y (.int j) := v1'
      have r2 : Rp L.K F2 y2 d := v2
      cases r1
      obtain ⟨p', ws, g1, g2, g3, g4, g5, g6⟩ := s2.ownAt (.inl he)
      rw [hp] at g1
      cases g1
      refine ⟨p, ws, j, y2, rfl, rfl, g2, by rw [g3.length]; exact line_lt hc.1, hc.2.1, hc.2.2, ?_⟩
      refine q2 _ F2 _ (s2.wrote (.inl ⟨he, rfl⟩) hp ?_) (Ext.refl F2)
      rw [List.append_assoc]
      exact (g3.take _).append (.cons r2 (g3.drop _))
    · rw [if_neg hc] at q2
      exact q2.elim
  · exact q2.elim
theorem s_drop (so : SOk L N n cl sc W X) {e : E} {st : Stmt} (h : chkS L.T N sc (.drop e) (.s st) = true) : PS X st (TSm W L.K (exS cl L.gb (.drop e))) := by
  simp only [chkS, Ts.one] at h
  split at h <;> first | (cases h; done) | skip
  rename_i x spos e'
  cases e'
  simp only [Bool.and_eq_true, Bool.not_eq_true'] at h
  refine PS.imp (ps_expr (vt_s so.o h.1) (sw_no h.2 _ _ _)) fun D σ H q => ?_
  obtain ⟨P, F0, io, F, env, s, q⟩ := q
  simp only [exS] at q
  refine TV.go (prS W L.K P F0 io D) s q fun v e1 _ y F1 H1 s1 x1 v1 q1 => ?_
  exact q1 _ F1 H1 s1 (Ext.refl F1)
theorem s_ret (so : SOk L N n cl sc W X) {e : E} {st : Stmt} (h : chkS L.T N sc (.ret e) (.s st) = true) : PS X st (TSm W L.K (exS cl L.gb (.ret e))) := by
  simp only [chkS, Ts.one] at h
  split at h <;> first | (cases h; done) | skip
  rename_i x spos e'
  cases e'
  refine PS.imp (ps_ret (vt_s so.o h)) fun D σ H q => ?_
  obtain ⟨P, F0, io, F, env, s, q⟩ := q
  simp only [exS] at q
  refine TV.go (prS W L.K P F0 io D) s q fun v e1 _ y F1 H1 s1 x1 v1 q1 => ?_
  cases v with
  | fz d => exact q1 _ _ F1 H1 s1 (Ext.refl F1) v1
  | fr d => exact q1 _ _ F1 H1 s1 (Ext.refl F1) v1
  | fd _ _ => exact q1 _ _ F1 H1 s1 (Ext.refl F1) v1
  | pk _ => exact q1.elim
theorem s_retv (so : SOk L N n cl sc W X) {i : Nat} {st : Stmt} (h : chkS L.T N sc (.retv i) (.s st) = true) : PS X st (TSm W L.K (exS cl L.gb (.retv i))) := by
  simp only [chkS, Ts.one] at h
  split at h <;> first | (cases h; done) | skip
  rename_i y p1 spos e'
  cases e'
  obtain ⟨n1, n2, n3, n4⟩ := so.o.vis h
  refine PS.imp (ps_ret (pe_var n1 n2 n3 n4)) fun D σ H q => ?_
  obtain ⟨P, F0, io, F, env, s, q⟩ := q
  simp only [exS] at q
  cases e : env[i]? with
  | none => rw [e] at q; exact q.elim
  | some sl =>
    rw [e] at q
    have z := s.sl i sl e
    cases sl with
    | un => exact q.elim
    | val d =>
      obtain ⟨v, h1, h2⟩ := z
      exact ⟨v, h1, q v σ F H s (Ext.refl F) h2⟩
    | own ds =>
      obtain ⟨p, vs, h1, h2, h3, h4, h5⟩ := z
      have hi : i < env.length := (List.getElem?_eq_some_iff.mp e).1
      have m : MutAt env σ i p := ⟨by rw [e]; rfl, h1⟩
      have un : ∀ {j : Nat} {p' : Addr}, MutAt (env.set i .un) σ j p' → j ≠ i ∧ MutAt env σ j p' := fun {j p'} ⟨a, b⟩ => by
        by_cases hji : j = i
        · subst hji
          rw [List.getElem?_set_self hi] at a
          cases a
        · rw [List.getElem?_set_ne (Ne.symm hji)] at a
          exact ⟨hji, a, b⟩
      have s1 : StOk L.K P F0 io F (env.set i .un) σ H := ⟨s.pH, s.f0, s.fH, s.hid, by rw [List.length_set]; exact s.len, fun j sl hj => by
          by_cases hji : j = i
          · subst hji
            rw [List.getElem?_set_self hi] at hj
            cases hj
            trivial
          · rw [List.getElem?_set_ne (Ne.symm hji)] at hj
            exact s.sl j sl hj, fun j k p' mj mk => s.dist j k p' (un mj).2 (un mk).2⟩
      exact ⟨_, h1, q _ σ F H s1 (Ext.refl F) ⟨p, vs, rfl, h2, h3, h4, h5, fun j mj => (un mj).1 (s.dist j i p (un mj).2 m)⟩⟩
    | io ds => exact q.elim
    | scr _ => exact q.elim
    | mdk k kvs =>
      obtain ⟨p, u, h1, h2, h3, h4, h5⟩ := z
      have m : MutAt env σ i p := ⟨by rw [e]; rfl, h1⟩
      obtain ⟨s1, nm⟩ := s.give m
      exact ⟨_, h1, q _ σ F H s1 (Ext.refl F) ⟨p, u, rfl, h2, h3, h4, h5, nm⟩⟩
theorem s_raise (so : SOk L N n cl sc W X) {c : Nat} {st : Stmt} (h : chkS L.T N sc (.raise c) (.s st) = true) : PS X st (TSm W L.K (exS cl L.gb (.raise c))) := by
  simp only [chkS, Ts.one] at h
  split at h <;> first | (cases h; done) | skip
  rename_i x p1 m j p2 cpos spos e'
  cases e'
  simp only [Bool.and_eq_true, decide_eq_true_eq] at h
  obtain ⟨h1, h2⟩ := h
  obtain ⟨g1, g2, g3⟩ := so.o.gl h2
  obtain ⟨k1, k2, k3, k4, k5⟩ := so.ex c x h1
  refine PS.imp (ps_raise so.o.calm so.o.tk (pmk_own PySem.F.excBase_ValueError (so.o.hK ▸ k3) (so.o.hmg ▸ k1) (so.o.hK ▸ k2) (raises_own (so.o.hK ▸ k4) (so.o.hK ▸ k5)) g1 g2)) fun D σ H q => ?_
  obtain ⟨P, F0, io, F, env, s, q⟩ := q
  exact ⟨c, rfl, rfl, q H s.pH⟩
theorem putVar_npk {i : Nat} {v : Val} {env e : MP.Env} (h : MP.putVar i v env = .ok e) : ∀ k, v ≠ .pk k := fun k z => by
  subst z
  unfold MP.putVar at h
  split at h <;> cases h
theorem s_asg2 (so : SOk L N n cl sc W X) {i j : Nat} {a b : E} {st : Stmt} (h : chkS L.T N sc (.asg2 i j a b) (.s st) = true) : PS X st (TSm W L.K (exS cl L.gb (.asg2 i j a b))) := by
  simp only [chkS, Ts.one] at h
  split at h <;> first | (cases h; done) | skip
  rename_i x px y py kt pt p q k2 pt2 spos e'
  cases e'
  simp only [Bool.and_eq_true, decide_eq_true_eq, Bool.not_eq_true'] at h
  obtain ⟨⟨⟨⟨⟨h1, h2⟩, h3⟩, h4⟩, h5⟩, h6⟩ := h
  have hij : i ≠ j := by
    intro z
    rw [z] at h3
    simp at h3
  have sa := chk_star h4
  have sb := chk_star h5
  have o := so.o
  have keyG : ∀ {σ : L2.St} {D : Ends} {Q : V → V → Hp → Prop}, (∀ {P F0 F2 H2 : Hp} {io : Option Addr} {e2 : MP.Env} {x y : V} {v w : Val}, StOk L.K P F0 io F2 e2 σ H2 → ValOk L.K P F2 H2 e2 σ x v → ValOk L.K P F2 H2 e2 σ y w → (isOw v = true → isOw w = true → x ≠ y) → PostS W L.K P F0 io F2 D (if i ≠ j then (putVar i v e2).bind fun e1 => (putVar j w e1).bind fun e2 => .ok (.next, e2) else .stuck) → Q x y H2) →
      ∀ {H : Hp}, TSm W L.K (exS cl L.gb (.asg2 i j a b)) D σ H → TV W L.K (ev cl L.gb a).v σ H fun x H1 => TV W L.K (ev cl L.gb b).v σ H1 fun y H2 => Q x y H2 := by
    intro σ D Q fin H q
    obtain ⟨P, F0, io, F, env, s, q⟩ := q
    simp only [exS] at q
    refine TV.go (prS W L.K P F0 io D) s q fun v e1 _ x F1 H1 s1 x1 v1 q1 => ?_
    exact TV.hold (prS W L.K P F0 io D) s1 v1 q1 fun w e2 _ y F2 H2 s2 x2 v2 w2 sep q2 => fin s2 v2 w2 sep q2
  have keyE : ∀ {σ : L2.St} {D : Ends} {P F0 F2 H2 : Hp} {io : Option Addr} {e2 : MP.Env} {x y : V} {v w : Val}, StOk L.K P F0 io F2 e2 σ H2 → ValOk L.K P F2 H2 e2 σ x v → ValOk L.K P F2 H2 e2 σ y w → (isOw v = true → isOw w = true → x ≠ y) → PostS W L.K P F0 io F2 D (if i ≠ j then (putVar i v e2).bind fun e1 => (putVar j w e1).bind fun e2 => .ok (.next, e2) else .stuck) → D.nx ((σ.set i (some x)).set j (some y)) H2 := by
    intro σ D P F0 F2 H2 io e2 x y v w s2 v2 w2 sep q2
    rw [if_pos hij] at q2
    obtain ⟨e3, g3, q3⟩ := PR.bind (C := prS W L.K P F0 io D) q2 fun c => putVar_exc
    obtain ⟨e4, g4, q4⟩ := PR.bind (C := prS W L.K P F0 io D) q3 fun c => putVar_exc
    obtain ⟨s3, hv⟩ := s2.putVar v2 g3
    have w3 := w2.put (putVar_npk g4) sep hv
    exact q4 _ F2 H2 (s3.putVar w3 g4).1 (Ext.refl F2)
  rw [Bool.or_eq_true] at h6
  rcases h6 with h6 | h6
  · have h6' := h6
    unfold parOk at h6'
    simp only [Bool.and_eq_true, Bool.not_eq_true'] at h6'
    obtain ⟨⟨⟨⟨⟨l1, l2⟩, _⟩, _⟩, _⟩, _⟩ := h6'
    refine PS.imp (ps_par o.calm (o.hN ▸ o.nd) (o.hN ▸ h1) (o.hN ▸ h2) hij (by rw [o.hsc]; exact lookup_loc l1) (by rw [o.hsc]; exact lookup_loc l2) (pa_cons (vt_s o h4) (pa_cons (vt_s o h5) pa_nil (star_cons sb [] X.env)) (star_cons sa [q] X.env)) (par_sw (by rw [o.hsc]; exact so.kd) (by rw [o.hsc]; exact h6) sa sb) rfl) fun D σ H q => ?_
    have := keyG (D := D) (Q := fun x y H2 => ∃ u v, [x, y] = [u, v] ∧ D.nx ((σ.set i (some u)).set j (some v)) H2) (fun s2 v2 w2 sep q2 => ⟨_, _, rfl, keyE s2 v2 w2 sep q2⟩) q
    exact this
  · rw [Bool.and_eq_true, Bool.not_eq_true'] at h6
    obtain ⟨t1, t2⟩ := h6
    have hg := pg_tgOk (tg := .tup [i, j]) o.calm o.hN o.nd so.lo t1
    refine PS.imp (ps_asg (pe_tup (pa_cons (vt_s o h4) (pa_cons (vt_s o h5) pa_nil (star_cons sb [] X.env)) (star_cons sa [q] X.env))) hg (by cases a <;> rfl) (sw_cell (by rw [o.hsc]; exact t2) sa sb)) fun D σ H q => ?_
    rw [o.hK]
    refine keyG (D := D) (Q := fun x y H2 => [x, y].length ≤ sizeLine ∧ ∀ T, H2 T = none → gTg L.K (.tup [i, j]) (.ref T) σ (upd H2 T (.tup [x, y])) D.nx) (fun {P F0 F2 H2 io e2 x y v w} s2 v2 w2 sep q2 => ⟨by show 2 ≤ sizeLine; decide, fun T hT => ?_⟩) q
    refine ⟨T, [x, y], rfl, SqT.of upd_same, rfl, x, [y], rfl, y, [], rfl, rfl, ?_⟩
    exact keyE (s2.alloc hT _) (v2.alloc _ hT) (w2.alloc _ hT) sep q2
theorem s_asg3 (so : SOk L N n cl sc W X) {i j l : Nat} {a b c : E} {st : Stmt} (h : chkS L.T N sc (.asg3 i j l a b c) (.s st) = true) : PS X st (TSm W L.K (exS cl L.gb (.asg3 i j l a b c))) := by
  simp only [chkS, Ts.one] at h
  split at h <;> first | (cases h; done) | skip
  rename_i x px y py z pz kt pt p q r k2 pt2 spos e'
  cases e'
  simp only [Bool.and_eq_true, decide_eq_true_eq] at h
  obtain ⟨⟨⟨⟨⟨⟨h1, h2⟩, h3⟩, h4⟩, h5⟩, h7⟩, h6⟩ := h
  have sa := chk_star h4
  have sb := chk_star h5
  have sc' := chk_star h7
  have o := so.o
  have keyG : ∀ {σ : L2.St} {D : Ends} {Q : V → V → V → Hp → Prop}, (∀ {P F0 F3 H3 : Hp} {io : Option Addr} {e3 : MP.Env} {x y z : V} {v w u : Val}, StOk L.K P F0 io F3 e3 σ H3 → ValOk L.K P F3 H3 e3 σ x v → ValOk L.K P F3 H3 e3 σ y w → ValOk L.K P F3 H3 e3 σ z u → (isOw v = true → isOw w = true → x ≠ y) → (isOw v = true → isOw u = true → x ≠ z) → (isOw w = true → isOw u = true → y ≠ z) → PostS W L.K P F0 io F3 D (if i ≠ j ∧ i ≠ l ∧ j ≠ l then (putVar i v e3).bind fun e1 => (putVar j w e1).bind fun e2 => (putVar l u e2).bind fun e3 => .ok (.next, e3) else .stuck) → Q x y z H3) →
      ∀ {H : Hp}, TSm W L.K (exS cl L.gb (.asg3 i j l a b c)) D σ H → TV W L.K (ev cl L.gb a).v σ H fun x H1 => TV W L.K (ev cl L.gb b).v σ H1 fun y H2 => TV W L.K (ev cl L.gb c).v σ H2 fun z H3 => Q x y z H3 := by
    intro σ D Q fin H q
    obtain ⟨P, F0, io, F, env, s, q⟩ := q
    simp only [exS] at q
    refine TV.go (prS W L.K P F0 io D) s q fun v e1 _ x F1 H1 s1 x1 v1 q1 => ?_
    refine TV.hold (prS W L.K P F0 io D) s1 v1 q1 fun w e2 _ y F2 H2 s2 x2 v2 w2 sep q2 => ?_
    exact TV.hold2 (prS W L.K P F0 io D) s2 v2 w2 sep q2 fun u e3 _ z F3 H3 s3 x3 v3 w3 u3 sep2 sep3 q3 => fin s3 v3 w3 u3 sep sep2 sep3 q3
  have keyE : ∀ {σ : L2.St} {D : Ends} {P F0 F3 H3 : Hp} {io : Option Addr} {e3 : MP.Env} {x y z : V} {v w u : Val}, i ≠ j ∧ i ≠ l ∧ j ≠ l → StOk L.K P F0 io F3 e3 σ H3 → ValOk L.K P F3 H3 e3 σ x v → ValOk L.K P F3 H3 e3 σ y w → ValOk L.K P F3 H3 e3 σ z u → (isOw v = true → isOw w = true → x ≠ y) → (isOw v = true → isOw u = true → x ≠ z) → (isOw w = true → isOw u = true → y ≠ z) → PostS W L.K P F0 io F3 D (if i ≠ j ∧ i ≠ l ∧ j ≠ l then (putVar i v e3).bind fun e1 => (putVar j w e1).bind fun e2 => (putVar l u e2).bind fun e3 => .ok (.next, e3) else .stuck) → D.nx (((σ.set i (some x)).set j (some y)).set l (some z)) H3 := by
    intro σ D P F0 F3 H3 io e3 x y z v w u hne s3 v3 w3 u3 sep sep2 sep3 q3
    rw [if_pos hne] at q3
    obtain ⟨e4, g4, q4⟩ := PR.bind (C := prS W L.K P F0 io D) q3 fun c => putVar_exc
    obtain ⟨e5, g5, q5⟩ := PR.bind (C := prS W L.K P F0 io D) q4 fun c => putVar_exc
    obtain ⟨e6, g6, q6⟩ := PR.bind (C := prS W L.K P F0 io D) q5 fun c => putVar_exc
    obtain ⟨s4, hv⟩ := s3.putVar v3 g4
    have w4 := w3.put (putVar_npk g5) sep hv
    have u4 := u3.put (putVar_npk g6) sep2 hv
    obtain ⟨s5, hw⟩ := s4.putVar w4 g5
    have u5 := u4.put (putVar_npk g6) sep3 hw
    exact q6 _ F3 H3 (s5.putVar u5 g6).1 (Ext.refl F3)
  rw [Bool.or_eq_true] at h6
  rcases h6 with h6 | h6
  · have h6' := h6
    unfold parOk3 at h6'
    simp only [Bool.and_eq_true, Bool.not_eq_true'] at h6'
    obtain ⟨⟨⟨⟨⟨⟨⟨⟨⟨l1, l2⟩, l3⟩, _⟩, _⟩, nxy⟩, nxz⟩, nyz⟩, _⟩, _⟩ := h6'
    have hij : i ≠ j := by
      intro w
      rw [w, h2] at h1
      cases h1
      simp at nxy
    have hil : i ≠ l := by
      intro w
      rw [w, h3] at h1
      cases h1
      simp at nxz
    have hjl : j ≠ l := by
      intro w
      rw [w, h3] at h2
      cases h2
      simp at nyz
    refine PS.imp (ps_par3 o.calm (o.hN ▸ o.nd) (o.hN ▸ h1) (o.hN ▸ h2) (o.hN ▸ h3) hij hil hjl (by rw [o.hsc]; exact lookup_loc l1) (by rw [o.hsc]; exact lookup_loc l2) (by rw [o.hsc]; exact lookup_loc l3) (pa_cons (vt_s o h4) (pa_cons (vt_s o h5) (pa_cons (vt_s o h7) pa_nil (star_cons sc' [] X.env)) (star_cons sb [r] X.env)) (star_cons sa [q, r] X.env)) (par_sw3 (by rw [o.hsc]; exact so.kd) (by rw [o.hsc]; exact h6) sa sb sc') rfl) fun D σ H q => ?_
    have := keyG (D := D) (Q := fun x y z H3 => ∃ u v w, [x, y, z] = [u, v, w] ∧ D.nx (((σ.set i (some u)).set j (some v)).set l (some w)) H3) (fun s3 v3 w3 u3 sep sep2 sep3 q3 => ⟨_, _, _, rfl, keyE ⟨hij, hil, hjl⟩ s3 v3 w3 u3 sep sep2 sep3 q3⟩) q
    exact this
  · simp only [Bool.and_eq_true, Bool.not_eq_true'] at h6
    obtain ⟨⟨⟨⟨t1, n1⟩, n2⟩, n3⟩, t2⟩ := h6
    have hij : i ≠ j := by simpa using n1
    have hil : i ≠ l := by simpa using n2
    have hjl : j ≠ l := by simpa using n3
    have hg := pg_tgOk (tg := .tup [i, j, l]) o.calm o.hN o.nd so.lo t1
    refine PS.imp (ps_asg (pe_tup (pa_cons (vt_s o h4) (pa_cons (vt_s o h5) (pa_cons (vt_s o h7) pa_nil (star_cons sc' [] X.env)) (star_cons sb [r] X.env)) (star_cons sa [q, r] X.env))) hg (by cases a <;> rfl) (sw_cell3 (by rw [o.hsc]; exact t2) sa sb sc')) fun D σ H q => ?_
    rw [o.hK]
    refine keyG (D := D) (Q := fun x y z H3 => [x, y, z].length ≤ sizeLine ∧ ∀ T, H3 T = none → gTg L.K (.tup [i, j, l]) (.ref T) σ (upd H3 T (.tup [x, y, z])) D.nx) (fun {P F0 F3 H3 io e3 x y z v w u} s3 v3 w3 u3 sep sep2 sep3 q3 => ⟨by show 3 ≤ sizeLine; decide, fun T hT => ?_⟩) q
    refine ⟨T, [x, y, z], rfl, SqT.of upd_same, rfl, x, [y, z], rfl, y, [z], rfl, z, [], rfl, rfl, ?_⟩
    exact keyE ⟨hij, hil, hjl⟩ (s3.alloc hT _) (v3.alloc _ hT) (w3.alloc _ hT) (u3.alloc _ hT) sep sep2 sep3 q3
end
end MP

/-! Mini, part C13b: a body whose exceptions are caught. -/
set_option linter.all false
set_option Elab.async false
set_option maxRecDepth 100000
set_option maxHeartbeats 4000000
namespace MP
open PySem PySem.Spec PyProof.Rows L2
section
variable {L : Wld} {n : Nat} {cl : Cl} {N : List Str} {sc : Scope} {W : WX0} {X : Cx}
theorem cst_str {a : PyData} {c : Str} (h : cstOk a (.str c) = true) : a = .str c := by
  cases a <;> first | (cases h; done) | skip
  rename_i z
  have : (z == c) = true := h
  rw [eq_of_beq this]
/-- all that stands is kept: P becomes the whole heap -/
theorem StOk.still {P F0 F H : Hp} {io : Option Addr} {env : MP.Env} {σ : L2.St} (s : StOk L.K P F0 io F env σ H) (h : env.all stillS = true) : StOk L.K H F io F env σ H := by
  have no : ∀ (i : Nat) (sl : Slot), env[i]? = some sl → stillS sl = true := fun i sl e => List.all_eq_true.mp h sl (List.mem_of_getElem? e)
  refine ⟨Ext.refl H, Ext.refl F, s.fH, fun _ _ _ h => h, s.len, fun i sl e => ?_, s.dist⟩
  have q := s.sl i sl e
  have z := no i sl e
  cases sl with
  | un => trivial
  | val d => exact q
  | scr ns => exact q
  | own _ => cases z
  | io _ => cases z
  | mdk _ _ => cases z
/-- .. and back -/
theorem StOk.unstill {P F0 F F' H H' : Hp} {io : Option Addr} {env env' : MP.Env} {σ σ' : L2.St} (s : StOk L.K P F0 io F env σ H) (s' : StOk L.K H F io F' env' σ' H') : StOk L.K P F0 io F' env' σ' H' := by
  refine ⟨s.pH.trans s'.pH, s.f0.trans s'.f0, s'.fH, fun p o h1 h2 => s'.hid p o (s.pH p o h1) (s.hid p o h1 h2), s'.len, fun i sl e => ?_, s'.dist⟩
  have q := s'.sl i sl e
  cases sl with
  | un => trivial
  | val d => exact q
  | own ds =>
    obtain ⟨p, vs, h1, h2, h3, h4, h5⟩ := q
    exact ⟨p, vs, h1, h2, h3, h4, s.pH.none h5⟩
  | io ds =>
    obtain ⟨p, vs, h0, h1, h2, h3, h4, h5⟩ := q
    exact ⟨p, vs, h0, h1, h2, h3, h4, s.pH.none h5⟩
  | scr ns => exact q
  | mdk k kvs =>
    obtain ⟨p, u, h1, h2, h3, h4, h5⟩ := q
    exact ⟨p, u, h1, h2, h3, h4, s.pH.none h5⟩
theorem s_try (so : SOk L N n cl sc W X) {body : S} {i lim : Nat} {yes : List Nat} {a b : PyData} (hb : SndS L n cl body) {st : Stmt} (h : chkS L.T N sc (.try_ body i lim yes a b) (.s st) = true) : PS X st (TSm W L.K (exS cl L.gb (.try_ body i lim yes a b))) := by
  simp only [chkS, Ts.one] at h
  split at h <;> first | (cases h; done) | skip
  rename_i p x px nm f pf n2 pn2 y py ppos ca j1 p1 cb j2 p2 ipos rpos hpos tpos e'
  cases e'
  simp only [Bool.and_eq_true, decide_eq_true_eq, Bool.not_eq_true'] at h
  obtain ⟨⟨⟨⟨⟨⟨⟨⟨⟨⟨⟨⟨⟨⟨⟨htr, hlim⟩, rfl⟩, hgf⟩, rfl⟩, hN⟩, hloc⟩, hdb⟩, hcd⟩, hgx⟩, hgy⟩, ha⟩, hbb⟩, hc0⟩, hc1⟩, hbody⟩ := h
  obtain ⟨c0, m0, hc0⟩ := List.any_eq_true.mp hc0
  obtain ⟨c1, m1, hc1⟩ := List.any_eq_true.mp hc1
  simp only [Bool.and_eq_true, decide_eq_true_eq, List.all_eq_true, List.mem_range, beq_iff_eq] at hc0 hc1 m0 m1
  cases cst_str ha
  cases cst_str hbb
  obtain ⟨gx1, gx2, gx3⟩ := so.o.gl hgx
  obtain ⟨gy1, gy2, gy3⟩ := so.o.gl hgy
  obtain ⟨gf1, gf2, gf3⟩ := so.o.gl hgf
  have K0 := so.ex c0 x hc0.1
  have K1 := so.ex c1 y hc1.1
  have hln : X.env.scope.names.lookup n2 = some .local := by rw [so.o.hsc]; exact lookup_loc hloc
  have cls : ∀ c, c < lim → ∃ z, L.T.ex[c]? = some z := fun c hc => ⟨_, List.getElem?_eq_getElem (by omega)⟩
  let ts : Addr → Value → Option Addr → TS := fun ad cls d D σ H => ∃ (c : Nat) (σ0 : L2.St), c < lim ∧ cls = .ref (L.xa c) ∧ d = none ∧ σ = σ0.set i (some (.ref ad)) ∧ D.rt (.str (if c ∈ yes then ca else cb)) H
  refine PS.imp (ps_try_as (Wout := XW L W) (ts := ts) (tb := fun W => TSm (fun c H => ∀ σ, W (.ref (L.xa c)) none σ H) L.K (exS cl L.gb body)) (c := .ref (L.xa c0)) (i := i) so.stk so.frm (so.o.hN ▸ so.o.nd) (so.o.hN ▸ hN) hln ⟨gx1, gx2, .inl (so.o.hmg ▸ K0.1)⟩ so.o.tk (fun W' pn xe tk ps => ?_) (fun ad oe cls' d pn hz hf => ?_)) fun D σ H q => ?_
  · refine ((hb.run (X := X.tr pn xe) (sc := sc) (N := N) ⟨⟨so.o.hP, so.o.hw, so.o.hK, so.o.hmg, so.o.hbase, so.o.hN, so.o.nd, so.o.hsc, so.o.calm, so.o.room, so.o.fns, so.o.gb, so.o.blt, ?_⟩, so.lo, ps, so.kd, so.ex, so.tr, so.stk, so.frm⟩).2 _ hbody)
    exact Takes.imp tk fun cls d σ H ⟨c, e1, e2, q⟩ => by
      subst e1 e2
      exact q σ
  · refine ⟨fun pins s σ H D I hh => ?_⟩
    obtain ⟨c, σ0, hc, rfl, rfl, rfl, hD⟩ := hh
    obtain ⟨z, hz0⟩ := cls c hc
    obtain ⟨kE, kS⟩ := so.tr htr c z hz0
    have kI := (kS c1 y hc1.1).2
    have hXN : (X.suite ad ((ad, oe) :: pn)).N[i]? = some n2 := so.o.hN ▸ hN
    have hil : i < σ0.length := by
      have := I.len
      rw [List.length_set] at this
      rw [this]
      exact (List.getElem?_eq_some_iff.mp hXN).1
    have hi : (σ0.set i (some (V.ref ad)))[i]? = some (some (V.ref ad)) := List.getElem?_set_self hil
    have hn : ∀ (z : Expr) q, Expr.Name n2 pn2 ≠ .Starred z q := fun _ _ z => by cases z
    have hn2 : ∀ (z : Expr) q, Expr.Name y py ≠ .Starred z q := fun _ _ z => by cases z
    have kE' : ExcC (X.suite ad ((ad, oe) :: pn)).K (L.xa c) := by
      show ExcC X.K _
      rw [so.o.hK]
      exact kE
    have pe := pe_callB (X := X.suite ad ((ad, oe) :: pn)) (pos := ppos) (p := pf) (call_isE (X := X) (pn := pn) kE' hz hf) gf1 (so.o.bl (by decide +kernel)) boot_isinstance (pa_cons (pe_var (pos := pn2) hXN (.inl hln) hdb hcd) (pa_cons (pe_glob (pos := py) (v := .ref (L.xa c1)) gy1 (so.o.hmg ▸ K1.1) rfl gy2) pa_nil (star_cons hn2 [] X.env)) (star_cons hn _ X.env)) gf3 gf2 (star_cons hn _ X.env) (star_any (fun w hw => by
      have : w = .Name y py := by simpa using hw
      subst this
      exact hn2) ppos X.env)
    refine (pss_one (ps_ret (X := X.suite ad ((ad, oe) :: pn)) (pos := rpos) (pe_ifExp (pos := ipos) (pt_truth pe fun _ => rfl) (pe_str (j := j1) (pos := p1)) (pe_str (j := j2) (pos := p2))))).run pins s _ H D I ?_
    refine ⟨V.ref ad, hi, .ref (L.xa c1), .ref (L.xa c1), L.T.sub c c1, rfl, fun u hu => hu, ?_, L.T.sub c c1, rfl, ?_⟩
    · show PySem.W.kitOne X.K _ _ = _
      rw [so.o.hK]
      exact kI
    · rw [hc1.2 c hc]
      by_cases hy : c ∈ yes
      · rw [decide_eq_true hy]
        rw [if_pos hy] at hD
        exact hD
      · rw [decide_eq_false hy]
        rw [if_neg hy] at hD
        exact hD
  · obtain ⟨P, F0, io, F, env, s, q⟩ := q
    simp only [exS] at q
    by_cases hst : env.all stillS = true
    · rw [if_pos hst] at q
      have s1 := s.still hst
      refine ⟨H, F, io, F, env, s1, ?_⟩
      cases hr : exS cl L.gb body env with
      | stuck => rw [hr] at q; exact q.elim
      | exc c =>
        rw [hr] at q
        simp only at q
        intro H' hH' σ'
        by_cases hc : c < lim
        · rw [if_pos hc] at q
          obtain ⟨z, hz0⟩ := cls c hc
          have kX := ((so.tr htr c z hz0).2 c0 x hc0.1).1
          refine ⟨true, ?_, fun _ ad had => ⟨c, σ', hc, rfl, rfl, rfl, ?_⟩, fun z => by cases z⟩
          · rw [so.o.hK, kX, hc0.2 c hc]
          · refine q _ σ F H' (s.ext hH' (Ext.refl F) (s.fH.trans hH') fun _ _ _ h => h) (Ext.refl F) ?_
            show Rp L.K F _ (if c ∈ yes then .str ca else .str cb)
            by_cases hy : c ∈ yes
            · rw [if_pos hy, if_pos hy]
              exact .str _
            · rw [if_neg hy, if_neg hy]
              exact .str _
        · rw [if_neg hc] at q
          exact q.elim
      | ok w =>
        obtain ⟨fl, e1⟩ := w
        rw [hr] at q
        cases fl with
        | next => exact fun σ' F' H' s' x' => q σ' F' H' (s.unstill s') x'
        | ret r =>
          intro v σ' F' H' s' x' hv
          refine q v σ' F' H' (s.unstill s') x' ?_
          cases r with
          | fz d => exact hv
          | fr ds =>
            obtain ⟨p', ws, h0, h1, h2, h3, h4, h5⟩ := hv
            exact ⟨p', ws, h0, h1, h2, h3, s.pH.none h4, h5⟩
          | fd k ds =>
            obtain ⟨p', u, h0, h1, h2, h3, h4, h5⟩ := hv
            exact ⟨p', u, h0, h1, h2, h3, s.pH.none h4, h5⟩
    · rw [if_neg hst] at q
      exact q.elim
end
end MP

/-! Mini, part K: the lists of children: lists in a list that are changed. -/
set_option linter.all false
set_option Elab.async false
set_option maxRecDepth 100000
set_option maxHeartbeats 4000000
namespace MP
open PySem PySem.Spec PyProof.Rows L2
section
variable {K : PySem.W.Frag} {P F0 F H : Hp} {io : Option Addr} {env : MP.Env} {σ : L2.St}
/-- a slot that is not looked at any more -/
theorem StOk.unset (s : StOk K P F0 io F env σ H) (i : Nat) : StOk K P F0 io F (env.set i .un) σ H := ⟨s.pH, s.f0, s.fH, s.hid, by rw [List.length_set]; exact s.len, fun j sl hj => by
  by_cases hji : j = i
  · subst hji
    by_cases hl : j < env.length
    · rw [List.getElem?_set_self hl] at hj
      cases hj
      trivial
    · rw [List.getElem?_eq_none (by simpa using hl)] at hj
      cases hj
  · rw [List.getElem?_set_ne (Ne.symm hji)] at hj
    exact s.sl j sl hj, fun j k p mj mk => by
  have un : ∀ {j : Nat} {p' : Addr}, MutAt (env.set i .un) σ j p' → MutAt env σ j p' := fun {j p'} ⟨a, b⟩ => by
    by_cases hji : j = i
    · subst hji
      by_cases hl : j < env.length
      · rw [List.getElem?_set_self hl] at a
        cases a
      · rw [List.getElem?_eq_none (by simpa using hl)] at a
        cases a
    · rw [List.getElem?_set_ne (Ne.symm hji)] at a
      exact ⟨a, b⟩
  exact s.dist j k p (un mj) (un mk)⟩
theorem mut_unset {i j : Nat} {p : Addr} (m : MutAt (env.set i .un) σ j p) : MutAt env σ j p := by
  obtain ⟨a, b⟩ := m
  by_cases hji : j = i
  · subst hji
    by_cases hl : j < env.length
    · rw [List.getElem?_set_self hl] at a
      cases a
    · rw [List.getElem?_eq_none (by simpa using hl)] at a
      cases a
  · rw [List.getElem?_set_ne (Ne.symm hji)] at a
    exact ⟨a, b⟩
/-- an object that nobody told of is changed -/
theorem StOk.touch (s : StOk K P F0 io F env σ H) {q : Addr} (u : HO) (hF : F q = none) (hP : P q = none) (hm : ∀ j, ¬ MutAt env σ j q) : StOk K P F0 io F env σ (upd H q u) := by
  have keep : ∀ a o, H a = some o → a ≠ q → upd H q u a = some o := fun a o h hq => by rw [upd_ne hq]; exact h
  refine ⟨fun a o h => keep a o (s.pH a o h) (fun z => by rw [z, hP] at h; cases h), s.f0, fun a o h => keep a o (s.fH a o h) (fun z => by rw [z, hF] at h; cases h), s.hid, s.len, fun j sj hj => ?_, s.dist⟩
  have w := s.sl j sj hj
  cases sj with
  | un => trivial
  | val d => exact w
  | own ds =>
    obtain ⟨p', vs, q1, q2, q3, q4, q5⟩ := w
    have ne : p' ≠ q := fun z => hm j ⟨by rw [hj]; rfl, z ▸ q1⟩
    exact ⟨p', vs, q1, keep _ _ q2 ne, q3, q4, q5⟩
  | io ds =>
    obtain ⟨p', vs, q0, q1, q2, q3, q4, q5⟩ := w
    have ne : p' ≠ q := fun z => hm j ⟨by rw [hj]; rfl, z ▸ q1⟩
    exact ⟨p', vs, q0, q1, keep _ _ q2 ne, q3, q4, q5⟩
  | scr ns => exact w
  | mdk k kvs =>
    obtain ⟨p', u', q1, q2, q3, q4, q5⟩ := w
    have ne : p' ≠ q := fun z => hm j ⟨by rw [hj]; rfl, z ▸ q1⟩
    exact ⟨p', u', q1, keep _ _ q2 ne, q3, q4, q5⟩
/-- some objects of one's own -/
def Mine (P F : Hp) (env : MP.Env) (σ : L2.St) (a : Addr) : Prop := F a = none ∧ P a = none ∧ ∀ i, ¬ MutAt env σ i a
theorem StOk.pins : ∀ (as : List (Addr × HO)) {P : Hp}, StOk K P F0 io F env σ H → (as.map (·.1)).Nodup → (∀ x ∈ as, H x.1 = some x.2 ∧ Mine P F env σ x.1) → ∃ P', StOk K P' F0 io F env σ H ∧ Ext P P' ∧ ∀ x ∈ as, P' x.1 = some x.2
  | [], P, s, _, _ => ⟨P, s, Ext.refl P, fun _ z => by cases z⟩
  | (a, o) :: as, P, s, nd, h => by
    rw [List.map_cons, List.nodup_cons] at nd
    obtain ⟨h1, h2, h3, h4⟩ := h (a, o) (by simp)
    have s1 := s.pin h1 h2 h4
    obtain ⟨P', s2, e2, h5⟩ := StOk.pins as s1 nd.2 fun x hx => by
      obtain ⟨g1, g2, g3, g4⟩ := h x (List.mem_cons_of_mem _ hx)
      have ne : x.1 ≠ a := fun z => nd.1 (List.mem_map.mpr ⟨x, hx, z⟩)
      exact ⟨g1, g2, by rw [upd_ne ne]; exact g3, g4⟩
    refine ⟨P', s2, (Ext.upd h3).trans e2, fun x hx => ?_⟩
    rcases List.mem_cons.mp hx with rfl | hx
    · exact e2 _ _ upd_same
    · exact h5 x hx
theorem StOk.freezes : ∀ (as : List (Addr × HO)) {F : Hp}, StOk K P F0 io F env σ H → (as.map (·.1)).Nodup → (∀ x ∈ as, H x.1 = some x.2 ∧ Mine P F env σ x.1) → ∃ F', StOk K P F0 io F' env σ H ∧ Ext F F' ∧ ∀ x ∈ as, F' x.1 = some x.2
  | [], F, s, _, _ => ⟨F, s, Ext.refl F, fun _ z => by cases z⟩
  | (a, o) :: as, F, s, nd, h => by
    rw [List.map_cons, List.nodup_cons] at nd
    obtain ⟨h1, h2, h3, h4⟩ := h (a, o) (by simp)
    obtain ⟨s1, e1⟩ := s.freeze h1 h2 h3 h4
    obtain ⟨F', s2, e2, h5⟩ := StOk.freezes as s1 nd.2 fun x hx => by
      obtain ⟨g1, g2, g3, g4⟩ := h x (List.mem_cons_of_mem _ hx)
      have ne : x.1 ≠ a := fun z => nd.1 (List.mem_map.mpr ⟨x, hx, z⟩)
      exact ⟨g1, by rw [upd_ne ne]; exact g2, g3, g4⟩
    refine ⟨F', s2, e1.trans e2, fun x hx => ?_⟩
    rcases List.mem_cons.mp hx with rfl | hx
    · exact e2 _ _ upd_same
    · exact h5 x hx
/-- a list of lists of ints, each of its own -/
def kV1 (l : List Nat) : HO := .lst (l.map fun k : Nat => V.int k)
structure Kid (H : Hp) (p : Addr) (qs : List Addr) (xss : List (List Nat)) : Prop where
  top : H p = some (.lst (qs.map V.ref))
  len : qs.length = xss.length
  at_ : ∀ (j : Nat) (q : Addr) (l : List Nat), qs[j]? = some q → xss[j]? = some l → H q = some (kV1 l)
  nd : qs.Nodup
  ni : p ∉ qs
theorem Kid.mono {H H' : Hp} {p : Addr} {qs : List Addr} {xss : List (List Nat)} (e : Ext H H') (k : Kid H p qs xss) : Kid H' p qs xss := ⟨e _ _ k.top, k.len, fun j q l h1 h2 => e _ _ (k.at_ j q l h1 h2), k.nd, k.ni⟩
/-- all of it, address by address -/
def kidA (p : Addr) (qs : List Addr) (xss : List (List Nat)) : List (Addr × HO) := (p, .lst (qs.map V.ref)) :: (qs.zip (xss.map kV1))
theorem zip_fst {α β : Type} : ∀ {xs : List α} {ys : List β}, xs.length = ys.length → (xs.zip ys).map (·.1) = xs
  | [], [], _ => rfl
  | _ :: xs, _ :: ys, h => by
    rw [List.zip_cons_cons, List.map_cons, zip_fst (by simpa using h)]
  | [], _ :: _, h => by simp at h
  | _ :: _, [], h => by simp at h
theorem kid_nd {H : Hp} {p : Addr} {qs : List Addr} {xss : List (List Nat)} (k : Kid H p qs xss) : ((kidA p qs xss).map (·.1)).Nodup := by
  unfold kidA
  rw [List.map_cons, zip_fst (by rw [List.length_map]; exact k.len), List.nodup_cons]
  exact ⟨k.ni, k.nd⟩
theorem kid_mem {H : Hp} {p : Addr} {qs : List Addr} {xss : List (List Nat)} (k : Kid H p qs xss) : ∀ x ∈ kidA p qs xss, H x.1 = some x.2 ∧ (x.1 = p ∨ x.1 ∈ qs) := fun x hx => by
  unfold kidA at hx
  rcases List.mem_cons.mp hx with rfl | hx
  · exact ⟨k.top, .inl rfl⟩
  · obtain ⟨j, hj, e⟩ := List.mem_iff_getElem.mp hx
    rw [List.length_zip, List.length_map] at hj
    have e1 : qs[j]? = some x.1 := by
      rw [← e, List.getElem_zip, List.getElem?_eq_getElem (by omega)]
    have e2 : ∃ l, xss[j]? = some l ∧ x.2 = kV1 l := ⟨xss[j], List.getElem?_eq_getElem (by omega), by rw [← e, List.getElem_zip, List.getElem_map]⟩
    obtain ⟨l, e2, e3⟩ := e2
    exact ⟨by rw [e3]; exact k.at_ j _ l e1 e2, .inr (List.mem_of_getElem? e1)⟩
theorem kid_back {H' H : Hp} {p : Addr} {qs : List Addr} {xss : List (List Nat)} (k : Kid H p qs xss) (h : ∀ x ∈ kidA p qs xss, H' x.1 = some x.2) : Kid H' p qs xss := by
  refine ⟨h (p, _) (List.mem_cons_self ..), k.len, fun j q l h1 h2 => ?_, k.nd, k.ni⟩
  refine h (q, kV1 l) (List.mem_cons_of_mem _ ?_)
  refine List.mem_of_getElem? (i := j) ?_
  rw [List.getElem?_zip_eq_some]
  exact ⟨h1, by rw [List.getElem?_map, h2]; rfl⟩
theorem rpa_kid {p : Addr} {qs : List Addr} {xss : List (List Nat)} (k : Kid F p qs xss) : Rp K F (.ref p) (.list (xss.map fun l => .list (l.map fun k : Nat => .int k))) := by
  refine .lst k.top ?_
  have key : ∀ (qs : List Addr) (xss : List (List Nat)), qs.length = xss.length → (∀ (j : Nat) (q : Addr) (l : List Nat), qs[j]? = some q → xss[j]? = some l → F q = some (kV1 l)) → RpA K F (qs.map V.ref) (xss.map fun l => .list (l.map fun k : Nat => .int k)) := by
    intro qs
    induction qs with
    | nil =>
      intro xss h _
      cases xss with
      | nil => exact .nil
      | cons _ _ => simp at h
    | cons q qs ih =>
      intro xss h g
      cases xss with
      | nil => simp at h
      | cons l xss =>
        refine .cons (.lst (g 0 q l rfl rfl) ?_) (ih xss (by simpa using h) fun j q l h1 h2 => g (j + 1) q l (by simpa using h1) (by simpa using h2))
        have := RpA.of_ints (K := K) (F := F) (l.map fun k : Nat => (k : Int))
        rw [List.map_map, List.map_map] at this
        exact this
  exact key qs xss k.len k.at_
/-- one list is lengthened -/
theorem Kid.add {p : Addr} {qs : List Addr} {xss : List (List Nat)} (k : Kid H p qs xss) {j i : Nat} {q : Addr} {l : List Nat} (h1 : qs[j]? = some q) (h2 : xss[j]? = some l) : Kid (upd H q (kV1 (l ++ [i]))) p qs (xss.set j (l ++ [i])) := by
  have hq : q ∈ qs := List.mem_of_getElem? h1
  refine ⟨by rw [upd_ne (fun z => k.ni (by rw [z]; exact hq))]; exact k.top, by rw [List.length_set]; exact k.len, fun j' q' l' e1 e2 => ?_, k.nd, k.ni⟩
  by_cases hj : j' = j
  · subst hj
    rw [h1] at e1
    cases e1
    obtain ⟨hl, _⟩ := List.getElem?_eq_some_iff.mp h2
    rw [List.getElem?_set_self hl] at e2
    cases e2
    exact upd_same
  · rw [List.getElem?_set_ne (Ne.symm hj)] at e2
    have ne : q' ≠ q := fun z => by
      subst z
      obtain ⟨a1, a2⟩ := List.getElem?_eq_some_iff.mp h1
      obtain ⟨b1, b2⟩ := List.getElem?_eq_some_iff.mp e1
      exact hj ((List.getElem_inj k.nd).mp (b2.trans a2.symm))
    rw [upd_ne ne]
    exact k.at_ j' q' l' e1 e2
theorem StOk.item' {bt : Bool} {x : V} {H' : Hp} {d : PyData} (s : StOk K P F0 io F env σ H) (h : ItemOk K bt F H x H' d) : ∃ F', StOk K P F0 io F' env σ H' ∧ Ext F F' ∧ BdOk K bt F' x d ∧ Ext H H' ∧ ∀ a o, H a = some o → F a = none → F' a = none := by
  rcases h with ⟨rfl, h⟩ | ⟨hb, T, vs, ds, rfl, hT, rfl, rfl, r⟩
  · exact ⟨F, s, Ext.refl F, .inl h, Ext.refl _, fun _ _ _ h => h⟩
  · obtain ⟨s', e⟩ := s.allocF hT (.tup vs)
    exact ⟨_, s', e, .inr ⟨hb, T, vs, ds, rfl, SqT.of upd_same, rfl, r.mono0 e⟩, Ext.upd hT, fun a o h1 h2 => by
      rw [upd_ne (fun z => by rw [z, hT] at h1; cases h1)]
      exact h2⟩
end
section
variable {L : Wld} {n : Nat} {cl : Cl} {N : List Str} {sc : Scope} {W : WX0} {X : Cx}
/-- the first statement: so many new lists -/
theorem kid_one (so : SOk L N n cl sc W X) {f it o : Nat} {y v z : Str} {py vp zp lp pos1 spos : Pos} {scope1 : Scope} (h1 : tgName N sc f (.Name y py) = true) (h2 : nameOk N sc o z = true) (h3 : L2.blkC N sc scope1 (ownOf N [it]) = true) (h4 : (ownOf N [it]).map (·.2) = [it])
    (h5 : tgOk N scope1 (.name it) (.Name v vp) = true) (h6 : (py.line == pos1.line) = true) (h7 : locB sc y = true) (h8 : (scope1.names.any fun (n, k) => n == y && (k == .local || k == .cell)) = false) :
    PS X (.Assign [.Name y py] (.ListComp (.List [] lp) [⟨.Name v vp, .Name z zp, [], 0⟩] scope1 pos1) spos) (fun D σ H => ∃ P F0 io F env ds, StOk L.K P F0 io F env σ H ∧ env[o]? = some (.val (.tuple ds)) ∧ ds.length ≤ cap ∧ calmS env[it]? = true ∧
      ∀ F1 H1, StOk L.K P F0 io F1 env σ H1 → Ext F F1 → ∀ p qs H', Ext H1 H' → Kid H' p qs (List.replicate ds.length []) → (∀ a, (a = p ∨ a ∈ qs) → H1 a = none) → D.nx (σ.set f (some (.ref p))) H') := by
  have o1 := so.o
  obtain ⟨hN, hl, hf⟩ := tgN o1 so.lo h1
  have hb' : BlkOk X.N X.env.scope scope1 (ownOf N [it]) := by
    rw [o1.hN, o1.hsc]
    exact blkOk_by h3
  have hz := pe_readVar (W := W) (cl := cl) (n := n) (pos := zp) o1 h2
  have h := ps_setLc (X := X) (i := f) (y := y) (py := py) (pos := pos1) (spos := spos) (elt := .List [] lp) (own := ownOf N [it]) (g := gTg X.K (.name it)) (tt := tYes) (te := tLst tNil) o1.calm (o1.hN ▸ o1.nd) (o1.hN ▸ hN) (by rw [o1.hsc]; exact lookup_loc h7) (sw_true (by rw [o1.hsc]; exact so.kd) (by rw [o1.hsc]; exact lookup_loc h7) h6 h8) (pi_seq (bt := false) (a := fun _ => .stuck) o1.hK hz) hb'
    (fun s H C cells fp => pg_tgOk (X := X.blk s H scope1 (compEnvC scope1 cells C X.env) fp) (N := N) (sc := scope1) o1.calm o1.hN o1.nd (loc_blk scope1 s H C cells fp) h5) (fun s H C cells fp => pts_nil) (fun s H C cells fp => pe_lst pa_nil) (fun _ => rfl)
  rw [h4] at h
  refine PS.imp h ?_
  rintro D σ H ⟨P, F0, io, F, env, ds, s, ho, hcap, hcalm, k⟩
  refine ⟨P, F0, io, F, env, s, ?_⟩
  have hi : itE .seq (readVar o) (fun _ => .stuck) env = .ok (ds, env) := by
    unfold itE readVar
    simp only [ho]
    rfl
  rw [hi]
  intro J F1 H1 s1 x1 yy p hp
  refine ⟨fun i m H => m = ds.length - i ∧ i ≤ ds.length ∧ ∃ qs, Kid H p qs (List.replicate i []) ∧ Ext H1 H ∧ ∀ a, (a = p ∨ a ∈ qs) → H1 a = none, ⟨ds.length, by simp, Nat.zero_le _, [], ⟨upd_same, rfl, fun j q l e _ => by simp at e, List.nodup_nil, by simp⟩, Ext.upd hp, fun a ha => ?_⟩, ?_⟩
  · rcases ha with rfl | ha
    · exact hp
    · cases ha
  rintro i m H ⟨rfl, hi2, qs, kd, e1, fr⟩
  by_cases hlt : i < ds.length
  · refine .inr ⟨yy.go i H (s1.fH.trans e1) hlt, fun H' => i < ds.length ∧ ∃ qs, Kid H' p qs (List.replicate (i + 1) []) ∧ Ext H1 H' ∧ ∀ a, (a = p ∨ a ∈ qs) → H1 a = none, fun H' h => ⟨ds.length - (i + 1), by omega, rfl, h.1, h.2⟩, fun x H' hy => ?_⟩
    obtain ⟨d, hd, hit⟩ := yy.yld i H x H' (s1.fH.trans e1) hlt hy
    rcases hit with ⟨rfl, _⟩ | ⟨hb, _⟩
    · refine ⟨wipe_set (List.mem_cons_self ..) |>.trans (wipe_wipe _ _), ?_⟩
      unfold tYes
      dsimp only
      rw [if_pos rfl]
      refine ⟨Nat.zero_le _, fun q hq => ?_⟩
      have nep : q ≠ p := fun z => by rw [z, kd.top] at hq; cases hq
      have nq : q ∉ qs := fun z => by
        obtain ⟨j, hj, e⟩ := List.mem_iff_getElem.mp z
        have := kd.at_ j q [] (by rw [List.getElem?_eq_getElem hj, e]) (by rw [List.getElem?_replicate, if_pos (by have := kd.len; simp at this; omega)])
        rw [this] at hq
        cases hq
      have kl := kd.len
      rw [List.length_replicate] at kl
      refine ⟨qs.map V.ref, by rw [upd_ne (Ne.symm nep)]; exact kd.top, by rw [List.length_map, kl]; exact line_lt (by omega), hlt, qs ++ [q], ⟨by rw [List.map_append]; exact upd_same, by simp [kl], fun j q' l a b => ?_, ?_, ?_⟩, ?_, ?_⟩
      · have hl : l = [] := by
          rw [List.getElem?_replicate] at b
          split at b <;> cases b
          rfl
        subst hl
        by_cases hj : j < qs.length
        · rw [List.getElem?_append_left hj] at a
          have hq' : q' ∈ qs := List.mem_of_getElem? a
          rw [upd_ne (fun z => kd.ni (by rw [← z]; exact hq')), upd_ne (fun z => nq (by rw [← z]; exact hq'))]
          exact kd.at_ j q' [] a (by rw [List.getElem?_replicate, if_pos (by omega)])
        · rw [List.getElem?_append_right (by omega)] at a
          have : j - qs.length = 0 := by
            cases hz : j - qs.length with
            | zero => rfl
            | succ m => rw [hz] at a; simp at a
          rw [this] at a
          cases a
          rw [upd_ne nep]
          exact upd_same
      · refine List.nodup_append.mpr ⟨kd.nd, by simp, fun a ha b hb => ?_⟩
        simp at hb
        subst hb
        exact fun z => nq (z ▸ ha)
      · intro z
        rcases List.mem_append.mp z with z | z
        · exact kd.ni z
        · simp at z
          exact nep z.symm
      · exact fun a u ha => by
          have h0 : H1 p = none := fr p (.inl rfl)
          have h00 : H1 q = none := by
            cases hz : H1 q with
            | none => rfl
            | some w => have := e1 _ _ hz; rw [hq] at this; cases this
          rw [upd_ne (fun z => by rw [z, h0] at ha; cases ha), upd_ne (fun z => by rw [z, h00] at ha; cases ha)]
          exact e1 _ _ ha
      · intro a ha
        rcases ha with rfl | ha
        · exact fr _ (.inl rfl)
        · rcases List.mem_append.mp ha with ha | ha
          · exact fr a (.inr ha)
          · simp at ha
            subst ha
            cases hz : H1 a with
            | none => rfl
            | some w => have := e1 _ _ hz; rw [hq] at this; cases this
    · cases hb
  · have hie : i = ds.length := by omega
    subst hie
    exact .inl ⟨yy.stop _ H (s1.fH.trans e1) rfl, k F1 H1 s1 x1 p qs H e1 kd fr⟩
theorem addK_len {ys : List (List Nat)} : ∀ {ps : List PyData} {i : Nat} {xss : List (List Nat)}, addK xss i ps = some ys → ys.length = xss.length
  | [], i, xss, h => by cases h; rfl
  | .none :: ps, i, xss, h => addK_len (ps := ps) (i := i + 1) h
  | .int (.ofNat j) :: ps, i, xss, h => by
    unfold addK at h
    split at h
    · have := addK_len (ps := ps) (i := i + 1) h
      rw [this, List.length_set]
    · cases h
  | .int (.negSucc _) :: ps, i, xss, h => by cases h
  | .bool _ :: ps, i, xss, h => by cases h
  | .str _ :: ps, i, xss, h => by cases h
  | .list _ :: ps, i, xss, h => by cases h
  | .tuple _ :: ps, i, xss, h => by cases h
  | .dict _ :: ps, i, xss, h => by cases h
/-- the second statement: each item is put where it belongs -/
theorem kid_two (so : SOk L N n cl sc W X) {f it pr o k : Nat} {w3 x3 w4 at_ y5 : Str} {target iter : Expr} {p1 p2 p3 p4 p5 p6 p7 ap cp ip fp ep : Pos} {ck : Nat} (h1 : chkIt (fun s t => chk L.T N (.cons (.call k (.cons (.var o) .nil)) .nil) s t) sc .enum target iter = true) (h2 : tgOk N sc (.tup [it, pr]) target = true)
    (h3 : nameOk N sc pr w3 = true) (h4 : nameOk N sc f x3 = true) (h5 : nameOk N sc pr w4 = true) (h6 : at_ = "append") (h7 : (ap.endLine == cp.line) = true) (h8 : nameOk N sc it y5 = true) (hd : f ≠ it ∧ f ≠ pr ∧ it ≠ pr ∧ o ≠ f ∧ o ≠ it ∧ o ≠ pr) :
    PS X (.For target iter [.If (.Compare (.Name w3 p1) [.IsNot] [.Constant .none ck p2] p3) [.Expr (.Call (.Attribute (.Subscript (.Name x3 p4) (.Name w4 p5) p6) at_ ap) [.Name y5 p7] [] cp) ep] [] ip] [] fp) (fun D σ H => ∃ (P F0 : Hp) (io : Option Addr) (F : Hp) (env : MP.Env) (ds : List PyData) (p : Addr) (qs : List Addr) (D0 : Ends) (kk : MP.Env → R (Fl × MP.Env)), StOk L.K P F0 io F env σ H ∧ env[o]? = some (.val (.tuple ds)) ∧ ds.length ≤ cap ∧ env[f]? = some .un ∧ calmS env[it]? = true ∧ calmS env[pr]? = true ∧ Kid H p qs (List.replicate ds.length []) ∧ (∀ a, (a = p ∨ a ∈ qs) → Mine P F env σ a) ∧ σ[f]? = some (some (.ref p)) ∧
      PostS W L.K P F0 io F D0 ((cl k .non [.tuple ds]).bind fun r => (match r.1 with
      | .fr ps => if ps.length ≤ cap then (R.of (addK (List.replicate ds.length []) 0 ps)).bind fun xss => kk (kidE env f it pr xss) else .stuck
      | _ => .stuck)) ∧ ∀ σ' F' H' xss, StOk L.K P F0 io F' (kidE env f it pr xss) σ' H' → PostS W L.K P F0 io F' D0 (kk (kidE env f it pr xss)) → D.nx σ' H') := by
  subst h6
  have o1 := so.o
  obtain ⟨hfi, hfp, hip, hof, hoi, hop⟩ := hd
  obtain ⟨i1, i2⟩ := pi_of (snd L n cl (.cons (.call k (.cons (.var o) .nil)) .nil)) o1 h1
  have hg := pg_tgOk o1.calm o1.hN o1.nd so.lo h2
  obtain ⟨a1, a2, a3, a4⟩ := o1.vis h3
  obtain ⟨b1, b2, b3, b4⟩ := o1.vis h4
  obtain ⟨c1, c2, c3, c4⟩ := o1.vis h5
  obtain ⟨d1, d2, d3, d4⟩ := o1.vis h8
  have hs : ∀ z q, Expr.Name y5 p7 ≠ .Starred z q := fun _ _ z => by cases z
  have pt := pt_cmpR (X := X) (op := .IsNot) (pos := p3) op_notN (pe_var (pos := p1) a1 a2 a3 a4) (pe_non (j := ck) (pos := p2)) rfl
  have ap1 := ps_expr (pos := ep) (pe_bm (apos := ap) (cpos := cp) PySem.F.plainAttrs_list PySem.F.slot_list_append PySem.F.type_list_append mt_append (pe_ix (pos := p6) ix_seq (pe_var (pos := p4) b1 b2 b3 b4) (pe_var (pos := p5) c1 c2 c3 c4) (fun _ _ => rfl)) (pa_cons (pe_var (pos := p7) d1 d2 d3 d4) pa_nil (star_cons hs [] X.env)) rfl (few1 hs cp X.env) h7 (star_cons hs [] X.env) rfl) rfl
  refine PS.imp (ps_for so.ps o1.calm i1 hg (pss_one (ps_if (pos := ip) pt (pss_one ap1) pss_nil)) (i2 X.env)) ?_
  rintro D σ H ⟨P, F0, io, F, env, ds, p, qs, D0, kk, s, ho, hcap, hf, hci, hcp, kd, mine, hσ, q, hD⟩
  rw [o1.hK]
  -- the lists are pinned while the parents are worked out
  obtain ⟨P', s', eP, hP'⟩ := s.pins (kidA p qs (List.replicate ds.length [])) (kid_nd kd) fun x hx => ⟨(kid_mem kd x hx).1, mine _ (kid_mem kd x hx).2⟩
  refine ⟨P', F0, io, F, env, s', ?_⟩
  have hi : itE .enum (ev cl L.gb (.cons (.call k (.cons (.var o) .nil)) .nil)).v (ev cl L.gb (.cons (.call k (.cons (.var o) .nil)) .nil)).a env = (cl k .non [.tuple ds]).bind fun r => (R.of (fzAll [r.1.val.frz])).bind fun ds => (itemsD .enum ds).bind fun xs => .ok (xs, env) := by
    have r1 : readVar o env = .ok (.fz (.tuple ds), env) := by
      unfold readVar
      simp only [ho]
    show ((evCons (evFz (evCons (readVar o) fun env => .ok ([], env)) (kCall cl k)) fun env => .ok ([], env)) env).bind (fun p => (R.of (fzAll p.1)).bind fun ds => (itemsD .enum ds).bind fun xs => .ok (xs, p.2)) = _
    unfold evCons evFz kCall
    simp only [r1, R.bind_ok, Val.frz, fzAll, R.of_some, Option.map]
    cases cl k .non [.tuple ds] <;> rfl
  rw [hi]
  cases hc : cl k .non [.tuple ds] with
  | stuck => rw [hc] at q; exact q.elim
  | exc c =>
    rw [hc] at q
    exact fun H' e => q H' (eP.trans e)
  | ok r =>
    rw [hc] at q
    obtain ⟨rv, us⟩ := r
    cases rv with
    | fz _ => exact q.elim
    | fd _ _ => exact q.elim
    | fr ps =>
      have q : PostS W L.K P F0 io F D0 (if ps.length ≤ cap then (R.of (addK (List.replicate ds.length []) 0 ps)).bind fun xss => kk (kidE env f it pr xss) else .stuck) := q
      by_cases hpc : ps.length ≤ cap
      case neg =>
        rw [if_neg hpc] at q
        exact q.elim
      rw [if_pos hpc] at q
      cases hk : addK (List.replicate ds.length []) 0 ps with
      | none => rw [hk] at q; exact q.elim
      | some xss =>
      rw [hk] at q
      have q : PostS W L.K P F0 io F D0 (kk (kidE env f it pr xss)) := q
      intro J F3 H3 s3 x3 y3
      -- what the parents left
      have kd3 : Kid H3 p qs (List.replicate ds.length []) := kid_back kd fun x hx => s3.pH _ _ (hP' x hx)
      have adr : ∀ a, (a = p ∨ a ∈ qs) → ∃ u, P' a = some u := fun a ha => by
        rcases ha with rfl | ha
        · exact ⟨_, hP' (a, _) (List.mem_cons_self ..)⟩
        · obtain ⟨j, hj, e⟩ := List.mem_iff_getElem.mp ha
          have hl := kd.len
          refine ⟨kV1 [], hP' (a, kV1 []) (List.mem_cons_of_mem _ (List.mem_of_getElem? (i := j) ?_))⟩
          rw [List.getElem?_zip_eq_some]
          refine ⟨by rw [List.getElem?_eq_getElem hj, e], ?_⟩
          rw [List.getElem?_map, List.getElem?_replicate, if_pos (by simp at hl; omega)]
          rfl
      have mine3 : ∀ a, (a = p ∨ a ∈ qs) → Mine P F3 ((env.set it .un).set pr .un) σ a := fun a ha => by
        obtain ⟨u, hu⟩ := adr a ha
        refine ⟨s3.hid a u hu (Ext.none s.f0 (mine a ha).1), (mine a ha).2.1, fun i m => ?_⟩
        exact (mine a ha).2.2 i (mut_unset (mut_unset m))
      have s3' := ((s3.weakP eP).unset it).unset pr
      have itl : (((ps.zipIdx.map fun p => PyData.tuple [.int p.2, p.1])).length = ps.length) := by simp
      refine ⟨fun i m σ' H' => m = ps.length - i ∧ i ≤ ps.length ∧ ∃ F' ys, StOk L.K P F0 io F' ((env.set it .un).set pr .un) σ' H' ∧ Ext F3 F' ∧ σ'[f]? = some (some (.ref p)) ∧ Kid H' p qs ys ∧ (∀ l ∈ ys, l.length ≤ i) ∧ (∀ a, (a = p ∨ a ∈ qs) → Mine P F' ((env.set it .un).set pr .un) σ' a) ∧ addK ys i (ps.drop i) = some xss,
        ⟨ps.length, by simp, Nat.zero_le _, F3, _, s3', Ext.refl F3, hσ, kd3, fun l hl => by rw [List.eq_of_mem_replicate hl]; exact Nat.le_refl _, mine3, by simpa using hk⟩, ?_⟩
      rintro i m σ2 H2 ⟨rfl, hi2, F2, ys, s2, x2, hf2, kd2, hys, mine2, hk2⟩
      by_cases hlt : i < ps.length
      · refine .inr ⟨y3.go i H2 (x2.trans s2.fH) (by rw [itl]; exact hlt), fun σ' H' => i < ps.length ∧ ∃ F' ys, StOk L.K P F0 io F' ((env.set it .un).set pr .un) σ' H' ∧ Ext F3 F' ∧ σ'[f]? = some (some (.ref p)) ∧ Kid H' p qs ys ∧ (∀ l ∈ ys, l.length ≤ i + 1) ∧ (∀ a, (a = p ∨ a ∈ qs) → Mine P F' ((env.set it .un).set pr .un) σ' a) ∧ addK ys (i + 1) (ps.drop (i + 1)) = some xss,
          fun σ' H' h => ⟨ps.length - (i + 1), by omega, rfl, h.1, h.2⟩, fun x H' hy => ?_⟩
        obtain ⟨d, hdd, hit⟩ := (y3.mono x2).yld i H2 x H' s2.fH (by rw [itl]; exact hlt) hy
        obtain ⟨pi, hpi⟩ : ∃ pi, ps[i]? = some pi := ⟨_, List.getElem?_eq_getElem hlt⟩
        have hde : d = .tuple [.int i, pi] := by
          rw [List.getElem?_map, List.getElem?_zipIdx, hpi] at hdd
          simpa using hdd.symm
        have hdrop : ps.drop i = pi :: ps.drop (i + 1) := by
          obtain ⟨h1, h2⟩ := List.getElem?_eq_some_iff.mp hpi
          rw [← h2]
          exact List.drop_eq_getElem_cons h1
        rw [hdrop] at hk2
        obtain ⟨F4, s4, x4, rd, xH, hid⟩ := s2.item' hit
        rw [hde] at rd
        have hli : it < env.length := by
          cases z : env[it]? with
          | none => rw [z] at hci; cases hci
          | some _ => exact (List.getElem?_eq_some_iff.mp z).1
        have hlp : pr < env.length := by
          cases z : env[pr]? with
          | none => rw [z] at hcp; cases hcp
          | some _ => exact (List.getElem?_eq_some_iff.mp z).1
        have g1 : ((env.set it .un).set pr .un)[it]? = some Slot.un := by
          rw [List.getElem?_set_ne (Ne.symm hip), List.getElem?_set_self hli]
        have g2 : (((env.set it .un).set pr .un).set it (.val (.int i)))[pr]? = some Slot.un := by
          rw [List.getElem?_set_ne hip, List.getElem?_set_self (by rw [List.length_set]; exact hlp)]
        have hb : MP.bindTg (.tup [it, pr]) (.tuple [.int i, pi]) ((env.set it .un).set pr .un) = some ((((env.set it .un).set pr .un).set it (.val (.int i))).set pr (.val pi)) := by
          show (if ([PyData.int i, pi]).length = [it, pr].length then MP.putVals ((env.set it .un).set pr .un) [it, pr] [.int i, pi] else none) = _
          rw [if_pos (show ([PyData.int (i : Int), pi]).length = [it, pr].length from rfl)]
          show (if soft ((env.set it .un).set pr .un)[it]? then MP.putVals (((env.set it .un).set pr .un).set it (.val (.int i))) [pr] [pi] else none) = _
          rw [g1, if_pos (show soft (some Slot.un) = true from rfl)]
          show (if soft (((env.set it .un).set pr .un).set it (.val (.int i)))[pr]? then MP.putVals ((((env.set it .un).set pr .un).set it (.val (.int i))).set pr (.val pi)) [] [] else none) = _
          rw [g2, if_pos (show soft (some Slot.un) = true from rfl)]
          rfl
        refine s4.bindTg (tg_tup h2) rd hb fun σ3 s5 hw => ?_
        have hσ3 : ∀ j, j ≠ it → j ≠ pr → σ3[j]? = σ2[j]? := fun j z1 z2 => by
          have := congrArg (fun l : L2.St => l[j]?) (hw [it, pr] fun _ h => h)
          simp only [wipe_get] at this
          rw [if_neg (by simp [z1, z2]), if_neg (by simp [z1, z2])] at this
          exact this
        have henv : (((((env.set it .un).set pr .un).set it (.val (.int i))).set pr (.val pi)).set it .un).set pr .un = (env.set it .un).set pr .un := by
          apply List.ext_getElem?
          intro j
          by_cases z2 : pr = j
          · subst z2
            rw [List.getElem?_set_self (by simpa using hlp), List.getElem?_set_self (by simpa using hlp)]
          · rw [List.getElem?_set_ne z2, List.getElem?_set_ne z2]
            by_cases z1 : it = j
            · subst z1
              rw [List.getElem?_set_self (by simpa using hli), List.getElem?_set_self (by simpa using hli)]
            · rw [List.getElem?_set_ne z1, List.getElem?_set_ne z2, List.getElem?_set_ne z1, List.getElem?_set_ne z2]
        have s6 := (s5.unset it).unset pr
        rw [henv] at s6
        have hf3 : σ3[f]? = some (some (.ref p)) := by rw [hσ3 f hfi hfp]; exact hf2
        have kd4 := kd2.mono xH
        have have2 : ∀ a, (a = p ∨ a ∈ qs) → ∃ u, H2 a = some u := fun a ha => by
          rcases ha with rfl | ha
          · exact ⟨_, kd2.top⟩
          · obtain ⟨j, hj, e⟩ := List.mem_iff_getElem.mp ha
            exact ⟨_, kd2.at_ j a (ys[j]'(by rw [← kd2.len]; exact hj)) (by rw [List.getElem?_eq_getElem hj, e]) (List.getElem?_eq_getElem _)⟩
        have mine4 : ∀ a, (a = p ∨ a ∈ qs) → Mine P F4 ((env.set it .un).set pr .un) σ3 a := fun a ha => by
          obtain ⟨u, hu⟩ := have2 a ha
          obtain ⟨m1, m2, m3⟩ := mine2 a ha
          refine ⟨hid a u hu m1, m2, fun j m => ?_⟩
          obtain ⟨z1, z2⟩ := m
          have n1 : j ≠ it := fun z => by rw [z, g1] at z1; cases z1
          have n2 : j ≠ pr := fun z => by
            rw [z, List.getElem?_set_self (by simpa using hlp)] at z1
            cases z1
          rw [hσ3 j n1 n2] at z2
          exact m3 j ⟨z1, z2⟩
        obtain ⟨v, hv1, hv2⟩ := s5.sl pr (.val pi) (by rw [List.getElem?_set_self (by simpa using hlp)])
        obtain ⟨w, hw1, hw2⟩ := s5.sl it (.val (.int i)) (by rw [List.getElem?_set_ne (Ne.symm hip), List.getElem?_set_self (by simpa using hli)])
        cases hw2
        refine ⟨v, hv1, rfl, !decide (v = .non), rfl, ?_⟩
        cases pi with
        | none =>
          cases hv2
          rw [if_neg (by simp)]
          exact ⟨hlt, F4, ys, s6, x2.trans x4, hf3, kd4, fun l hl => Nat.le_succ_of_le (hys l hl), mine4, hk2⟩
        | int jj =>
          cases jj with
          | negSucc _ => cases hk2
          | ofNat j =>
            cases hv2
            rw [if_pos (by simp)]
            unfold addK at hk2
            split at hk2
            case isFalse => cases hk2
            rename_i hj
            obtain ⟨q, hq⟩ : ∃ q, qs[j]? = some q := ⟨_, List.getElem?_eq_getElem (by rw [kd2.len]; exact hj)⟩
            have hl : ys[j]? = some (ys.getD j []) := by
              rw [List.getD_eq_getElem?_getD, List.getElem?_eq_getElem hj]
              rfl
            have hqH := kd4.at_ j q _ hq hl
            have hqm : q ∈ qs := List.mem_of_getElem? hq
            have hll : (ys.getD j []).length ≤ i := hys _ (List.mem_of_getElem? hl)
            refine ⟨_, hf3, _, hv1, .inl ⟨p, qs.map V.ref, _, .ref q, rfl, rfl, SqL.of kd4.top, ?_, ?_⟩⟩
            · exact atI_nat (by rw [List.getElem?_map, hq]; rfl)
            · obtain ⟨m1, m2, m3⟩ := mine4 q (.inr hqm)
              refine ⟨.inl ⟨rfl, _, SqL.of hqH⟩, _, hw1, q, _, .int i, rfl, rfl, hqH, by rw [List.length_map]; exact line_lt (by omega), hlt, F4, ys.set j (ys.getD j [] ++ [i]), ?_, x2.trans x4, hf3, ?_, ?_, mine4, hk2⟩
              · exact s6.touch _ m1 m2 m3
              · have := kd4.add (i := i) hq hl
                unfold kV1 at this
                rw [List.map_append] at this
                exact this
              · intro l hl'
                rcases List.mem_or_eq_of_mem_set hl' with hl' | rfl
                · exact Nat.le_succ_of_le (hys l hl')
                · rw [List.length_append, List.length_singleton]
                  omega
        | bool _ => cases hk2
        | str _ => cases hk2
        | list _ => cases hk2
        | tuple _ => cases hk2
        | dict _ => cases hk2
      · have hie : i = ps.length := by omega
        subst hie
        refine .inl ⟨y3.stop _ H2 (x2.trans s2.fH) itl.symm, ?_⟩
        rw [List.drop_length] at hk2
        have hyx : ys = xss := by
          have : some ys = some xss := hk2
          exact Option.some.inj this
        subst hyx
        obtain ⟨F5, s5, x5, h5⟩ := s2.freezes (kidA p qs ys) (kid_nd kd2) fun x hx => ⟨(kid_mem kd2 x hx).1, mine2 _ (kid_mem kd2 x hx).2⟩
        have r5 := rpa_kid (K := L.K) (kid_back kd2 h5)
        have s6 := s5.putVal f r5
        have hσf : σ2.set f (some (V.ref p)) = σ2 := by
          apply List.ext_getElem?
          intro j
          by_cases hj : f = j
          · subst hj
            obtain ⟨h1, _⟩ := List.getElem?_eq_some_iff.mp hf2
            rw [List.getElem?_set_self h1, hf2]
          · rw [List.getElem?_set_ne hj]
        rw [hσf] at s6
        exact hD σ2 F5 H2 _ s6 (PostS.mono ((x3.trans x2).trans x5) q)
theorem s_kids (so : SOk L N n cl sc W X) {f it pr o k : Nat} {rest : S} (hr : SndS L n cl rest) {sts : List Stmt} (h : chkS L.T N sc (.kids f it pr o k rest) (.b sts) = true) : PSs X sts (TSm W L.K (exS cl L.gb (.kids f it pr o k rest))) := by
  simp only [chkS] at h
  split at h <;> first | (cases h; done) | skip
  rename_i st1 st2 st3 more e
  cases e
  rw [Bool.and_eq_true] at h
  obtain ⟨hk, h3⟩ := h
  unfold kidOk at hk
  split at hk <;> first | (cases hk; done) | skip
  simp only [Bool.and_eq_true, decide_eq_true_eq, Bool.not_eq_true'] at hk
  obtain ⟨⟨⟨⟨⟨⟨⟨⟨⟨⟨⟨⟨⟨⟨⟨⟨a1, a2⟩, a3⟩, a4⟩, a5⟩, a6⟩, a7⟩, a8⟩, b1⟩, b2⟩, b3⟩, b4⟩, b5⟩, b6⟩, b7⟩, b8⟩, hd⟩ := hk
  refine PSs.imp (pss_cons (kid_one so a1 a2 a3 a4 a5 a6 a7 a8) (pss_cons (kid_two so b1 b2 b3 b4 b5 b6 b7 b8 hd) ((hr.run so).2 _ h3))) fun D σ H q => ?_
  obtain ⟨P, F0, io, F, env, s, q⟩ := q
  simp only [exS] at q
  cases ho : env[o]? with
  | none => rw [ho] at q; exact q.elim
  | some sl =>
  rw [ho] at q
  cases sl with
  | val d =>
    cases d with
    | tuple ds =>
      have q : PostS W L.K P F0 io F D (if ds.length ≤ cap ∧ soft env[f]? = true ∧ calmS env[it]? = true ∧ calmS env[pr]? = true then (cl k .non [.tuple ds]).bind fun r => (match r.1 with
      | .fr ps => if ps.length ≤ cap then (R.of (addK (List.replicate ds.length []) 0 ps)).bind fun xss => exS cl L.gb rest (kidE env f it pr xss) else .stuck
      | _ => .stuck) else .stuck) := q
      by_cases hc : ds.length ≤ cap ∧ soft env[f]? = true ∧ calmS env[it]? = true ∧ calmS env[pr]? = true
      case neg =>
        rw [if_neg hc] at q
        exact q.elim
      rw [if_pos hc] at q
      obtain ⟨c1, c2, c3, c4⟩ := hc
      obtain ⟨hfi, hfp, hip, hof, hoi, hop⟩ := hd
      refine ⟨P, F0, io, F, env, ds, s, ho, c1, c3, fun F1 H1 s1 x1 p qs H' e1 kd fr => ?_⟩
      have s2 := s1.ext (F' := F1) e1 (Ext.refl F1) (s1.fH.trans e1) fun _ _ _ h => h
      have s3 := s2.forget f (some (V.ref p))
      have hlf : f < env.length := by
        cases z : env[f]? with
        | none => rw [z] at c2; cases c2
        | some _ => exact (List.getElem?_eq_some_iff.mp z).1
      have hke : ∀ xss, kidE (env.set f .un) f it pr xss = kidE env f it pr xss := fun xss => by
        unfold kidE
        apply List.ext_getElem?
        intro j
        by_cases z : f = j
        · subst z
          rw [List.getElem?_set_self (by simpa using hlf), List.getElem?_set_self (by simpa using hlf)]
        · rw [List.getElem?_set_ne z, List.getElem?_set_ne z]
          by_cases z2 : pr = j
          · subst z2
            by_cases hl : pr < env.length
            · rw [List.getElem?_set_self (by simpa using hl), List.getElem?_set_self (by simpa using hl)]
            · rw [List.getElem?_eq_none (by simpa using hl), List.getElem?_eq_none (by simpa using hl)]
          · rw [List.getElem?_set_ne z2, List.getElem?_set_ne z2]
            by_cases z3 : it = j
            · subst z3
              by_cases hl : it < env.length
              · rw [List.getElem?_set_self (by simpa using hl), List.getElem?_set_self (by simpa using hl)]
              · rw [List.getElem?_eq_none (by simpa using hl), List.getElem?_eq_none (by simpa using hl)]
            · rw [List.getElem?_set_ne z3, List.getElem?_set_ne z3, List.getElem?_set_ne z]
      refine ⟨P, F0, io, F1, env.set f .un, ds, p, qs, D, exS cl L.gb rest, s3, by rw [List.getElem?_set_ne (Ne.symm hof)]; exact ho, c1, List.getElem?_set_self hlf, by rw [List.getElem?_set_ne hfi]; exact c3, by rw [List.getElem?_set_ne hfp]; exact c4, kd, fun a ha => ?_, ?_, ?_, fun σ' F' H' xss s' q' => ⟨P, F0, io, F', _, s', q'⟩⟩
      · obtain ⟨f1, f2, f3⟩ := s1.fresh (fr a ha)
        exact ⟨f1, f2, fun i m => f3 i (mutAt_set rfl m).2⟩
      · exact List.getElem?_set_self (by rw [s1.len]; exact hlf)
      · simp only [hke]
        exact PostS.mono x1 q
    | none => exact q.elim
    | bool _ => exact q.elim
    | int _ => exact q.elim
    | str _ => exact q.elim
    | list _ => exact q.elim
    | dict _ => exact q.elim
  | un => exact q.elim
  | own _ => exact q.elim
  | io _ => exact q.elim
  | scr _ => exact q.elim
  | mdk _ _ => exact q.elim
end
end MP

/-! Mini, part C14: blocks and loops; every statement that a text has the form of has its reading. -/
set_option linter.all false
set_option Elab.async false
set_option maxRecDepth 100000
set_option maxHeartbeats 4000000
namespace MP
open PySem PySem.Spec PyProof.Rows L2
section
variable {L : Wld} {n : Nat} {cl : Cl} {N : List Str} {sc : Scope} {W : WX0} {X : Cx}
/-- a body's end, told by where it goes on -/
theorem PostS.to {K : PySem.W.Frag} {P F0 F : Hp} {io : Option Addr} {D D' : Ends} {r : R (Fl × MP.Env)} {k : MP.Env → R (Fl × MP.Env)} (h : PostS W K P F0 io F D (r.bind fun p => match p.1 with
      | .next => k p.2
      | .ret v => .ok (.ret v, p.2))) (hr : D'.rt = D.rt)
    (hn : ∀ e2, r = .ok (.next, e2) → ∀ σ' F' H', StOk K P F0 io F' e2 σ' H' → Ext F F' → PostS W K P F0 io F' D (k e2) → D'.nx σ' H') : PostS W K P F0 io F D' r := by
  match r, h, hn with
  | .stuck, h, _ => exact h
  | .exc c, h, _ => exact h
  | .ok (.next, e2), h, hn => exact fun σ' F' H' s x => hn e2 rfl σ' F' H' s x (PostS.mono x h)
  | .ok (.ret v, e2), h, _ =>
    have h : PostS W K P F0 io F D (.ok (.ret v, e2)) := h
    exact fun x σ' F' H' s e y => by rw [hr]; exact h x σ' F' H' s e y
theorem s_seq (so : SOk L N n cl sc W X) {a b : S} (ha : SndS L n cl a) (hb : SndS L n cl b) {sts : List Stmt} (h : chkS L.T N sc (.seq a b) (.b sts) = true) : PSs X sts (TSm W L.K (exS cl L.gb (.seq a b))) := by
  match sts, h with
  | st :: st2 :: rest, h =>
    simp only [chkS, Bool.and_eq_true] at h
    refine PSs.imp (pss_cons ((ha.run so).1 st h.1) ((hb.run so).2 _ h.2)) fun D σ H q => ?_
    obtain ⟨P, F0, io, F, env, s, q⟩ := q
    simp only [exS] at q
    refine ⟨P, F0, io, F, env, s, PostS.to q rfl fun e2 _ σ' F' H' s2 x2 q2 => ⟨P, F0, io, F', e2, s2, q2⟩⟩
  | [], h => simp [chkS] at h
  | [_], h => simp [chkS] at h
theorem s_iff (so : SOk L N n cl sc W X) {c : E} {a b : S} (ha : SndS L n cl a) (hb : SndS L n cl b) {st : Stmt} (h : chkS L.T N sc (.iff c a b) (.s st) = true) : PS X st (TSm W L.K (exS cl L.gb (.iff c a b))) := by
  simp only [chkS, Ts.one] at h
  split at h <;> first | (cases h; done) | skip
  rename_i x p q spos e'
  cases e'
  simp only [Bool.and_eq_true] at h
  obtain ⟨⟨h1, h2⟩, h3⟩ := h
  refine PS.imp (ps_if ((snd L n cl c).vt so.o h1).2 ((ha.run so).2 _ h2) ((hb.run so).2 _ h3)) fun D σ H q => ?_
  obtain ⟨P, F0, io, F, env, s, q⟩ := q
  simp only [exS] at q
  refine TTt.go (prS W L.K P F0 io D) s q fun t e1 _ F1 H1 s1 x1 q1 => ?_
  cases t with
  | true =>
    rw [if_pos rfl]
    exact ⟨P, F0, io, F1, e1, s1, q1⟩
  | false =>
    rw [if_neg Bool.false_ne_true]
    exact ⟨P, F0, io, F1, e1, s1, q1⟩
theorem s_for (so : SOk L N n cl sc W X) {tg : Tg} {ik : Ik} {src : E} {body : S} (hb : SndS L n cl body) {st : Stmt} (h : chkS L.T N sc (.for_ tg ik src body) (.s st) = true) : PS X st (TSm W L.K (exS cl L.gb (.for_ tg ik src body))) := by
  simp only [chkS, Ts.one] at h
  split at h <;> first | (cases h; done) | skip
  rename_i target iter p spos e'
  cases e'
  simp only [Bool.and_eq_true] at h
  obtain ⟨⟨h1, h2⟩, h3⟩ := h
  obtain ⟨i1, i2⟩ := pi_of (snd L n cl src) so.o h1
  have hg := pg_tgOk so.o.calm so.o.hN so.o.nd so.lo h2
  refine PS.imp (ps_for so.ps so.o.calm i1 hg ((hb.run so).2 _ h3) (i2 X.env)) fun D σ H q => ?_
  obtain ⟨P, F0, io, F, env, s, q⟩ := q
  simp only [exS] at q
  rw [so.o.hK]
  refine ⟨P, F0, io, F, env, s, ?_⟩
  cases hi : itE ik (ev cl L.gb src).v (ev cl L.gb src).a env with
  | stuck => rw [hi] at q; exact q.elim
  | exc c => rw [hi] at q; exact q
  | ok w =>
    rw [hi] at q
    obtain ⟨its, env1⟩ := w
    intro J F1 H1 s1 x1 y
    simp only [R.bind_ok] at q
    by_cases hcap : its.length ≤ cap
    · rw [if_pos hcap] at q
      refine ⟨fun i m σ H => m = its.length - i ∧ i ≤ its.length ∧ ∃ F2 env2, StOk L.K P F0 io F2 env2 σ H ∧ Ext F1 F2 ∧ PostS W L.K P F0 io F2 D (forL (exS cl L.gb body) tg (its.drop i) env2), ⟨its.length, by simp, Nat.zero_le _, F1, env1, s1, Ext.refl F1, by simpa using PostS.mono x1 q⟩, ?_⟩
      rintro i m σ2 H2 ⟨rfl, hi2, F2, env2, s2, x2, q2⟩
      by_cases hlt : i < its.length
      · refine .inr ⟨y.go i H2 (x2.trans s2.fH) hlt, fun σ' H' => ∃ F2 env2, StOk L.K P F0 io F2 env2 σ' H' ∧ Ext F1 F2 ∧ PostS W L.K P F0 io F2 D (forL (exS cl L.gb body) tg (its.drop (i + 1)) env2), fun σ' H' h => ⟨its.length - (i + 1), by omega, rfl, hlt, h⟩, fun x H' hy => ?_⟩
        obtain ⟨d, hd, hit⟩ := (y.mono x2).yld i H2 x H' s2.fH hlt hy
        have hdrop : its.drop i = d :: its.drop (i + 1) := by
          obtain ⟨h1, h2⟩ := List.getElem?_eq_some_iff.mp hd
          rw [← h2]
          exact List.drop_eq_getElem_cons h1
        rw [hdrop] at q2
        simp only [forL] at q2
        obtain ⟨e3, hb3, q3⟩ := PR.of (C := prS W L.K P F0 io D) q2
        obtain ⟨F3, s3, x3, rd, xH⟩ := s2.item hit
        refine s3.bindTg (tg_tup h2) rd hb3 fun σ3 s4 _ => ?_
        refine ⟨P, F0, io, F3, e3, s4, ?_⟩
        have q3' : PostS W L.K P F0 io F3 D _ := PostS.mono x3 q3
        exact PostS.to q3' rfl fun e5 _ σ' F' H'' s5 x5 q5 => ⟨F', e5, s5, (x2.trans x3).trans x5, q5⟩
      · have hie : i = its.length := by omega
        refine .inl ⟨y.stop i H2 (x2.trans s2.fH) hie, ?_⟩
        rw [hie, List.drop_length] at q2
        exact q2 σ2 F2 H2 s2 (Ext.refl F2)
    · rw [if_neg hcap] at q
      exact q.elim
theorem s_while (so : SOk L N n cl sc W X) {c : E} {body : S} (hb : SndS L n cl body) {st : Stmt} (h : chkS L.T N sc (.while_ c body) (.s st) = true) : PS X st (TSm W L.K (exS cl L.gb (.while_ c body))) := by
  simp only [chkS, Ts.one] at h
  split at h <;> first | (cases h; done) | skip
  rename_i x p spos e'
  cases e'
  simp only [Bool.and_eq_true] at h
  obtain ⟨h1, h3⟩ := h
  refine PS.imp (ps_while so.ps ((snd L n cl c).vt so.o h1).2 ((hb.run so).2 _ h3)) fun D σ H q => ?_
  obtain ⟨P, F0, io, F, env, s, q⟩ := q
  have q : PostS W L.K P F0 io F D (whileL (ev cl L.gb c).t (exS cl L.gb body) wcap env) := q
  refine ⟨fun m σ H => ∃ F2 env2, StOk L.K P F0 io F2 env2 σ H ∧ PostS W L.K P F0 io F2 D (whileL (ev cl L.gb c).t (exS cl L.gb body) m env2), ⟨wcap, F, env, s, q⟩, ?_⟩
  rintro m σ2 H2 ⟨F2, env2, s2, q2⟩
  cases m with
  | zero => exact q2.elim
  | succ m =>
    simp only [whileL] at q2
    refine TTt.go (prS W L.K P F0 io D) s2 q2 fun t e1 _ F3 H3 s3 x3 q3 => ?_
    cases t with
    | false =>
      rw [if_neg Bool.false_ne_true]
      exact q3 σ2 F3 H3 s3 (Ext.refl F3)
    | true =>
      rw [if_pos rfl]
      refine ⟨fun σ' H' => ∃ F2 env2, StOk L.K P F0 io F2 env2 σ' H' ∧ PostS W L.K P F0 io F2 D (whileL (ev cl L.gb c).t (exS cl L.gb body) m env2), fun σ' H' h => ⟨m, Nat.lt_succ_self m, h⟩, P, F0, io, F3, e1, s3, ?_⟩
      exact PostS.to q3 rfl fun e5 _ σ' F' H'' s5 x5 q5 => ⟨F', e5, s5, q5⟩
theorem s_pass (so : SOk L N n cl sc W X) : (∀ st, chkS L.T N sc .pass (.s st) = true → PS X st (TSm W L.K (exS cl L.gb .pass))) ∧ ∀ sts, chkS L.T N sc .pass (.b sts) = true → PSs X sts (TSm W L.K (exS cl L.gb .pass)) := by
  have imp : ∀ D σ H, TSm W L.K (exS cl L.gb .pass) D σ H → tNext D σ H := fun D σ H ⟨P, F0, io, F, env, s, q⟩ => q σ F H s (Ext.refl F)
  refine ⟨fun st h => (by cases h), fun sts h => ?_⟩
  simp only [chkS] at h
  split at h
  · rename_i e
    cases e
    exact PSs.imp pss_nil imp
  · rename_i e
    cases e
    exact PSs.imp (pss_one ps_pass) imp
  · cases h
end
theorem sndS (L : Wld) (n : Nat) (cl : Cl) : ∀ m : S, SndS L n cl m
  | .pass => ⟨fun so => s_pass so⟩
  | .seq a b => ⟨fun so => ⟨fun st h => (by cases h), fun sts h => s_seq so (sndS L n cl a) (sndS L n cl b) h⟩⟩
  | .asg i e => ⟨fun so => both rfl fun st h => s_asg so h⟩
  | .asg2 i j a b => ⟨fun so => both rfl fun st h => s_asg2 so h⟩
  | .asg3 i j l a b c => ⟨fun so => both rfl fun st h => s_asg3 so h⟩
  | .kids f it pr o k rest => ⟨fun so => ⟨fun st h => (by cases h), fun sts h => s_kids so (sndS L n cl rest) h⟩⟩
  | .unpack js e => ⟨fun so => both rfl fun st h => s_unpack so h⟩
  | .setIx i ix e => ⟨fun so => both rfl fun st h => s_setIx so h⟩
  | .aug i op e => ⟨fun so => both rfl fun st h => s_aug so h⟩
  | .app i e => ⟨fun so => both rfl fun st h => s_app so h⟩
  | .ins i a e => ⟨fun so => both rfl fun st h => s_ins so h⟩
  | .drop e => ⟨fun so => both rfl fun st h => s_drop so h⟩
  | .ret e => ⟨fun so => both rfl fun st h => s_ret so h⟩
  | .retv i => ⟨fun so => both rfl fun st h => s_retv so h⟩
  | .iff c a b => ⟨fun so => both rfl fun st h => s_iff so (sndS L n cl a) (sndS L n cl b) h⟩
  | .for_ tg ik src body => ⟨fun so => both rfl fun st h => s_for so (sndS L n cl body) h⟩
  | .while_ c body => ⟨fun so => both rfl fun st h => s_while so (sndS L n cl body) h⟩
  | .raise c => ⟨fun so => both rfl fun st h => s_raise so h⟩
  | .try_ body i lim yes a b => ⟨fun so => both rfl fun st h => s_try so (sndS L n cl body) h⟩
end MP

/-! Mini, part C15: a def keeps the promise that its term tells. -/
set_option linter.all false
set_option Elab.async false
set_option maxRecDepth 100000
set_option maxHeartbeats 4000000
namespace MP
open PySem PySem.Spec PyProof.Rows L2
section
variable {K : PySem.W.Frag} {P F H : Hp} {io : Option Addr}
/-- the slots of a def's start, behind the first -/
theorem start_get {N : List Str} {vs : List V} (i : Nat) : (L2.start N vs)[i]? = if i < vs.length then (vs[i]?).map some else (if i < N.length then some none else none) := by
  unfold L2.start
  by_cases h : i < vs.length
  · rw [if_pos h, List.getElem?_append_left (by simpa using h), List.getElem?_map]
  · rw [if_neg h, List.getElem?_append_right (by simpa using h), List.getElem?_replicate, List.length_map]
    by_cases h2 : i < N.length
    · rw [if_pos h2, if_pos (by omega)]
    · rw [if_neg h2, if_neg (by omega)]
theorem start_len {N : List Str} {vs : List V} (h : vs.length ≤ N.length) : (L2.start N vs).length = N.length := by
  unfold L2.start
  simp
  omega
theorem vals_get {ds : List PyData} {m : Nat} {i : Nat} {s : Slot} (h : (ds.map Slot.val ++ List.replicate m .un)[i]? = some s) : s = .un ∨ ∃ d, ds[i]? = some d ∧ s = .val d := by
  by_cases hi : i < ds.length
  · rw [List.getElem?_append_left (by simpa using hi), List.getElem?_map] at h
    cases q : ds[i]? with
    | none => rw [q] at h; cases h
    | some d =>
      rw [q] at h
      cases h
      exact .inr ⟨d, rfl, rfl⟩
  · rw [List.getElem?_append_right (by simpa using hi), List.getElem?_replicate] at h
    split at h
    · cases h
      exact .inl rfl
    · cases h
theorem start_ok {N : List Str} {vs : List V} {b : Fn} {x0 : Ex0} {ds : List PyData} {env : MP.Env} (hN : N.length = b.slots) (hl : vs.length = b.np) (hFH : Ext F H) (ha : ArgOk K F H io vs ds x0) (he : startE b x0 ds = some env) :
    StOk K (offIo io H) F io F env (L2.start N vs) H ∧ (b.pk = .io ↔ ∃ p, io = some p) := by
  unfold startE at he
  cases x0 with
  | non =>
    obtain ⟨rfl, r⟩ := ha
    cases hp : b.pk <;> rw [hp] at he <;> first | (cases he; done) | skip
    simp only at he
    split at he <;> first | (cases he; done) | skip
    rename_i hc
    cases he
    refine ⟨⟨offIo_ext _ _, Ext.refl F, hFH, fun _ _ _ h => h, ?_, fun i s h => ?_, fun i j p m _ => ?_⟩, by simp⟩
    · rw [start_len (by omega), List.length_append, List.length_map, List.length_replicate]
      omega
    · rcases vals_get h with rfl | ⟨d, hd, rfl⟩
      · trivial
      · obtain ⟨v, h1, h2⟩ := r.get hd
        refine ⟨v, ?_, h2⟩
        rw [start_get, if_pos (List.getElem?_eq_some_iff.mp h1).1, h1]
        rfl
    · obtain ⟨a, _⟩ := m
      cases q : (ds.map Slot.val ++ List.replicate (b.slots - b.np) .un)[i]? with
      | none => rw [q] at a; cases a
      | some s =>
        rw [q] at a
        rcases vals_get q with rfl | ⟨d, _, rfl⟩ <;> cases a
  | io us =>
    obtain ⟨p, rest, rfl, rfl, ⟨ws, h1, h2, h3⟩, r⟩ := ha
    cases hp : b.pk <;> rw [hp] at he <;> first | (cases he; done) | skip
    simp only at he
    split at he <;> first | (cases he; done) | skip
    rename_i hc
    cases he
    have hl' : rest.length + 1 = b.np := by simpa using hl
    have sg : ∀ i, (L2.start N (V.ref p :: rest))[i + 1]? = if i < rest.length then (rest[i]?).map some else (if i + 1 < N.length then some none else none) := fun i => by
      rw [start_get]
      simp only [List.length_cons, List.getElem?_cons_succ, Nat.add_lt_add_iff_right]
    refine ⟨⟨offIo_ext _ _, Ext.refl F, hFH, fun _ _ _ h => h, ?_, fun i s h => ?_, fun i j q m m' => ?_⟩, by simp⟩
    · rw [start_len (by simp; omega), List.length_cons, List.length_append, List.length_map, List.length_replicate]
      omega
    · cases i with
      | zero =>
        cases h
        refine ⟨p, ws, rfl, by rw [start_get]; simp, h1, h2, h3, ?_⟩
        unfold offIo
        rw [if_pos rfl]
      | succ i =>
        rw [List.getElem?_cons_succ] at h
        rcases vals_get h with rfl | ⟨d, hd, rfl⟩
        · trivial
        · obtain ⟨v, k1, k2⟩ := r.get hd
          refine ⟨v, ?_, k2⟩
          rw [sg, if_pos (List.getElem?_eq_some_iff.mp k1).1, k1]
          rfl
    · have z : ∀ {k q}, MutAt (Slot.io us :: (ds.map Slot.val ++ List.replicate (b.slots - b.np) .un)) (L2.start N (V.ref p :: rest)) k q → k = 0 := fun {k q} ⟨a, _⟩ => by
        cases k with
        | zero => rfl
        | succ k =>
          rw [List.getElem?_cons_succ] at a
          cases q : (ds.map Slot.val ++ List.replicate (b.slots - b.np) .un)[k]? with
          | none => rw [q] at a; cases a
          | some s =>
            rw [q] at a
            rcases vals_get q with rfl | ⟨d, _, rfl⟩ <;> cases a
      rw [z m, z m']
  | scr ns =>
    obtain ⟨p, rest, rfl, rfl, h1, r⟩ := ha
    cases hp : b.pk <;> rw [hp] at he <;> first | (cases he; done) | skip
    simp only at he
    split at he <;> first | (cases he; done) | skip
    rename_i hc
    cases he
    have hl' : rest.length + 1 = b.np := by simpa using hl
    have sg : ∀ i, (L2.start N (V.ref p :: rest))[i + 1]? = if i < rest.length then (rest[i]?).map some else (if i + 1 < N.length then some none else none) := fun i => by
      rw [start_get]
      simp only [List.length_cons, List.getElem?_cons_succ, Nat.add_lt_add_iff_right]
    refine ⟨⟨offIo_ext _ _, Ext.refl F, hFH, fun _ _ _ h => h, ?_, fun i s h => ?_, fun i j q m m' => ?_⟩, by simp⟩
    · rw [start_len (by simp; omega), List.length_cons, List.length_append, List.length_map, List.length_replicate]
      omega
    · cases i with
      | zero =>
        cases h
        exact ⟨p, by rw [start_get]; simp, h1⟩
      | succ i =>
        rw [List.getElem?_cons_succ] at h
        rcases vals_get h with rfl | ⟨d, hd, rfl⟩
        · trivial
        · obtain ⟨v, k1, k2⟩ := r.get hd
          refine ⟨v, ?_, k2⟩
          rw [sg, if_pos (List.getElem?_eq_some_iff.mp k1).1, k1]
          rfl
    · obtain ⟨a, _⟩ := m
      cases i with
      | zero => cases a
      | succ k =>
        rw [List.getElem?_cons_succ] at a
        cases q : (ds.map Slot.val ++ List.replicate (b.slots - b.np) .un)[k]? with
        | none => rw [q] at a; cases a
        | some s =>
          rw [q] at a
          rcases vals_get q with rfl | ⟨d, _, rfl⟩ <;> cases a
end
section
variable {L : Wld} {n : Nat} {cl : Cl}
theorem argc_of {b : Fn} {x0 : Ex0} {ds : List PyData} {env : MP.Env} (he : startE b x0 ds = some env) : argc x0 ds = b.np := by
  unfold startE at he
  cases x0 <;> cases hp : b.pk <;> rw [hp] at he <;> first | (cases he; done) | skip
  all_goals
    simp only at he
    split at he <;> first | (cases he; done) | skip
    rename_i hc
    exact hc.1
/-- THE RULE: a def whose text has the form of its term answers as the term says -/
theorem def_ok {b : Fn} {x : Str} {st : Stmt} {f : Addr} {fd : FuncData} {N ps : List Str} (F : FunD L.K x x (defArgs st) (defBody st) (defScope st) [] [] f fd) (S : FnScope N ps (defScope st)) (hps : ps.length = b.np) (hN : N.length = b.slots)
    (hc : chkS L.T N (defScope st) b.body (.b (defBody st)) = true) (fns : FnsOk L n cl) (gb : GbOk L) (blt : BltOk L) (ex : ExOk L) (tr : TryOk L) : FnOk L.P L.w L.K L.mg L.base (L2.CX L.P L.w) (n + 1) f fd ps (spF L.K L.xa ps.length (runF cl L.gb b)) := by
  refine F.ok S (fun vs H Q E h => h.1) fun cdv A outer s H vs Q E hr h => ⟨TSm (fun c H => E (.ref (L.xa c)) none H) L.K (exS cl L.gb b.body), ?_, ?_⟩
  · refine ((sndS L n cl b.body).run (X := cxOf (L2.CX L.P L.w) L.P L.w L.K L.mg L.base N x (defScope st) f cdv A outer s H E) (sc := defScope st) (N := N) ⟨⟨rfl, rfl, rfl, rfl, rfl, rfl, S.nd, rfl, rfl, hr, fns, gb, blt, ?_⟩, fun x h => ⟨h, .inl rfl⟩, passes_of rfl, S.kind, ex, tr, rfl, rfl⟩).2 _ hc
    refine Takes.imp (takes_of rfl rfl rfl rfl) fun cls d σ H h => ?_
    obtain ⟨c, rfl, rfl, q⟩ := h
    exact q
  · obtain ⟨hlen, F, io, x0, ds, hFH, ha, post⟩ := h
    unfold runF at post
    cases he : startE b x0 ds with
    | none => rw [he] at post; exact post.elim
    | some env =>
      rw [he] at post
      simp only [R.of_some, R.bind_ok] at post
      obtain ⟨s0, hio⟩ := start_ok hN (hlen.trans hps) hFH ha he
      refine ⟨offIo io H, F, io, F, env, s0, ?_⟩
      have key : ∀ {e' : MP.Env} {us : List PyData} {σ' : L2.St} {F' H' : Hp}, ioOf b.pk e' = some us → StOk L.K (offIo io H) F io F' e' σ' H' → (∀ p o, H p = some o → F p = none → F' p = none) ∧ IoOk L.K F' H' us io ∧ ∀ p, io = some p → MutAt e' σ' 0 p := fun {e' us σ' F' H'} hu s => by
        cases hi : io with
        | none =>
          subst hi
          exact ⟨fun p o h1 h2 => s.hid p o (by rw [offIo_none]; exact h1) h2, trivial, fun _ z => by cases z⟩
        | some p =>
          have hk : b.pk = .io := hio.mpr ⟨p, hi⟩
          rw [hk] at hu
          have h0 : e'[(0 : Nat)]? = some (.io us) := by
            unfold ioOf at hu
            simp only at hu
            split at hu
            · rename_i q
              cases hu
              exact q
            · cases hu
          obtain ⟨p', ws, q0, q1, q2, q3, q4, q5⟩ := s.sl 0 _ h0
          rw [hi] at q0
          cases q0
          refine ⟨fun q o h1 h2 => ?_, ⟨ws, q2, q3, q4⟩, fun q z => by
            cases z
            exact ⟨by rw [h0]; rfl, q1⟩⟩
          by_cases hq : q = p
          · rw [hq]
            exact q4
          · exact s.hid q o (offIo_of h1 (by rw [hi]; intro z; cases z; exact hq rfl)) h2
      cases hr : exS cl L.gb b.body env with
      | stuck => rw [hr] at post; exact post.elim
      | exc c => rw [hr] at post; exact post
      | ok p =>
        obtain ⟨fl, e'⟩ := p
        rw [hr] at post
        simp only [R.bind_ok] at post
        cases hu : ioOf b.pk e' with
        | none => rw [hu] at post; exact post.elim
        | some us =>
          rw [hu] at post
          simp only [R.of_some, R.bind_ok] at post
          cases fl with
          | next =>
            intro σ' F' H' s' x'
            obtain ⟨k1, k2, k3⟩ := key hu s'
            exact post .non F' H' s'.pH x' s'.fH k1 k2 .non
          | ret r =>
            intro x σ' F' H' s' x' v'
            obtain ⟨k1, k2, k3⟩ := key hu s'
            refine post x F' H' s'.pH x' s'.fH k1 k2 ?_
            cases r with
            | fz d => exact v'
            | fr es =>
              obtain ⟨p, ws, rfl, g1, g2, g3, g4, g5⟩ := v'
              exact ⟨p, ws, rfl, g1, g2, g3, g4, fun z => g5 0 (k3 p z)⟩
            | fd k es =>
              obtain ⟨p, u, rfl, g1, g2, g3, g4, g5⟩ := v'
              exact ⟨p, u, rfl, g1, g2, g3, g4, fun z => g5 0 (k3 p z)⟩
/-- what is told of a def: its place, its parameters, and that it answers as r says -/
structure DefOk (L : Wld) (n : Nat) (x : Str) (r : Ex0 → List PyData → R (RV × List PyData)) : Prop where
  ok : ∃ (a : Addr) (fd : FuncData) (ps : List Str), L.mg x = some (.ref a) ∧ PySem.W.keepIn L.K (.ref a) = true ∧ Binds L.K fd ps [] ∧
    FnOk L.P L.w L.K L.mg L.base (L2.CX L.P L.w) n a fd ps (spF L.K L.xa ps.length r) ∧ ∀ x0 ds, r x0 ds ≠ .stuck → argc x0 ds = ps.length
theorem def_fn {b : Fn} {x : Str} {st : Stmt} {f : Addr} {fd : FuncData} {N ps : List Str} (F : FunD L.K x x (defArgs st) (defBody st) (defScope st) [] [] f fd) (hb : Binds L.K fd ps []) (g : L.mg x = some (.ref f)) (S : FnScope N ps (defScope st)) (hps : ps.length = b.np) (hN : N.length = b.slots)
    (hc : chkS L.T N (defScope st) b.body (.b (defBody st)) = true) (fns : FnsOk L n cl) (gb : GbOk L) (blt : BltOk L) (ex : ExOk L) (tr : TryOk L) : DefOk L (n + 1) x (runF cl L.gb b) :=
  ⟨f, fd, ps, g, F.kp, hb, def_ok F S hps hN hc fns gb blt ex tr, fun x0 ds h => by
    unfold runF at h
    cases he : startE b x0 ds with
    | none => rw [he] at h; exact absurd rfl h
    | some env => rw [argc_of he, hps]⟩
end
end MP

/-! Mini, part C16: all defs of a program; the law at the end of its head. -/
set_option linter.all false
set_option Elab.async false
set_option maxRecDepth 100000
set_option maxHeartbeats 4000000
namespace MP
open PySem PySem.Spec PyProof.Rows L2

/-- how a def's arguments bind, every parameter given -/
def BindsF (x : Str) (st : Stmt) (ps : List Str) : Prop := ∀ (kV doc pm : Value) (an : Option Addr) (cdv ct : Value) (us : List Value), us.length = ps.length → bindArgs (PySem.W.fnOf x x (defArgs st) (defBody st) (defScope st) .none kV doc pm an cdv ct) ⟨us, []⟩ = pure (ps.zip us)
/-- a def's text has the form of its term -/
def FnSrc (T : Tb) (x : Str) (st : Stmt) (b : Fn) : Prop := ∃ N ps, FnScope N ps (defScope st) ∧ ps.length = b.np ∧ N.length = b.slots ∧ chkS T N (defScope st) b.body (.b (defBody st)) = true ∧ BindsF x st ps
/-- a def that is told otherwise keeps its promise -/
def PrimSrc (T : Tb) (x : Str) (st : Stmt) (p : Cl → Ex0 → List PyData → R (RV × List PyData)) : Prop := ∃ ps, BindsF x st ps ∧ (∀ cl x0 ds, p cl x0 ds ≠ .stuck → argc x0 ds = ps.length) ∧
  ∀ (L : Wld) (n : Nat) (cl : Cl) (f : Addr) (fd : FuncData), L.T = T → FunD L.K x x (defArgs st) (defBody st) (defScope st) [] [] f fd → FnsOk L n cl → GbOk L → BltOk L → ExOk L → TryOk L →
    FnOk L.P L.w L.K L.mg L.base (L2.CX L.P L.w) (n + 1) f fd ps (spF L.K L.xa ps.length (p cl))
def DefSrc (T : Tb) (x : Str) (st : Stmt) : Def → Prop
  | .fn b => FnSrc T x st b
  | .prim p => PrimSrc T x st p
def DefsSrc (T : Tb) (top : Nat → Stmt) : List (Str × Nat) → List Def → Prop
  | [], [] => True
  | (x, i) :: xs, d :: ds => DefSrc T x (top i) d ∧ DefsSrc T top xs ds
  | _, _ => False
theorem DefsSrc.get {T : Tb} {top : Nat → Stmt} : ∀ {xs : List (Str × Nat)} {ds : List Def} {k : Nat} {x : Str} {i : Nat}, DefsSrc T top xs ds → xs[k]? = some (x, i) → ∃ d, ds[k]? = some d ∧ DefSrc T x (top i) d
  | [], [], k, _, _, _, e => by simp at e
  | (x, i) :: xs, d :: ds, 0, _, _, h, e => by
    simp at e
    obtain ⟨rfl, rfl⟩ := e
    exact ⟨d, rfl, h.1⟩
  | (x, i) :: xs, d :: ds, k + 1, y, j, h, e => by
    obtain ⟨d', h1, h2⟩ := DefsSrc.get (k := k) (x := y) (i := j) h.2 (by simpa using e)
    exact ⟨d', by simpa using h1, h2⟩
  | [], _ :: _, _, _, _, h, _ => h.elim
  | _ :: _, [], _, _, _, h, _ => h.elim
/-- where the defs stand -/
def Stand (L : Wld) (top : Nat → Stmt) (ix : List (Str × Nat)) : Prop := ∀ (k : Nat) (x : Str) (i : Nat), ix[k]? = some (x, i) → ∃ (f : Addr) (fd : FuncData), L.mg x = some (.ref f) ∧ FunD L.K x x (defArgs (top i)) (defBody (top i)) (defScope (top i)) [] [] f fd
section
variable {L : Wld} {top : Nat → Stmt} {ix : List (Str × Nat)} {defs : List Def}
def ansOf (L : Wld) (cl : Cl) : Def → Ex0 → List PyData → R (RV × List PyData)
  | .fn b => runF cl L.gb b
  | .prim p => p cl
theorem src_ps {T : Tb} {x : Str} {st : Stmt} {d : Def} (h : DefSrc T x st d) : ∃ ps, BindsF x st ps ∧ (∀ (L : Wld) (n : Nat) (cl : Cl) (f : Addr) (fd : FuncData), L.T = T → FunD L.K x x (defArgs st) (defBody st) (defScope st) [] [] f fd → FnsOk L n cl → GbOk L → BltOk L → ExOk L → TryOk L →
    FnOk L.P L.w L.K L.mg L.base (L2.CX L.P L.w) (n + 1) f fd ps (spF L.K L.xa ps.length (ansOf L cl d))) ∧ ∀ (L : Wld) (cl : Cl) x0 ds, ansOf L cl d x0 ds ≠ .stuck → argc x0 ds = ps.length := by
  cases d with
  | fn b =>
    obtain ⟨N, ps, S, hps, hN, hc, hb⟩ := h
    refine ⟨ps, hb, fun L n cl f fd e F fns gb blt ex tr => def_ok F S hps hN (e ▸ hc) fns gb blt ex tr, fun L cl x0 ds h => ?_⟩
    have h : runF cl L.gb b x0 ds ≠ .stuck := h
    unfold runF at h
    cases he : startE b x0 ds with
    | none => rw [he] at h; exact absurd rfl h
    | some env => rw [argc_of he, hps]
  | prim p =>
    obtain ⟨ps, hb, h1, h2⟩ := h
    exact ⟨ps, hb, h2, fun L cl x0 ds h => h1 cl x0 ds h⟩
theorem fns_zero {L : Wld} {n : Nat} (h : ∀ (k : Nat) (x : Str), L.T.fn[k]? = some x → ∃ (a : Addr) (fd : FuncData) (ps : List Str), L.mg x = some (.ref a) ∧ PySem.W.keepIn L.K (.ref a) = true ∧ Binds L.K fd ps []) : FnsOk L n (fun _ _ _ => .stuck) := fun f x e => by
  obtain ⟨a, fd, ps, h1, h2, h3⟩ := h f x e
  refine ⟨a, fd, ps, h1, h2, h3, ⟨fun vs H Q E h => h.1, fun A outer s H args us vs Q E _ _ _ _ hs => ?_⟩, fun x0 ds z => absurd rfl z⟩
  obtain ⟨_, _, _, _, _, _, _, z⟩ := hs
  exact z.elim
/-- every def answers as run says -/
theorem fns_all (src : DefsSrc L.T top ix defs) (hfn : L.T.fn = ix.map (·.1)) (std : Stand L top ix) (gb : GbOk L) (blt : BltOk L) (ex : ExOk L) (tr : TryOk L) : ∀ n, FnsOk L n (run defs L.gb n) := by
  have at_ : ∀ (k : Nat) (x : Str), L.T.fn[k]? = some x → ∃ i d ps f fd, ix[k]? = some (x, i) ∧ defs[k]? = some d ∧ L.mg x = some (.ref f) ∧ FunD L.K x x (defArgs (top i)) (defBody (top i)) (defScope (top i)) [] [] f fd ∧ BindsF x (top i) ps ∧
      (∀ (n : Nat) (cl : Cl), FnsOk L n cl → FnOk L.P L.w L.K L.mg L.base (L2.CX L.P L.w) (n + 1) f fd ps (spF L.K L.xa ps.length (ansOf L cl d))) ∧ ∀ (cl : Cl) x0 ds, ansOf L cl d x0 ds ≠ .stuck → argc x0 ds = ps.length := fun k x e => by
    rw [hfn, List.getElem?_map] at e
    cases q : ix[k]? with
    | none => rw [q] at e; cases e
    | some p =>
      obtain ⟨y, i⟩ := p
      rw [q] at e
      cases e
      obtain ⟨d, h1, h2⟩ := src.get q
      obtain ⟨f, fd, g1, g2⟩ := std k _ i q
      obtain ⟨ps, b1, b2, b3⟩ := src_ps h2
      exact ⟨i, d, ps, f, fd, rfl, h1, g1, g2, b1, fun n cl fns => b2 L n cl f fd rfl g2 fns gb blt ex tr, fun cl => b3 L cl⟩
  intro n
  induction n with
  | zero =>
    exact fns_zero fun k x e => by
      obtain ⟨i, d, ps, f, fd, _, _, g1, g2, b1, _, _⟩ := at_ k x e
      exact ⟨f, fd, ps, g1, g2.kp, g2.bindsN b1⟩
  | succ n ih =>
    intro k x e
    obtain ⟨i, d, ps, f, fd, _, hd, g1, g2, b1, b2, b3⟩ := at_ k x e
    have hr : run defs L.gb (n + 1) k = ansOf L (run defs L.gb n) d := by
      funext x0 ds
      show (match defs[k]? with
        | some (.fn b) => runF (run defs L.gb n) L.gb b x0 ds
        | some (.prim p) => p (run defs L.gb n) x0 ds
        | none => .stuck) = _
      rw [hd]
      cases d <;> rfl
    refine ⟨f, fd, ps, g1, g2.kp, g2.bindsN b1, ?_, ?_⟩
    · rw [hr]
      exact b2 n _ ih
    · rw [hr]
      exact b3 _
end

/-! ### the head's facts -/
/-- a constant as the head tells it -/
def dvOf : PyData → He.Dv
  | .none => .non
  | .bool b => .bl b
  | .int i => .int i
  | .str x => .str x
  | _ => .non
def flatB : PyData → Bool
  | .none => true
  | .bool _ => true
  | .int _ => true
  | .str _ => true
  | _ => false
def gbFa : Str × PyData → He.Fa
  | (x, .int i) => .int x i
  | (x, .str z) => .str x z
  | (x, _) => .glo x
/-- a module's tuple whose object has no dict -/
def tupNB (K : PySem.W.Frag) (x : Str) (vs : List He.Dv) : Bool := match K.lookup (He.ga K x) with
  | some ⟨.type c, none, .seq its _, _⟩ => decide (c = "tuple") && (decide (its.size ≤ sizeLine) && He.relAll (vs.map (He.Dv.v K)) its.toList)
  | _ => false
theorem tupNB_ok {K : PySem.W.Frag} {x : Str} {vs : List He.Dv} (h : tupNB K x vs = true) (H : Hp) : TupN K H (He.ga K x) (vs.map (He.Dv.v K)) := by
  unfold tupNB at h
  cases q : K.lookup (He.ga K x) with
  | none =>
    rw [q] at h
    cases h
  | some o =>
    obtain ⟨oc, od, dt, osl⟩ := o
    rw [q] at h
    cases oc with
    | type c =>
      cases od with
      | none =>
        cases dt with
        | seq its n =>
          have h : (decide (c = "tuple") && (decide (its.size ≤ sizeLine) && He.relAll (vs.map (He.Dv.v K)) its.toList)) = true := h
          rw [Bool.and_eq_true, Bool.and_eq_true] at h
          exact .inr ⟨_, its, n, q, congrArg Value.type (of_decide_eq_true h.1), rfl, rfl, of_decide_eq_true h.2.1, He.relAll_ok h.2.2⟩
        | _ => cases h
      | some a => cases dt <;> cases h
    | _ => cases od <;> cases dt <;> cases h
def gbEx (K : PySem.W.Frag) : Str × PyData → Bool
  | (_, .int _) => true
  | (_, .str _) => true
  | (x, .tuple ds) => ds.all flatB && tupNB K x (ds.map dvOf)
  | _ => false
def faOf (fns exs : List Str) (gbs : List (Str × PyData)) : List He.Fa := fns.map .glo ++ bltNames.map .free ++ exs.map .glo ++ exs.map .exc ++ gbs.map gbFa
def fnOfs (top : Nat → Stmt) (ix : List (Str × Nat)) : List He.DefD := ix.map fun p => ⟨(p.1, none), p.1, p.1, defArgs (top p.2), defBody (top p.2), defScope (top p.2), [], []⟩
/-- a caught class is asked rightly -/
def excB (K : PySem.W.Frag) (D : Addr) : Bool := decide (PySem.W.findIn K (.ref D) "__getattribute__" = some (some (.builtin "BaseException.__getattribute__"))) && decide (PySem.W.findIn K (.ref D) "__getattr__" = some none) && decide (PySem.W.subIn K (.ref D) (.type "BaseException") = some true) && PySem.W.hasDictIn K D &&
  decide (PySem.W.findIn K (.ref D) "__class__" = some (some (.builtin "object.__class__"))) && decide (PySem.W.specialIn K (.builtin "object.__class__") "__get__" = some (some (.builtin "getset_descriptor.__get__"))) && decide (PySem.W.takesIn K (.builtin "object.__class__") = some true) && decide (PySem.W.mroIn K D (.type "object") = some true)
theorem excB_ok {K : PySem.W.Frag} {D : Addr} (h : excB K D = true) : ExcC K D := by
  unfold excB at h
  simp only [Bool.and_eq_true, decide_eq_true_eq] at h
  obtain ⟨⟨⟨⟨⟨⟨⟨h1, h2⟩, h3⟩, h4⟩, h5⟩, h6⟩, h7⟩, h8⟩ := h
  exact ⟨h1, h2, h3, h4, h5, h6, h7, h8⟩
def tryB (tr : Bool) (sub : Nat → Nat → Bool) (exs : List Str) (K : PySem.W.Frag) : Bool := !tr || exs.zipIdx.all fun p => excB K (He.ga K p.1) && exs.zipIdx.all fun q => decide (PySem.W.exmOne K (.ref (He.ga K p.1)) (.ref (He.ga K q.1)) = some (sub p.2 q.2)) && decide (PySem.W.kitOne K (.ref (He.ga K p.1)) (.ref (He.ga K q.1)) = some (sub p.2 q.2))
def exOf (tr : Bool) (sub : Nat → Nat → Bool) (exs : List Str) (gbs : List (Str × PyData)) (K : PySem.W.Frag) : Bool := gbs.all (gbEx K) && tryB tr sub exs K
/-- a program as it is told here -/
structure Pg where
  prog : Program
  top : Nat → Stmt
  ix : List (Str × Nat)
  gbs : List (Str × PyData)
  exs : List Str
  tr : Bool
  sub : Nat → Nat → Bool
  defs : List Def
def Pg.tb (p : Pg) : Tb := ⟨p.ix.map (·.1), p.gbs.map (·.1), p.exs, p.tr, p.sub⟩
def Pg.ex (p : Pg) : PySem.W.Frag → Bool := exOf p.tr p.sub p.exs p.gbs
def Pg.gb (p : Pg) : Gb := fun g => (p.gbs[g]?).map (·.2)
def Pg.fa (p : Pg) : List He.Fa := faOf (p.ix.map (·.1)) p.exs p.gbs
def Pg.fn (p : Pg) : List He.DefD := fnOfs p.top p.ix
abbrev Pg.hook (p : Pg) : PySem.W.Hook := He.hookX 4 p.fa p.fn [] [] p.ex
def Pg.wld (p : Pg) (w : World) (K : PySem.W.Frag) (mg : Str → Option Value) (base : Heap) : Wld := ⟨p.prog, w, K, mg, base, p.tb, p.gb, fun c => He.ga K (p.exs.getD c Str.empty)⟩
section
variable {p : Pg} {w : World} {K : PySem.W.Frag} {h : Heap} {mg : Str → Option Value} {base : Heap}
theorem rp_flat {d : PyData} (hd : flatB d = true) (F : Hp) : Rp K F ((dvOf d).v K) d := by
  cases d <;> first | exact .non | exact .bl _ | exact .int _ | exact .str _ | (cases hd)
theorem rpa_flat {F : Hp} : ∀ {ds : List PyData}, ds.all flatB = true → RpA K F ((ds.map dvOf).map (He.Dv.v K)) ds
  | [], _ => .nil
  | d :: ds, hd => by
    rw [List.all_cons, Bool.and_eq_true] at hd
    exact .cons (rp_flat hd.1 F) (rpa_flat hd.2)
theorem Pg.stand (p : Pg) (X : K.In h) (G : h.Ns mainGlobals mg) (c : He.SaysD p.fa p.fn K) : Stand (p.wld w K mg base) p.top p.ix := fun k x i e => by
  have hm := List.mem_of_getElem? e
  obtain ⟨fd, F⟩ := c.defs (d := ⟨(x, none), x, x, defArgs (p.top i), defBody (p.top i), defScope (p.top i), [], []⟩) (List.mem_map.mpr ⟨(x, i), hm, rfl⟩)
  have g : mg x = some (.ref (He.ga K x)) := He.glo_ok X G (c.facts (f := .glo x) (by
    unfold Pg.fa faOf
    simp only [List.mem_append, List.mem_map]
    exact .inl (.inl (.inl (.inl ⟨x, ⟨(x, i), hm, rfl⟩, rfl⟩)))))
  exact ⟨He.ga K x, fd, g, F⟩
theorem Pg.blt (p : Pg) (X : K.In h) (G : h.Ns mainGlobals mg) (c : He.SaysD p.fa p.fn K) : BltOk (p.wld w K mg base) := fun x hx => He.free_ok X G (c.facts (f := .free x) (by
    unfold Pg.fa faOf
    simp only [List.mem_append, List.mem_map]
    exact .inl (.inl (.inl (.inr ⟨x, hx, rfl⟩)))))
theorem Pg.exk (p : Pg) (X : K.In h) (G : h.Ns mainGlobals mg) (c : He.SaysD p.fa p.fn K) : ExOk (p.wld w K mg base) := fun k x e => by
  have hm := List.mem_of_getElem? (show p.exs[k]? = some x from e)
  have xa : (p.wld w K mg base).xa k = He.ga K x := by
    show He.ga K (p.exs.getD k Str.empty) = _
    rw [List.getD_eq_getElem?_getD, show p.exs[k]? = some x from e]
    rfl
  rw [xa]
  have g : mg x = some (.ref (He.ga K x)) := He.glo_ok X G (c.facts (f := .glo x) (by
    unfold Pg.fa faOf
    simp only [List.mem_append, List.mem_map]
    exact .inl (.inl (.inr ⟨x, hm, rfl⟩))))
  have q := He.exc_ok (c.facts (f := .exc x) (by
    unfold Pg.fa faOf
    simp only [List.mem_append, List.mem_map]
    exact .inl (.inr ⟨x, hm, rfl⟩)))
  exact ⟨g, q.2.1, q.1, q.2.2.1, q.2.2.2⟩
theorem Pg.gbk (p : Pg) (X : K.In h) (G : h.Ns mainGlobals mg) (c : He.SaysD p.fa p.fn K) (m : p.ex K = true) : GbOk (p.wld w K mg base) := fun g x₀ d₀ e1 e2 => by
  have e1 : (p.gbs.map (·.1))[g]? = some x₀ := e1
  have e2 : (p.gbs[g]?).map (·.2) = some d₀ := e2
  rw [List.getElem?_map] at e1
  cases q : p.gbs[g]? with
  | none => rw [q] at e1; cases e1
  | some z =>
    obtain ⟨x, d⟩ := z
    rw [q] at e1 e2
    have e1 : x = x₀ := Option.some.inj e1
    have e2 : d = d₀ := Option.some.inj e2
    subst e1 e2
    have hm := List.mem_of_getElem? q
    have f := c.facts (f := gbFa (x, d)) (by
      unfold Pg.fa faOf
      simp only [List.mem_append, List.mem_map]
      exact .inr ⟨(x, d), hm, rfl⟩)
    have e := List.all_eq_true.mp (Bool.and_eq_true_iff.mp m).1 (x, d) hm
    cases d with
    | int i =>
      obtain ⟨t, ht⟩ := He.int_ok X G f
      exact ⟨.int i, _, ht, ⟨t, rfl⟩, fun F => .int i⟩
    | str s =>
      obtain ⟨t, ht⟩ := He.str_ok X G f
      exact ⟨.str s, _, ht, ⟨t, rfl⟩, fun F => .str s⟩
    | tuple ds =>
      have e : (ds.all flatB && tupNB K x (ds.map dvOf)) = true := e
      rw [Bool.and_eq_true] at e
      exact ⟨.ref (He.ga K x), _, He.glo_ok X G f, rfl, fun F => .tup (tupNB_ok e.2 F) (rpa_flat e.1)⟩
    | none => cases e
    | bool _ => cases e
    | list _ => cases e
    | dict _ => cases e
theorem Pg.xa_eq (p : Pg) {k : Nat} {x : Str} (e : p.exs[k]? = some x) : (p.wld w K mg base).xa k = He.ga K x := by
  show He.ga K (p.exs.getD k Str.empty) = _
  rw [List.getD_eq_getElem?_getD, e]
  rfl
theorem Pg.trk (p : Pg) (m : p.ex K = true) : TryOk (p.wld w K mg base) := fun ht c x e => by
  have ht : p.tr = true := ht
  have e : p.exs[c]? = some x := e
  have m2 : tryB p.tr p.sub p.exs K = true := (Bool.and_eq_true_iff.mp m).2
  unfold tryB at m2
  rw [ht] at m2
  have m2 : (p.exs.zipIdx.all fun p' => excB K (He.ga K p'.1) && p.exs.zipIdx.all fun q => decide (PySem.W.exmOne K (.ref (He.ga K p'.1)) (.ref (He.ga K q.1)) = some (p.sub p'.2 q.2)) && decide (PySem.W.kitOne K (.ref (He.ga K p'.1)) (.ref (He.ga K q.1)) = some (p.sub p'.2 q.2))) = true := m2
  have z := Bool.and_eq_true_iff.mp (List.all_eq_true.mp m2 (x, c) (List.mem_zipIdx_iff_getElem?.mpr e))
  rw [p.xa_eq e]
  refine ⟨excB_ok z.1, fun d y e2 => ?_⟩
  have e2 : p.exs[d]? = some y := e2
  have z2 := Bool.and_eq_true_iff.mp (List.all_eq_true.mp z.2 (y, d) (List.mem_zipIdx_iff_getElem?.mpr e2))
  rw [p.xa_eq e2]
  exact ⟨of_decide_eq_true z2.1, of_decide_eq_true z2.2⟩
/-- a law's end, where exceptions lie as the layer's CX tells -/
theorem walk_w {l : PySem.W.OpenLaw} {n k : Nat} {q : Program} {loose : List Str} {XP : (Str → Option Value) → Heap → Prop} {YP : World → Heap → Prop} {d : DefRec} {x : Str} (hn : l.most = some n) (hn2 : n ≤ sizeLine) (hdf : d.params.defaults = []) (hr : Room k callerA)
    (F : ∀ (w : World) (mg : Str → Option Value) (fa : Addr) (h : Heap), YP w h → h.Ns mainGlobals mg → mg d.name = some (.ref fa) → ∃ (K : PySem.W.Frag) (fd : FuncData) (sp : Sp), K.In h ∧ (∀ (s : Shared) (u : Value), BindsTo s fd ⟨[u], []⟩ [(x, u)]) ∧
      (∀ (H : Hp) (a : Addr) (ns : List Int), ns.length ≤ n → SqL K H a (ns.map V.int) → sp [.ref a] H (fun v _ => v = .bl true) fun _ _ _ => False) ∧ ∀ base : Heap, K.In base → base.Ns mainGlobals mg → FnOk l.prog w K mg base (L2.CX l.prog w) k fa fd [x] sp) :
    PySem.W.WalkO q loose XP YP l.row.toRowW d [] (fun f vs => PySem.call f vs) := by
  refine Att.attach_call hn hdf fun w s₀ s₁ mg mb fa o pm cd doc a vs ns G Y ho hd hcd hmg hobj hints hlen hg => ?_
  obtain ⟨K, fd, sp, X, hb, hs, hF⟩ := F w mg fa _ Y G.T.g hmg
  refine law_call X G.T.g G.T.b G.T.builtins G.T.nolimit hg hobj hints (Nat.le_trans hlen hn2) hr hF hb (fun H _ hS => hs H a ns hlen hS) fun H e s' z => ?_
  obtain ⟨_, _, _, _, _, _, _, _, _, _, _, _, no⟩ := z
  exact no.elim
/-- THE END: a law whose term answers True at every script -/
theorem Pg.end_ (p : Pg) {l : PySem.W.OpenLaw} {n k m i : Nat} {q : Program} {loose : List Str} {XP : (Str → Option Value) → Heap → Prop} {d : DefRec} {x y : Str} (hn : l.most = some n) (hn2 : n ≤ sizeLine) (hdf : d.params.defaults = []) (hr : Room (k + 1) callerA) (hp : l.prog = p.prog) (hnm : d.name = y) (hd : p.ix[m]? = some (y, i))
    (src : DefsSrc p.tb p.top p.ix p.defs) {b : Fn} (hb : p.defs[m]? = some (.fn b)) {N : List Str} (hS : FnScope N [x] (defScope (p.top i))) (h1 : b.np = 1) (hN : N.length = b.slots) (hc : chkS p.tb N (defScope (p.top i)) b.body (.b (defBody (p.top i))) = true) (hbd : BindsF y (p.top i) [x])
    (law : ∀ ns : List Int, ns.length ≤ n → run p.defs p.gb (k + 1) m (.scr ns) [] = .ok (.fz (.bool true), [])) :
    PySem.W.WalkO q loose XP p.hook.says l.row.toRowW d [] (fun f vs => PySem.call f vs) := by
  refine walk_w (k := k + 1) (x := x) hn hn2 hdf hr fun w mg fa h Y G hmg => ?_
  obtain ⟨K, X, c⟩ := Y
  obtain ⟨f, fd, g, F⟩ := p.stand (w := w) (base := h) X G c.t.d m _ i hd
  rw [hnm] at hmg
  have e := hmg.symm.trans g
  cases e
  have B := F.bindsA hbd
  refine ⟨K, fd, spF K (fun c => He.ga K (p.exs.getD c Str.empty)) 1 (run p.defs p.gb (k + 1) m), X, fun s u => B s [u] rfl, fun H a ns hl hs => ?_, fun base X' G' => ?_⟩
  · refine ⟨rfl, H, none, .scr ns, [], Ext.refl H, ⟨a, [], rfl, rfl, hs, .nil⟩, ?_⟩
    rw [law ns hl]
    intro x F' H' _ _ _ _ _ r
    have r : Rp K F' x (.bool true) := r
    cases r
    rfl
  · have fns := fns_all (L := p.wld w K mg base) src rfl (p.stand X' G' c.t.d) (p.gbk X' G' c.t.d c.more) (p.blt X' G' c.t.d) (p.exk X' G' c.t.d) (p.trk c.more) k
    have z := def_ok (L := p.wld w K mg base) F hS (by rw [h1]; rfl) hN hc fns (p.gbk X' G' c.t.d c.more) (p.blt X' G' c.t.d) (p.exk X' G' c.t.d) (p.trk c.more)
    have e : run p.defs p.gb (k + 1) m = runF (run p.defs p.gb k) p.gb b := by
      funext x0 ds
      show (match p.defs[m]? with
        | some (.fn b) => runF (run p.defs p.gb k) p.gb b x0 ds
        | some (.prim q) => q (run p.defs p.gb k) x0 ds
        | none => .stuck) = _
      rw [hb]
    rw [e, hp]
    exact z
end
end MP

/-! Mini, part P: what a term answers, as equations; rules for its loops. Plain Lean. -/
set_option linter.all false
set_option maxRecDepth 100000
namespace MP
open PySem (PyData Str)
/-- a program's defs and constants -/
structure Pl where
  defs : List Def
  gb : Gb
section
variable {α β γ : Type} {cl : Cl} {gb : Gb} {env : Env}
theorem R.bind_assoc (x : R α) (f : α → R β) (g : β → R γ) : (x.bind f).bind g = x.bind fun a => (f a).bind g := by cases x <;> rfl
theorem R.bind_ite {c : Prop} [Decidable c] (x y : R α) (f : α → R β) : (if c then x else y).bind f = if c then x.bind f else y.bind f := by split <;> rfl
/-- what comes behind, out of the simplifier's sight until its turn is there -/
class Kont (α β : Type) where
  f : α → R β
def bindI {α β : Type} (x : R α) [k : Kont α β] : R β := x.bind k.f
@[simp ↓] theorem bind_toI (x : R α) (f : α → R β) : x.bind f = @bindI α β x ⟨f⟩ := rfl
@[simp] theorem bindI_ok (a : α) (f : α → R β) : @bindI α β (.ok a) ⟨f⟩ = f a := rfl
@[simp] theorem bindI_exc (c : Nat) (f : α → R β) : @bindI α β (.exc c) ⟨f⟩ = .exc c := rfl
@[simp] theorem bindI_stuck (f : α → R β) : @bindI α β .stuck ⟨f⟩ = .stuck := rfl
@[simp] theorem bindI_assoc (x : R α) (f : α → R β) (g : β → R γ) : @bindI β γ (@bindI α β x ⟨f⟩) ⟨g⟩ = @bindI α γ x ⟨fun a => (f a).bind g⟩ := by cases x <;> rfl
@[simp] theorem bindI_ite {c : Prop} [Decidable c] (x y : R α) (f : α → R β) : @bindI α β (if c then x else y) ⟨f⟩ = if c then @bindI α β x ⟨f⟩ else @bindI α β y ⟨f⟩ := by split <;> rfl
/-! ### terms -/
@[simp] theorem Ev4.of_v (f : Env → R (Val × Env)) : (Ev4.of f).v = f := rfl
@[simp] theorem Ev4.of_t (f : Env → R (Val × Env)) : (Ev4.of f).t = tstOf f := rfl
@[simp] theorem Ev4.of_o (f : Env → R (Val × Env)) : (Ev4.of f).o = endOf f := rfl
@[simp] theorem Ev4.bool_v (f : Env → R (Val × Env)) (t) : (Ev4.bool f t).v = f := rfl
@[simp] theorem Ev4.bool_t (f : Env → R (Val × Env)) (t) : (Ev4.bool f t).t = t := rfl
@[simp] theorem ev_cst (d : PyData) : ev cl gb (.cst d) = .of fun env => .ok (.fz d, env) := rfl
@[simp] theorem ev_glob (g : Nat) : ev cl gb (.glob g) = .of fun env => (R.of (gb g)).bind fun d => .ok (.fz d, env) := rfl
@[simp] theorem ev_var (i : Nat) : ev cl gb (.var i) = .of (readVar i) := rfl
@[simp] theorem ev_peek (i : Nat) : ev cl gb (.peek i) = .of (readPeek i) := rfl
@[simp] theorem ev_bin (op : BOp) (a b : E) : ev cl gb (.bin op a b) = .of (ev2 (ev cl gb a).v (ev cl gb b).v (arith op)) := rfl
@[simp] theorem ev_neg (a : E) : ev cl gb (.neg a) = .of (ev1 (ev cl gb a).v negD) := rfl
@[simp] theorem ev_cmp (op : COp) (a b : E) : ev cl gb (.cmp op a b) = .of (ev2 (ev cl gb a).v (ev cl gb b).v (cmpV op)) := rfl
@[simp] theorem ev_chn (o1 o2 : COp) (a b c : E) : ev cl gb (.chn o1 o2 a b c) = .of (evChn (ev cl gb a).v (ev cl gb b).v (ev cl gb c).v o1 o2) := rfl
@[simp] theorem ev_and (a b : E) : ev cl gb (.and a b) = .bool (evAndV (ev cl gb a).v (ev cl gb b).v) (tAndE (ev cl gb a).t (ev cl gb b).t) := rfl
@[simp] theorem ev_or (a b : E) : ev cl gb (.or a b) = .bool (evOrV (ev cl gb a).v (ev cl gb b).v) (tOrE (ev cl gb a).t (ev cl gb b).t) := rfl
@[simp] theorem ev_orV (a b : E) : ev cl gb (.orV a b) = .bool (evOrT (ev cl gb a).v (ev cl gb b).v) (fun _ => .stuck) := rfl
@[simp] theorem ev_not (a : E) : ev cl gb (.not a) = .bool (ev1 (ev cl gb a).v notD) (tNotE (ev cl gb a).t) := rfl
@[simp] theorem ev_ite (c a b : E) : (ev cl gb (.ite c a b)).v = evIte (ev cl gb c).t (ev cl gb a).v (ev cl gb b).v := rfl
@[simp] theorem ev_tup (as : E) : ev cl gb (.tup as) = .of (evFz (ev cl gb as).a kTup) := rfl
@[simp] theorem ev_lst (as : E) : ev cl gb (.lst as) = .of (evFz (ev cl gb as).a kLst) := rfl
@[simp] theorem ev_no_t : (ev cl gb .no).t = fun env => .ok (true, env) := rfl
@[simp] theorem ev_no_o : (ev cl gb .no).o = fun env => .ok (none, env) := rfl
@[simp] theorem ev_nil_a : (ev cl gb .nil).a = fun env => .ok ([], env) := rfl
@[simp] theorem ev_cons_a (a as : E) : (ev cl gb (.cons a as)).a = evCons (ev cl gb a).v (ev cl gb as).a := rfl
@[simp] theorem ev_idx (a i : E) : ev cl gb (.idx a i) = .of (ev2 (ev cl gb a).v (ev cl gb i).v idxD) := rfl
@[simp] theorem ev_slc (a lo hi : E) : ev cl gb (.slc a lo hi) = .of (evSlc (ev cl gb a).v (ev cl gb lo).o (ev cl gb hi).o) := rfl
@[simp] theorem ev_call (f : Nat) (as : E) : ev cl gb (.call f as) = .of (evFz (ev cl gb as).a (kCall cl f)) := rfl
@[simp] theorem ev_callIo (f i : Nat) (as : E) : ev cl gb (.callIo f i as) = .of (evOwn i (evFz (ev cl gb as).a (kCallIo cl f i))) := rfl
@[simp] theorem ev_callScr (f i : Nat) (as : E) : ev cl gb (.callScr f i as) = .of (evScr i (evFz (ev cl gb as).a (kCallScr cl f i))) := rfl
@[simp] theorem ev_callPk (f : Nat) (as : E) : ev cl gb (.callPk f as) = .of (evLk (ev cl gb as).a (kCallPk cl f)) := rfl
@[simp] theorem ev_dct0 (k : Bool) : ev cl gb (.dct0 k) = .of fun env => .ok (.fd k [], env) := rfl
@[simp] theorem ev_dct1 (k : Bool) (a b : E) : ev cl gb (.dct1 k a b) = .of (evDct (ev cl gb a).v (ev cl gb b).v k) := rfl
@[simp] theorem ev_frzd (a : E) : ev cl gb (.frzd a) = .of (evFrzd (ev cl gb a).v) := rfl
@[simp] theorem kCallPk_eq (cl : Cl) (f : Nat) (ds : List PyData) : kCallPk cl f ds env = if ds.all noDc then (cl f .non ds).bind fun r => (R.of (flatRV r.1)).bind fun d => .ok (.fz d, env) else .stuck := rfl
@[simp] theorem ev_rg (tp : Bool) (as : E) : ev cl gb (.rg tp as) = .of (evFz (ev cl gb as).a (kRg tp)) := rfl
@[simp] theorem kRg_eq (tp : Bool) (ds : List PyData) : kRg tp ds env = (rgD tp ds).bind fun v => .ok (v, env) := rfl
@[simp] theorem ev_rev (a : E) : ev cl gb (.rev a) = .of (ev1 (ev cl gb a).v revD) := rfl
@[simp] theorem ev_meth (m : Mt) (o as : E) : ev cl gb (.meth m o as) = .of (evMeth (ev cl gb o).v (ev cl gb as).a m) := rfl
@[simp] theorem revD_tuple (xs : List PyData) : revD (.tuple xs) = .ok (.fz (.tuple xs.reverse)) := rfl
@[simp] theorem revD_list (xs : List PyData) : revD (.list xs) = .ok (.fr xs.reverse) := rfl
@[simp] theorem retOf_fd (k : Bool) (ds : List (PyData × PyData)) : retOf (.fd k ds) = .ok (.fd k ds) := rfl
@[simp] theorem rv_fd (k : Bool) (ds : List (PyData × PyData)) : (RV.fd k ds).val = .fd k ds := rfl
@[simp] theorem putVar_fd (i : Nat) (k : Bool) (ds : List (PyData × PyData)) : putVar i (.fd k ds) env = if soft env[i]? then .ok (env.set i (.mdk k ds)) else .stuck := rfl
@[simp] theorem evMeth_eq (m : Mt) (f : Env → R (Val × Env)) (as : Env → R (List Val × Env)) : evMeth f as m env = (f env).bind fun p => (R.of (p.1.frz.look p.2)).bind fun x0 => if mtKd m x0 then (as p.2).bind fun q => (R.of (fzAll q.1)).bind fun ds => (R.of (p.1.frz.look q.2)).bind fun x => if sameK x0 x then (methD m x ds).bind fun v => .ok (v, q.2) else .stuck else .stuck := rfl
@[simp] theorem mtKd_ixL (xs : List PyData) : mtKd .index (.list xs) = true := rfl
@[simp] theorem mtKd_ixT (xs : List PyData) : mtKd .index (.tuple xs) = true := rfl
@[simp] theorem mtKd_cnt (xs : List PyData) : mtKd .count (.list xs) = true := rfl
@[simp] theorem mtKd_g1 (k : Bool) (xs : List (PyData × PyData)) : mtKd .get1 (mkD k xs) = true := rfl
@[simp] theorem mtKd_g2 (k : Bool) (xs : List (PyData × PyData)) : mtKd .get2 (mkD k xs) = true := rfl
@[simp] theorem sameK_L (xs ys : List PyData) : sameK (.list xs) (.list ys) = true := rfl
@[simp] theorem sameK_T (xs ys : List PyData) : sameK (.tuple xs) (.tuple ys) = true := rfl
@[simp] theorem sameK_D (k : Bool) (xs ys : List (PyData × PyData)) : sameK (mkD k xs) (mkD k ys) = true := by cases k <;> rfl
@[simp] theorem methD_g1_eq (k : Bool) (kvs : List (PyData × PyData)) (a : PyData) : methD .get1 (mkD k kvs) [a] = if askOk k a then .ok (.fz ((dlook kvs a).getD .none)) else .stuck := rfl
@[simp] theorem methD_g2_eq (k : Bool) (kvs : List (PyData × PyData)) (a x : PyData) : methD .get2 (mkD k kvs) [a, x] = if askOk k a then .ok (.fz ((dlook kvs a).getD x)) else .stuck := rfl
@[simp] theorem askOk_f (i : Int) : askOk false (.int i) = true := rfl
@[simp] theorem putOk_f (i : Int) : putOk false (.int i) = true := rfl
@[simp] theorem askOk_t (ds : List PyData) : askOk true (.tuple ds) = ds.all keyI := rfl
@[simp] theorem putOk_t (ds : List PyData) : putOk true (.tuple ds) = ds.all intD := rfl
@[simp] theorem evDct_eq (f g : Env → R (Val × Env)) (k : Bool) : evDct f g k env = (f env).bind fun p => match p.1.frz with
  | .fz a => (g p.2).bind fun q => (match q.1.frz with
    | .fz b => if putOk k a then .ok (.fd k [(a, b)], q.2) else .stuck
    | _ => .stuck)
  | _ => .stuck := rfl
@[simp] theorem evFrzd_eq (f : Env → R (Val × Env)) : evFrzd f env = (f env).bind fun p => match p.1 with
  | .fd k kvs => .ok (.fz (mkD k kvs), p.2)
  | _ => .stuck := rfl
@[simp] theorem itE_items (f : Env → R (Val × Env)) (a : Env → R (List Val × Env)) : itE .items f a env = (f env).bind fun p => match p.1.frz with
    | .fz d => (itemsD .items [d]).bind fun xs => .ok (xs, p.2)
    | _ => .stuck := rfl
@[simp] theorem items_items (kvs : List (PyData × PyData)) : itemsD .items [mkD false kvs] = .ok (kvs.map fun p => .tuple [p.1, p.2]) := rfl
@[simp] theorem evOwnD_eq (i : Nat) (f : Env → R (Val × Env)) : evOwnD i f env = match env[i]? with
  | some (.own _) => f env
  | some (.io _) => f env
  | some (.mdk _ _) => f env
  | _ => .stuck := rfl
@[simp] theorem ev_bi (b : Bi) (as : E) : ev cl gb (.bi b as) = .of (evLk (ev cl gb as).a (kBi b)) := rfl
@[simp] theorem ev_isi (a : E) (t : Ty) : ev cl gb (.isi a t) = .of (ev1 (ev cl gb a).v (isiD t)) := rfl
@[simp] theorem ev_comp (own : List Nat) (tg : Tg) (ik : Ik) (src cnd elt : E) : ev cl gb (.comp own tg ik src cnd elt) = .of (evComp (itE ik (ev cl gb src).v (ev cl gb src).a) (ev cl gb cnd).t (ev cl gb elt).v own tg) := rfl
@[simp] theorem ev_lenScr (i : Nat) : ev cl gb (.lenScr i) = .of (evLenScr i) := rfl
@[simp] theorem ev_idxScr (i : Nat) (a : E) : ev cl gb (.idxScr i a) = .of (evScr i (evIdxScr i (ev cl gb a).v)) := rfl
/-! ### their parts -/
@[simp] theorem frz_fz (d : PyData) : (Val.fz d).frz = .fz d := rfl
@[simp] theorem frz_fr (ds : List PyData) : (Val.fr ds).frz = .fz (.list ds) := rfl
@[simp] theorem frz_fd (k : Bool) (ds : List (PyData × PyData)) : (Val.fd k ds).frz = .fd k ds := rfl
@[simp] theorem frz_pk (i : Nat) : (Val.pk i).frz = .pk i := rfl
@[simp] theorem look_fz (d : PyData) : (Val.fz d).look env = some d := rfl
@[simp] theorem look_pk (i : Nat) : (Val.pk i).look env = (env[i]?).bind fun s => match s with
  | .own ds => some (.list ds)
  | .io ds => some (.list ds)
  | .mdk k kvs => some (mkD k kvs)
  | _ => none := by
  cases h : env[i]? with
  | none => simp only [Val.look, h]; rfl
  | some s => cases s <;> (simp only [Val.look, h]; rfl)
/-- a bool's two ways -/
def asB (v : Val) (k : Bool → R α) : R α := match v with
  | .fz (.bool b) => k b
  | _ => .stuck
@[simp] theorem asB_bool (b : Bool) (k : Bool → R α) : asB (.fz (.bool b)) k = k b := rfl
@[simp] theorem evAndV_eq (f g : Env → R (Val × Env)) : evAndV f g env = (f env).bind fun p => asB p.1 fun a => if a then (g p.2).bind fun q => .ok (q.1.frz, q.2) else .ok (.fz (.bool false), p.2) := by
  unfold evAndV
  congr 1
  funext p
  obtain ⟨v, e⟩ := p
  cases v with
  | fz d => cases d <;> first | rfl | (rename_i b; cases b <;> rfl)
  | _ => rfl
@[simp] theorem evOrV_eq (f g : Env → R (Val × Env)) : evOrV f g env = (f env).bind fun p => asB p.1 fun a => if a then .ok (.fz (.bool true), p.2) else (g p.2).bind fun q => .ok (q.1.frz, q.2) := by
  unfold evOrV
  congr 1
  funext p
  obtain ⟨v, e⟩ := p
  cases v with
  | fz d => cases d <;> first | rfl | (rename_i b; cases b <;> rfl)
  | _ => rfl
@[simp] theorem tAndE_eq (f g : Env → R (Bool × Env)) : tAndE f g env = (f env).bind fun p => if p.1 then g p.2 else .ok (false, p.2) := by
  unfold tAndE
  congr 1
  funext p
  obtain ⟨b, e⟩ := p
  cases b <;> rfl
@[simp] theorem tOrE_eq (f g : Env → R (Bool × Env)) : tOrE f g env = (f env).bind fun p => if p.1 then .ok (true, p.2) else g p.2 := by
  unfold tOrE
  congr 1
  funext p
  obtain ⟨b, e⟩ := p
  cases b <;> rfl
@[simp] theorem evIte_eq (c : Env → R (Bool × Env)) (f g : Env → R (Val × Env)) : evIte c f g env = (c env).bind fun p => if p.1 then f p.2 else g p.2 := by
  unfold evIte
  congr 1
  funext p
  obtain ⟨b, e⟩ := p
  cases b <;> rfl
@[simp] theorem evChn_eq (f g h : Env → R (Val × Env)) (o1 o2 : COp) : evChn f g h o1 o2 env =
  (f env).bind fun p => (g p.2).bind fun q => (R.of (p.1.frz.look q.2)).bind fun x => (R.of (q.1.frz.look q.2)).bind fun y => (cmpD o1 x y).bind fun v => if v then (h q.2).bind fun r => (R.of (q.1.frz.look r.2)).bind fun y => (R.of (r.1.frz.look r.2)).bind fun z => (cmpD o2 y z).bind fun w => .ok (.fz (.bool w), r.2) else .ok (.fz (.bool false), q.2) := by
  refine congrArg (R.bind _) (funext fun p => congrArg (R.bind _) (funext fun q => congrArg (R.bind _) (funext fun x => congrArg (R.bind _) (funext fun y => congrArg (R.bind _) (funext fun v => ?_)))))
  cases v <;> rfl
@[simp] theorem evOrT_eq (f g : Env → R (Val × Env)) : evOrT f g env = (f env).bind fun p => match p.1.frz with
  | .fz d => (truthD d).bind fun t => if t then .ok (.fz d, p.2) else (g p.2).bind fun q => .ok (q.1.frz, q.2)
  | _ => .stuck := by
  unfold evOrT
  congr 1
  funext p
  obtain ⟨v, e⟩ := p
  cases hv : v.frz with
  | fz d =>
    simp only
    congr 1
    funext t
    cases t <;> rfl
  | _ => rfl
/-! ### statements -/
@[simp] theorem exS_pass : exS cl gb .pass env = .ok (.next, env) := rfl
theorem exS_seq (a b : S) : exS cl gb (.seq a b) env = (exS cl gb a env).bind fun p => match p.1 with
    | .next => exS cl gb b p.2
    | .ret r => .ok (.ret r, p.2) := rfl
/-- goes on, or is back -/
def onF (p : Fl × Env) (k : Env → R (Fl × Env)) : R (Fl × Env) := match p.1 with
  | .next => k p.2
  | .ret r => .ok (.ret r, p.2)
@[simp] theorem onF_next (e : Env) (k : Env → R (Fl × Env)) : onF (.next, e) k = k e := rfl
@[simp] theorem onF_ret (r : RV) (e : Env) (k : Env → R (Fl × Env)) : onF (.ret r, e) k = .ok (.ret r, e) := rfl
@[simp] theorem exS_seq' (a b : S) : exS cl gb (.seq a b) env = (exS cl gb a env).bind fun p => onF p (exS cl gb b) := rfl
@[simp] theorem exS_iff (c : E) (a b : S) : exS cl gb (.iff c a b) env = ((ev cl gb c).t env).bind fun p => if p.1 then exS cl gb a p.2 else exS cl gb b p.2 := by
  show ((ev cl gb c).t env).bind _ = _
  congr 1
  funext p
  obtain ⟨b, e⟩ := p
  cases b <;> rfl

@[simp] theorem exS_asg (i : Nat) (e : E) : exS cl gb (.asg i e) env = ((ev cl gb e).v env).bind fun p => (putVar i p.1 p.2).bind fun e1 => .ok (.next, e1) := rfl
@[simp] theorem exS_asg2 (i j : Nat) (a b : E) : exS cl gb (.asg2 i j a b) env = ((ev cl gb a).v env).bind fun p => ((ev cl gb b).v p.2).bind fun q => if i ≠ j then (putVar i p.1 q.2).bind fun e1 => (putVar j q.1 e1).bind fun e2 => .ok (.next, e2) else .stuck := rfl
@[simp] theorem exS_asg3 (i j l : Nat) (a b c : E) : exS cl gb (.asg3 i j l a b c) env = ((ev cl gb a).v env).bind fun p => ((ev cl gb b).v p.2).bind fun q => ((ev cl gb c).v q.2).bind fun r => if i ≠ j ∧ i ≠ l ∧ j ≠ l then (putVar i p.1 r.2).bind fun e1 => (putVar j q.1 e1).bind fun e2 => (putVar l r.1 e2).bind fun e3 => .ok (.next, e3) else .stuck := rfl
@[simp] theorem exS_ret (e : E) : exS cl gb (.ret e) env = ((ev cl gb e).v env).bind fun p => (retOf p.1).bind fun r => .ok (.ret r, p.2) := rfl
@[simp] theorem exS_raise (c : Nat) : exS cl gb (.raise c) env = .exc c := rfl
@[simp] theorem exS_drop (e : E) : exS cl gb (.drop e) env = ((ev cl gb e).v env).bind fun p => .ok (.next, p.2) := rfl
@[simp] theorem exS_app (i : Nat) (e : E) : exS cl gb (.app i e) env = (evOwn i (ev cl gb e).v env).bind fun p => (appD i p.1 p.2).bind fun e1 => .ok (.next, e1) := rfl
@[simp] theorem exS_setIx (i : Nat) (ix e : E) : exS cl gb (.setIx i ix e) env = ((ev cl gb e).v env).bind fun p => (evOwnD i (ev cl gb ix).v p.2).bind fun q => (setIxD i q.1 p.1 q.2).bind fun e1 => .ok (.next, e1) := rfl
@[simp] theorem exS_aug (i : Nat) (op : BOp) (e : E) : exS cl gb (.aug i op e) env = (evBd i (ev cl gb e).v env).bind fun p => (augD i op p.1 p.2).bind fun e1 => .ok (.next, e1) := rfl
@[simp] theorem exS_while (c : E) (b : S) : exS cl gb (.while_ c b) env = whileL (ev cl gb c).t (exS cl gb b) wcap env := rfl
@[simp] theorem exS_for (tg : Tg) (ik : Ik) (src : E) (b : S) : exS cl gb (.for_ tg ik src b) env = (itE ik (ev cl gb src).v (ev cl gb src).a env).bind fun p => if p.1.length ≤ cap then forL (exS cl gb b) tg p.1 p.2 else .stuck := rfl
@[simp] theorem retOf_fz (d : PyData) : retOf (.fz d) = .ok (.fz d) := rfl
@[simp] theorem retOf_fr (d : List PyData) : retOf (.fr d) = .ok (.fr d) := rfl
@[simp] theorem fzAll_nil : fzAll [] = some [] := rfl
@[simp] theorem fzAll_cons (d : PyData) (vs : List Val) : fzAll (.fz d :: vs) = (fzAll vs).map (d :: ·) := rfl
@[simp] theorem lookAll_nil : lookAll env [] = some [] := rfl
@[simp] theorem soft_un : soft (some .un) = true := rfl
@[simp] theorem soft_val (d : PyData) : soft (some (.val d)) = true := rfl
@[simp] theorem soft_own (d : List PyData) : soft (some (.own d)) = true := rfl
@[simp] theorem calm_un : calmS (some .un) = true := rfl
@[simp] theorem calm_val (d : PyData) : calmS (some (.val d)) = true := rfl
/-! ### loops -/
theorem comp_map {α : Type} {tst : Env → R (Bool × Env)} {elt : Env → R (Val × Env)} {tg : Tg} {own : List Nat} (enc : α → PyData) (t : α → Bool) (r : α → PyData) : ∀ (xs : List α), (∀ x ∈ xs, ∃ e1, bindTg tg (enc x) (wipeE env own) = some e1 ∧ tst e1 = .ok (t x, e1) ∧
      (t x = true → ∃ v, elt e1 = .ok (v, e1) ∧ v.frz = .fz (r x)) ∧ mergeE env e1 own = env) → compL tst elt tg own (xs.map enc) env = .ok ((xs.filter t).map r, env)
  | [], _ => rfl
  | x :: xs, h => by
    obtain ⟨e1, h1, h2, h3, h4⟩ := h x (List.mem_cons_self ..)
    have ih := comp_map enc t r xs fun y hy => h y (List.mem_cons_of_mem _ hy)
    rw [List.map_cons]
    unfold compL
    rw [h1, R.of_some, R.bind_ok, h2, R.bind_ok]
    cases ht : t x with
    | false =>
      simp only [h4, ih, List.filter_cons, ht]
      rfl
    | true =>
      obtain ⟨v, h5, h6⟩ := h3 ht
      simp only [h5, R.bind_ok, h6, h4, ih, List.filter_cons, ht]
      rfl
/-- a for whose body only goes on: what holds ahead of each turn -/
theorem for_inv {α : Type} {body : Env → R (Fl × Env)} {tg : Tg} (enc : α → PyData) (I : List α → Env → Prop) : ∀ (post pre : List α) (env : Env), I pre env → (∀ p x q e, pre ++ post = p ++ x :: q → I p e → ∃ e1 e2, bindTg tg (enc x) e = some e1 ∧ body e1 = .ok (.next, e2) ∧ I (p ++ [x]) e2) →
    ∃ e', forL body tg (post.map enc) env = .ok (.next, e') ∧ I (pre ++ post) e'
  | [], pre, env, h0, _ => ⟨env, rfl, by simpa using h0⟩
  | x :: post, pre, env, h0, h => by
    obtain ⟨e1, e2, h1, h2, h3⟩ := h pre x post env rfl h0
    obtain ⟨e', h4, h5⟩ := for_inv enc I post (pre ++ [x]) e2 h3 fun p y q e hp => h p y q e (by simpa using hp)
    refine ⟨e', ?_, by simpa using h5⟩
    rw [List.map_cons]
    unfold forL
    rw [h1, R.of_some, R.bind_ok, h2, R.bind_ok]
    exact h4
/-- a for that may be back -/
theorem for_ret {α : Type} {body : Env → R (Fl × Env)} {tg : Tg} (enc : α → PyData) (I : List α → Env → Prop) (J : List α → α → RV → Env → Prop) : ∀ (post pre : List α) (env : Env), I pre env →
    (∀ p x q e, pre ++ post = p ++ x :: q → I p e → ∃ e1, bindTg tg (enc x) e = some e1 ∧ ((∃ e2, body e1 = .ok (.next, e2) ∧ I (p ++ [x]) e2) ∨ ∃ r e2, body e1 = .ok (.ret r, e2) ∧ J p x r e2)) →
    (∃ e', forL body tg (post.map enc) env = .ok (.next, e') ∧ I (pre ++ post) e') ∨ ∃ p x q r e', pre ++ post = p ++ x :: q ∧ forL body tg (post.map enc) env = .ok (.ret r, e') ∧ J p x r e'
  | [], pre, env, h0, _ => .inl ⟨env, rfl, by simpa using h0⟩
  | x :: post, pre, env, h0, h => by
    obtain ⟨e1, h1, h2⟩ := h pre x post env rfl h0
    rcases h2 with ⟨e2, h2, h3⟩ | ⟨r, e2, h2, h3⟩
    · rcases for_ret enc I J post (pre ++ [x]) e2 h3 fun p y q e hp => h p y q e (by simpa using hp) with ⟨e', h4, h5⟩ | ⟨p, y, q, r, e', h4, h5, h6⟩
      · refine .inl ⟨e', ?_, by simpa using h5⟩
        rw [List.map_cons]
        unfold forL
        rw [h1, R.of_some, R.bind_ok, h2, R.bind_ok]
        exact h4
      · refine .inr ⟨p, y, q, r, e', by simpa using h4, ?_, h6⟩
        rw [List.map_cons]
        unfold forL
        rw [h1, R.of_some, R.bind_ok, h2, R.bind_ok]
        exact h5
    · refine .inr ⟨pre, x, post, r, e2, rfl, ?_, h3⟩
      rw [List.map_cons]
      unfold forL
      rw [h1, R.of_some, R.bind_ok, h2]
      rfl
/-! ### data -/
abbrev encN (k : Nat) : PyData := .int (k : Int)
abbrev tN (l : List Nat) : PyData := .tuple (l.map encN)
abbrev lN (l : List Nat) : PyData := .list (l.map encN)
theorem rangeD_nat (i j : Nat) : rangeD (i : Int) (j : Int) = (List.range (j - i)).map fun k => encN (i + k) := by
  unfold rangeD
  have : ((j : Int) - (i : Int)).toNat = j - i := by omega
  rw [this]
  simp [encN]
theorem rangeD_zero (j : Nat) : rangeD 0 (j : Int) = (List.range j).map encN := by
  have := rangeD_nat 0 j
  simpa using this
theorem atD_nat {α : Type} (xs : List α) (i : Nat) : atD xs (i : Int) = xs[i]? := by
  unfold atD ixOf
  rw [if_pos (by omega)]
  by_cases h : i < xs.length
  · rw [if_pos (by omega)]
    simp
  · rw [if_neg (by omega)]
    simp
    omega
theorem atD_zero {α : Type} (xs : List α) : atD xs 0 = xs[0]? := atD_nat xs 0
theorem atD_succ {α : Type} (xs : List α) (i : Nat) : atD xs ((i : Int) + 1) = xs[i + 1]? := atD_nat xs (i + 1)
theorem atD_last {α : Type} (xs : List α) : atD xs (-1) = xs.getLast? := by
  unfold atD ixOf
  rw [if_neg (by omega)]
  cases xs with
  | nil => simp
  | cons x xs =>
    rw [if_pos (by simp; omega)]
    rw [List.getLast?_eq_getElem?]
    simp only [Option.bind_some]
    congr 1
    simp
    omega
theorem getq {α : Type} {xs : List α} {i : Nat} (h : i < xs.length) (d : α) : xs[i]? = some (xs.getD i d) := by
  rw [List.getElem?_eq_getElem h, List.getD_eq_getElem?_getD, List.getElem?_eq_getElem h]
  rfl
theorem eqOkAll_int : ∀ (n : Nat) (l : List Int), eqOkAll n (l.map .int) = true
  | _, [] => rfl
  | n, x :: l => by
    rw [List.map_cons]
    unfold eqOkAll
    rw [eqOkAll_int n l]
    cases n <;> rfl
theorem eqOk_int (n : Nat) (i : Int) : eqOk n (.int i) = true := by cases n <;> rfl
theorem eqOk_none (n : Nat) : eqOk n .none = true := by cases n <;> rfl
theorem eqOk_bool (n : Nat) (b : Bool) : eqOk n (.bool b) = true := by cases n <;> rfl
@[simp] theorem eqD_int (a b : Int) : eqD (.int a) (.int b) = (a == b) := by simp [eqD]
@[simp] theorem cmp_eq_int (a b : Int) : cmpD .eq (.int a) (.int b) = .ok (a == b) := by
  show (if eqOk 40 (.int a) && eqOk 40 (.int b) then R.ok (eqD (.int a) (.int b)) else .stuck) = _
  rw [eqOk_int, eqOk_int, eqD_int]
  rfl
@[simp] theorem cmp_ne_int (a b : Int) : cmpD .ne (.int a) (.int b) = .ok (!(a == b)) := by
  show (if eqOk 40 (.int a) && eqOk 40 (.int b) then R.ok (!eqD (.int a) (.int b)) else .stuck) = _
  rw [eqOk_int, eqOk_int, eqD_int]
  rfl
@[simp] theorem cmp_lt_int (a b : Int) : cmpD .lt (.int a) (.int b) = .ok (decide (a < b)) := rfl
@[simp] theorem cmp_le_int (a b : Int) : cmpD .le (.int a) (.int b) = .ok (decide (a ≤ b)) := rfl
@[simp] theorem cmp_gt_int (a b : Int) : cmpD .gt (.int a) (.int b) = .ok (decide (b < a)) := rfl
@[simp] theorem cmp_ge_int (a b : Int) : cmpD .ge (.int a) (.int b) = .ok (decide (b ≤ a)) := rfl
@[simp] theorem cmp_is_none (a : PyData) : cmpD .is_ a .none = .ok (isNone a) := by cases a <;> rfl
@[simp] theorem cmp_isnot_none (a : PyData) : cmpD .isnot a .none = .ok (!isNone a) := by cases a <;> rfl
@[simp] theorem arith_add_int (a b : Int) : arith .add (.int a) (.int b) = .ok (.fz (.int (a + b))) := rfl
@[simp] theorem arith_sub_int (a b : Int) : arith .sub (.int a) (.int b) = .ok (.fz (.int (a - b))) := rfl
@[simp] theorem truth_bool (b : Bool) : truthD (.bool b) = .ok b := rfl
@[simp] theorem truth_int (i : Int) : truthD (.int i) = .ok (i != 0) := rfl
@[simp] theorem truth_none : truthD .none = .ok false := rfl
@[simp] theorem truth_list (xs : List PyData) : truthD (.list xs) = .ok (!xs.isEmpty) := rfl

/-! ### the parts, told where they are applied -/
variable {f g h : Env → R (Val × Env)} {as : Env → R (List Val × Env)}
@[simp] theorem readVar_eq (i : Nat) : readVar i env = match env[i]? with
  | some (.val d) => .ok (.fz d, env)
  | some (.own ds) => .ok (.fz (.list ds), env.set i (.val (.list ds)))
  | some (.mdk k kvs) => .ok (.fz (mkD k kvs), env.set i (.val (mkD k kvs)))
  | _ => .stuck := by
  unfold readVar
  cases env[i]? with
  | none => rfl
  | some s => cases s <;> rfl
@[simp] theorem readPeek_eq (i : Nat) : readPeek i env = match env[i]? with
  | some (.val d) => .ok (.fz d, env)
  | some (.own _) => .ok (.pk i, env)
  | some (.io _) => .ok (.pk i, env)
  | some (.mdk _ _) => .ok (.pk i, env)
  | _ => .stuck := rfl
@[simp] theorem ev1_eq (op : PyData → R Val) : ev1 f op env = (f env).bind fun p => (R.of (p.1.frz.look p.2)).bind fun x => (op x).bind fun v => .ok (v, p.2) := rfl
@[simp] theorem ev2_eq (op : PyData → PyData → R Val) : ev2 f g op env = (f env).bind fun p => (g p.2).bind fun q => (R.of (p.1.frz.look q.2)).bind fun x => (R.of (q.1.frz.look q.2)).bind fun y => (op x y).bind fun v => .ok (v, q.2) := rfl
@[simp] theorem cmpV_eq (op : COp) (x y : PyData) : cmpV op x y = (cmpD op x y).bind fun b => .ok (.fz (.bool b)) := rfl
@[simp] theorem tstOf_eq : tstOf f env = (f env).bind fun p => (R.of (p.1.frz.look p.2)).bind fun x => (truthD x).bind fun t => .ok (t, p.2) := rfl
@[simp] theorem endOf_eq : endOf f env = (f env).bind fun p => match p.1 with
  | .fz (.int i) => .ok (some i, p.2)
  | _ => .stuck := rfl
@[simp] theorem notD_eq (d : PyData) : notD d = (truthD d).bind fun b => .ok (.fz (.bool (!b))) := rfl
@[simp] theorem tNotE_eq (t : Env → R (Bool × Env)) : tNotE t env = (t env).bind fun p => .ok (!p.1, p.2) := rfl
@[simp] theorem isiD_none (t : Ty) : isiD t .none = .ok (.fz (.bool (isTy t .none))) := rfl
@[simp] theorem isiD_bool (t : Ty) (b : Bool) : isiD t (.bool b) = .ok (.fz (.bool (isTy t (.bool b)))) := rfl
@[simp] theorem isiD_int (t : Ty) (b : Int) : isiD t (.int b) = .ok (.fz (.bool (isTy t (.int b)))) := rfl
@[simp] theorem isiD_str (t : Ty) (b : Str) : isiD t (.str b) = .ok (.fz (.bool (isTy t (.str b)))) := rfl
@[simp] theorem isiD_list (t : Ty) (b : List PyData) : isiD t (.list b) = .ok (.fz (.bool (isTy t (.list b)))) := rfl
@[simp] theorem isiD_tuple (t : Ty) (b : List PyData) : isiD t (.tuple b) = .ok (.fz (.bool (isTy t (.tuple b)))) := rfl
@[simp] theorem isiD_enc (t : Ty) (b : Bool) : isiD t (if b then .int 1 else .int 0) = .ok (.fz (.bool (isTy t (.int 0)))) := by cases b <;> cases t <;> rfl
theorem isiD_nd (t : Ty) (x : PyData) (h : ∀ kvs, x ≠ .dict kvs) : isiD t x = .ok (.fz (.bool (isTy t x))) := by
  cases x <;> first | rfl | exact absurd rfl (h _)
@[simp] theorem evFz_eq (k : List PyData → Env → R (Val × Env)) : evFz as k env = (as env).bind fun p => (R.of (fzAll p.1)).bind fun ds => k ds p.2 := rfl
@[simp] theorem evLk_eq (k : List PyData → Env → R (Val × Env)) : evLk as k env = (as env).bind fun p => (R.of (lookAll p.2 p.1)).bind fun ds => k ds p.2 := rfl
@[simp] theorem lookAll_cons (v : Val) (vs : List Val) : lookAll env (v :: vs) = (v.look env).bind fun d => (lookAll env vs).map (d :: ·) := by
  show (match v.look env, lookAll env vs with
    | some d, some ds => some (d :: ds)
    | _, _ => none) = _
  cases v.look env with
  | none => rfl
  | some d => cases lookAll env vs <;> rfl
@[simp] theorem kTup_eq (ds : List PyData) : kTup ds env = if ds.length ≤ cap then .ok (.fz (.tuple ds), env) else .stuck := rfl
@[simp] theorem kLst_eq (ds : List PyData) : kLst ds env = if ds.length ≤ cap then .ok (.fr ds, env) else .stuck := rfl
@[simp] theorem kCall_eq (cl : Cl) (k : Nat) (ds : List PyData) : kCall cl k ds env = (cl k .non ds).bind fun r => .ok (r.1.val, env) := rfl
@[simp] theorem rv_fz (d : PyData) : (RV.fz d).val = .fz d := rfl
@[simp] theorem rv_fr (d : List PyData) : (RV.fr d).val = .fr d := rfl
@[simp] theorem kBi_eq (b : Bi) (ds : List PyData) : kBi b ds env = (biD b ds).bind fun v => .ok (v, env) := rfl
@[simp] theorem evCons_eq : evCons f as env = (f env).bind fun p => (as p.2).bind fun q => .ok (p.1.frz :: q.1, q.2) := rfl
@[simp] theorem evSlc_eq (lo hi : Env → R (Option Int × Env)) : evSlc f lo hi env = (f env).bind fun p => (lo p.2).bind fun q => (hi q.2).bind fun r => (R.of (p.1.frz.look r.2)).bind fun x => (slcD x q.1 r.1).bind fun v => .ok (v, r.2) := rfl
@[simp] theorem itE_seq (a : Env → R (List Val × Env)) : itE .seq f a env = (f env).bind fun p => match p.1.frz with
    | .fz d => (itemsD .seq [d]).bind fun xs => .ok (xs, p.2)
    | _ => .stuck := rfl
@[simp] theorem itE_rng : itE .rng f as env = (as env).bind fun p => (R.of (fzAll p.1)).bind fun ds => (itemsD .rng ds).bind fun xs => .ok (xs, p.2) := rfl
@[simp] theorem itE_enum : itE .enum f as env = (as env).bind fun p => (R.of (fzAll p.1)).bind fun ds => (itemsD .enum ds).bind fun xs => .ok (xs, p.2) := rfl
@[simp] theorem itE_zip : itE .zip f as env = (as env).bind fun p => (R.of (fzAll p.1)).bind fun ds => (itemsD .zip ds).bind fun xs => .ok (xs, p.2) := rfl
@[simp] theorem itE_rev : itE .rev f as env = (as env).bind fun p => (R.of (fzAll p.1)).bind fun ds => (itemsD .rev ds).bind fun xs => .ok (xs, p.2) := rfl
@[simp] theorem evComp_eq (its : Env → R (List PyData × Env)) (tst : Env → R (Bool × Env)) (elt : Env → R (Val × Env)) (own : List Nat) (tg : Tg) : evComp its tst elt own tg env = (its env).bind fun p =>
  if p.1.length ≤ cap ∧ (own.all fun i => calmS p.2[i]?) = true then (compL tst elt tg own p.1 p.2).noexc.bind fun r => .ok (.fr r.1, r.2) else .stuck := rfl
@[simp] theorem putVar_fz (i : Nat) (d : PyData) : putVar i (.fz d) env = if soft env[i]? then .ok (env.set i (.val d)) else .stuck := rfl
@[simp] theorem putVar_fr (i : Nat) (d : List PyData) : putVar i (.fr d) env = if soft env[i]? then .ok (env.set i (.own d)) else .stuck := rfl
@[simp] theorem evOwn_eq (i : Nat) : evOwn i f env = match env[i]? with
  | some (.own _) => f env
  | some (.io _) => f env
  | _ => .stuck := rfl
@[simp] theorem appD_eq (i : Nat) (v : Val) : appD i v env = match env[i]?, v.frz with
  | some (.own xs), .fz d => if xs.length < cap then .ok (env.set i (.own (xs ++ [d]))) else .stuck
  | _, _ => .stuck := rfl
@[simp] theorem exS_retv (i : Nat) : exS cl gb (.retv i) env = match env[i]? with
    | some (.own ds) => .ok (.ret (.fr ds), env.set i .un)
    | some (.mdk k kvs) => .ok (.ret (.fd k kvs), env.set i .un)
    | some (.val d) => .ok (.ret (.fz d), env)
    | _ => .stuck := rfl
@[simp] theorem wipeE_nil : wipeE env [] = env := rfl
@[simp] theorem wipeE_cons (v : Nat) (vs : List Nat) : wipeE env (v :: vs) = (wipeE env vs).set v .un := rfl
@[simp] theorem bindTg_name (i : Nat) (d : PyData) : bindTg (.name i) d env = if soft env[i]? then some (env.set i (.val d)) else none := rfl
@[simp] theorem bindTg_tup (js : List Nat) (ds : List PyData) : bindTg (.tup js) (.tuple ds) env = if ds.length = js.length then putVals env js ds else none := rfl
@[simp] theorem putVals_nil : putVals env [] [] = some env := rfl
@[simp] theorem putVals_cons (j : Nat) (js : List Nat) (d : PyData) (ds : List PyData) : putVals env (j :: js) (d :: ds) = if soft env[j]? then putVals (env.set j (.val d)) js ds else none := rfl
@[simp] theorem ioOf_plain : ioOf .plain env = some [] := rfl
@[simp] theorem ioOf_scr : ioOf .scr env = some [] := rfl
theorem runF_plain (b : Fn) (ds : List PyData) (hk : b.pk = .plain) (h1 : ds.length = b.np) (h2 : b.np ≤ b.slots) : runF cl gb b .non ds = (exS cl gb b.body (ds.map Slot.val ++ List.replicate (b.slots - b.np) .un)).bind fun p => match p.1 with
    | .next => .ok (.fz .none, [])
    | .ret r => .ok (r, []) := by
  unfold runF startE
  rw [hk]
  simp only [if_pos (And.intro h1 h2), R.of_some, R.bind_ok, ioOf_plain]
  all_goals (congr 1)
/-- data of Lean -/
def gN (o : List Nat) (i : Nat) : Nat := o.getD i 0
theorem gN_get {o : List Nat} {i : Nat} (h : i < o.length) : o[i]? = some (gN o i) := getq h 0
def encB (b : Bool) : PyData := .int (if b then 1 else 0)
def sB (s : List Bool) (i : Nat) : Bool := s.getD i false
theorem sB_get {s : List Bool} {i : Nat} (h : i < s.length) : s[i]? = some (sB s i) := getq h false
abbrev tS (s : List Bool) : PyData := .tuple (s.map encB)
abbrev lS (s : List Bool) : PyData := .list (s.map encB)
def encO : Option Nat → PyData
  | none => .none
  | some k => encN k
@[simp] theorem len_range_map {α : Type} (n : Nat) (q : Nat → α) : ((List.range n).map q).length = n := by simp
@[simp] theorem bi_len_list (xs : List PyData) : biD .len [.list xs] = .ok (.fz (.int xs.length)) := rfl
@[simp] theorem bi_len_tuple (xs : List PyData) : biD .len [.tuple xs] = .ok (.fz (.int xs.length)) := rfl
theorem allB_map {α : Type} (q : α → Bool) : ∀ xs : List α, allB (xs.map fun x => .bool (q x)) = some (xs.map q)
  | [] => rfl
  | x :: xs => by
    rw [List.map_cons, List.map_cons]
    unfold allB
    rw [allB_map q xs]
    rfl
theorem bi_all_map {α : Type} (q : α → Bool) (xs : List α) : biD .all [.list (xs.map fun x => .bool (q x))] = .ok (.fz (.bool (xs.all q))) := by
  show (R.of (allB _)).bind _ = _
  rw [allB_map]
  simp [List.all_map]
theorem inD_nat (k : Nat) (xs : List Nat) : inD (encN k) (xs.map encN) = decide (k ∈ xs) := by
  unfold inD
  rw [List.any_map, Bool.eq_iff_iff]
  simp only [List.any_eq_true, decide_eq_true_eq, Function.comp, encN, eqD_int, beq_iff_eq]
  constructor
  · rintro ⟨x, h1, h2⟩
    have : x = k := by omega
    exact this ▸ h1
  · exact fun h => ⟨k, h, rfl⟩
theorem flat_nat (xs : List Nat) : (xs.map encN).all flatD = true := by simp [flatD]
theorem in_list_nat (k : Nat) (xs : List Nat) : cmpD .in_ (encN k) (.list (xs.map encN)) = .ok (decide (k ∈ xs)) := by
  show (if flatD (encN k) && (xs.map encN).all flatD then R.ok (inD (encN k) (xs.map encN)) else .stuck) = _
  rw [flat_nat, inD_nat]
  rfl
theorem in_tuple_nat (k : Nat) (xs : List Nat) : cmpD .in_ (encN k) (.tuple (xs.map encN)) = .ok (decide (k ∈ xs)) := by
  show (if flatD (encN k) && (xs.map encN).all flatD then R.ok (inD (encN k) (xs.map encN)) else .stuck) = _
  rw [flat_nat, inD_nat]
  rfl
theorem notin_list_nat (k : Nat) (xs : List Nat) : cmpD .notin (encN k) (.list (xs.map encN)) = .ok (!decide (k ∈ xs)) := by
  show (if flatD (encN k) && (xs.map encN).all flatD then R.ok (!inD (encN k) (xs.map encN)) else .stuck) = _
  rw [flat_nat, inD_nat]
  rfl
theorem notin_tuple_nat (k : Nat) (xs : List Nat) : cmpD .notin (encN k) (.tuple (xs.map encN)) = .ok (!decide (k ∈ xs)) := by
  show (if flatD (encN k) && (xs.map encN).all flatD then R.ok (!inD (encN k) (xs.map encN)) else .stuck) = _
  rw [flat_nat, inD_nat]
  rfl
theorem idx_list (xs : List PyData) (i : Int) (d : PyData) (h : atD xs i = some d) : idxD (.list xs) (.int i) = .ok (.fz d) := by
  show (match atD xs i with | some v => R.ok (Val.fz v) | none => .stuck) = _
  rw [h]
theorem idx_tuple (xs : List PyData) (i : Int) (d : PyData) (h : atD xs i = some d) : idxD (.tuple xs) (.int i) = .ok (.fz d) := by
  show (match atD xs i with | some v => R.ok (Val.fz v) | none => .stuck) = _
  rw [h]
theorem idx_tN {o : List Nat} {i : Nat} (h : i < o.length) : idxD (tN o) (.int (i : Int)) = .ok (.fz (encN (gN o i))) := idx_tuple _ _ _ (by rw [atD_nat, List.getElem?_map, gN_get h]; rfl)
theorem idx_tN1 {o : List Nat} {i : Nat} (h : i + 1 < o.length) : idxD (tN o) (.int ((i : Int) + 1)) = .ok (.fz (encN (gN o (i + 1)))) := idx_tuple _ _ _ (by rw [atD_succ, List.getElem?_map, gN_get h]; rfl)
theorem idx_tN0 {o : List Nat} (h : 0 < o.length) : idxD (tN o) (.int 0) = .ok (.fz (encN (gN o 0))) := idx_tN h
theorem idx_lN {o : List Nat} {i : Nat} (h : i < o.length) : idxD (lN o) (.int (i : Int)) = .ok (.fz (encN (gN o i))) := idx_list _ _ _ (by rw [atD_nat, List.getElem?_map, gN_get h]; rfl)
theorem idx_tS {s : List Bool} {i : Nat} (h : i < s.length) : idxD (tS s) (.int (i : Int)) = .ok (.fz (encB (sB s i))) := idx_tuple _ _ _ (by rw [atD_nat, List.getElem?_map, sB_get h]; rfl)
theorem idx_lS {s : List Bool} {i : Nat} (h : i < s.length) : idxD (lS s) (.int (i : Int)) = .ok (.fz (encB (sB s i))) := idx_list _ _ _ (by rw [atD_nat, List.getElem?_map, sB_get h]; rfl)

@[simp] theorem items_seq_list (xs : List PyData) : itemsD .seq [.list xs] = .ok xs := rfl
@[simp] theorem items_seq_tuple (xs : List PyData) : itemsD .seq [.tuple xs] = .ok xs := rfl
@[simp] theorem items_enum_list (xs : List PyData) : itemsD .enum [.list xs] = .ok (xs.zipIdx.map fun p => .tuple [.int p.2, p.1]) := rfl
@[simp] theorem items_enum_tuple (xs : List PyData) : itemsD .enum [.tuple xs] = .ok (xs.zipIdx.map fun p => .tuple [.int p.2, p.1]) := rfl
@[simp] theorem items_zip_list (xs ys : List PyData) : itemsD .zip [.list xs, .list ys] = .ok ((xs.zip ys).map fun p => .tuple [p.1, p.2]) := rfl
@[simp] theorem items_zip_tuple (xs ys : List PyData) : itemsD .zip [.tuple xs, .tuple ys] = .ok ((xs.zip ys).map fun p => .tuple [p.1, p.2]) := rfl
@[simp] theorem items_rev (xs : List PyData) : itemsD .rev [.list xs] = .ok xs.reverse := rfl
theorem itm_rng {j : Nat} (h : j ≤ 1000000) : itemsD .rng [.int (j : Int)] = .ok ((List.range j).map encN) := by
  show (if -1000000 ≤ (j : Int) ∧ (j : Int) ≤ 1000000 then R.ok (rangeD 0 j) else .stuck) = _
  rw [if_pos (by omega), rangeD_zero]
theorem itm_rng2 {i j : Nat} (h : i ≤ 1000000) (h2 : j ≤ 1000000) : itemsD .rng [.int (i : Int), .int (j : Int)] = .ok ((List.range (j - i)).map fun k => encN (i + k)) := by
  show (if -1000000 ≤ (i : Int) ∧ (i : Int) ≤ 1000000 ∧ -1000000 ≤ (j : Int) ∧ (j : Int) ≤ 1000000 then R.ok (rangeD i j) else .stuck) = _
  rw [if_pos (by omega), rangeD_nat]
theorem rgD_t {j : Nat} (h : j ≤ 1000000) : rgD true [.int (j : Int)] = .ok (.fz (.tuple ((List.range j).map encN))) := by
  show (if -1000000 ≤ (j : Int) ∧ (j : Int) ≤ 1000000 then R.ok (Val.fz (.tuple (rangeD 0 j))) else .stuck) = _
  rw [if_pos (by omega), rangeD_zero]
theorem rgD_l {j : Nat} (h : j ≤ 1000000) : rgD false [.int (j : Int)] = .ok (.fr ((List.range j).map encN)) := by
  show (if -1000000 ≤ (j : Int) ∧ (j : Int) ≤ 1000000 then R.ok (Val.fr (rangeD 0 j)) else .stuck) = _
  rw [if_pos (by omega), rangeD_zero]
@[simp] theorem range_len (n : Nat) : (List.range n).length = n := List.length_range

@[simp] theorem cap_num : cap = 100000 := rfl
theorem cut_from {α : Type} (xs : List α) (k : Nat) : cutD xs (some (k : Int)) none = xs.drop k := by
  unfold cutD sxOf
  by_cases h : (xs.length : Int) ≤ k
  · simp only [if_neg (show ¬ (k : Int) < 0 by omega), if_pos h]
    rw [List.drop_eq_nil_of_le (Nat.le_refl _), List.drop_eq_nil_of_le (by omega)]
    simp
  · simp only [if_neg (show ¬ (k : Int) < 0 by omega), if_neg h, Int.toNat_natCast]
    rw [List.take_of_length_le (by simp)]
theorem cut_to {α : Type} (xs : List α) (k : Nat) : cutD xs none (some (k : Int)) = xs.take k := by
  unfold cutD sxOf
  by_cases h : (xs.length : Int) ≤ k
  · simp only [if_neg (show ¬ (k : Int) < 0 by omega), if_pos h]
    simp only [List.drop_zero, Nat.sub_zero]
    rw [List.take_of_length_le (Nat.le_refl _), List.take_of_length_le (by omega)]
  · simp only [if_neg (show ¬ (k : Int) < 0 by omega), if_neg h, Int.toNat_natCast, List.drop_zero, Nat.sub_zero]
theorem cut_from_one {α : Type} (xs : List α) : cutD xs (some 1) none = xs.drop 1 := cut_from xs 1
theorem cut_from_succ {α : Type} (xs : List α) (k : Nat) : cutD xs (some ((k : Int) + 1)) none = xs.drop (k + 1) := cut_from xs (k + 1)
@[simp] theorem slc_list (xs : List PyData) (lo hi : Option Int) : slcD (.list xs) lo hi = .ok (.fr (cutD xs lo hi)) := rfl
@[simp] theorem slc_tuple (xs : List PyData) (lo hi : Option Int) : slcD (.tuple xs) lo hi = .ok (.fz (.tuple (cutD xs lo hi))) := rfl
theorem zip_enc {α β : Type} (xs : List α) (ys : List β) (f : α → PyData) (g : β → PyData) : ((xs.map f).zip (ys.map g)).map (fun p => PyData.tuple [p.1, p.2]) = (xs.zip ys).map fun p => PyData.tuple [f p.1, g p.2] := by
  rw [List.zip_map, List.map_map]
  rfl
theorem enum_enc {α : Type} (xs : List α) (f : α → PyData) : ((xs.map f).zipIdx.map fun p => PyData.tuple [.int p.2, p.1]) = xs.zipIdx.map fun p => PyData.tuple [encN p.2, f p.1] := by
  rw [List.zipIdx_map, List.map_map]
  rfl

theorem beq_sub_one (a b : Nat) : ((a : Int) == (b : Int) - 1) = decide (a + 1 = b) := by
  rw [Bool.eq_iff_iff]
  simp
  omega
@[simp] theorem neg_one : negD (.int 1) = .ok (.fz (.int (-1))) := rfl
theorem idx_last {xs : List Nat} {p : Nat} (h : xs.getLast? = some p) : idxD (.list (xs.map encN)) (.int (-1)) = .ok (.fz (encN p)) := idx_list _ _ _ (by rw [atD_last, List.getLast?_map, h]; rfl)
theorem split_zipIdx {α : Type} {o : List α} {p q : List (α × Nat)} {x : α × Nat} (h : o.zipIdx = p ++ x :: q) : x.2 = p.length ∧ o[p.length]? = some x.1 := by
  have e : o.zipIdx[p.length]? = some x := by rw [h]; simp
  rw [List.getElem?_zipIdx] at e
  cases q : o[p.length]? with
  | none => rw [q] at e; cases e
  | some y =>
    rw [q] at e
    simp at e
    rw [← e]
    exact ⟨rfl, rfl⟩
theorem split_range {n : Nat} {p q : List Nat} {x : Nat} (h : List.range n = p ++ x :: q) : p = List.range x ∧ x < n := by
  have e : (List.range n)[p.length]? = some x := by rw [h]; simp
  rw [List.getElem?_range (by
    have := congrArg List.length h
    simp at this
    omega)] at e
  have hx : p.length = x := by simpa using e
  have hl : n = p.length + (q.length + 1) := by
    have := congrArg List.length h
    simpa using this
  refine ⟨?_, by omega⟩
  have : (List.range n).take p.length = p := by rw [h]; simp
  rw [← this, List.take_range, hx]
  congr 1
  omega

theorem for_then {α β : Type} {body : Env → R (Fl × Env)} {tg : Tg} {k : Fl × Env → R β} {res : R β} (xs : List α) (enc : α → PyData) (I : List α → Env → Prop) (h0 : I [] env)
    (step : ∀ p x q e, xs = p ++ x :: q → I p e → ∃ e1 e2, bindTg tg (enc x) e = some e1 ∧ body e1 = .ok (.next, e2) ∧ I (p ++ [x]) e2) (post : ∀ e', I xs e' → k (.next, e') = res) : (forL body tg (xs.map enc) env).bind k = res := by
  obtain ⟨e', h1, h2⟩ := for_inv (body := body) (tg := tg) enc I xs [] env h0 step
  rw [h1]
  exact post e' h2
/-- a for that may be back at some item -/
theorem for_back {α β : Type} {body : Env → R (Fl × Env)} {tg : Tg} {k : Fl × Env → R β} {res : R β} (xs : List α) (enc : α → PyData) (I : List α → Env → Prop) (J : List α → α → RV → Env → Prop) (h0 : I [] env)
    (step : ∀ p x q e, xs = p ++ x :: q → I p e → ∃ e1, bindTg tg (enc x) e = some e1 ∧ ((∃ e2, body e1 = .ok (.next, e2) ∧ I (p ++ [x]) e2) ∨ ∃ r e2, body e1 = .ok (.ret r, e2) ∧ J p x r e2))
    (post : ∀ e', I xs e' → k (.next, e') = res) (back : ∀ p x q r e', xs = p ++ x :: q → J p x r e' → k (.ret r, e') = res) : (forL body tg (xs.map enc) env).bind k = res := by
  rcases for_ret (body := body) (tg := tg) enc I J xs [] env h0 step with ⟨e', h1, h2⟩ | ⟨p, x, q, r, e', h1, h2, h3⟩
  · rw [h1]
    exact post e' h2
  · rw [h2]
    exact back p x q r e' h1 h3

@[simp] theorem cmp_encB1 (b : Bool) : cmpD .eq (encB b) (.int 1) = .ok b := by cases b <;> simp [encB]
@[simp] theorem cmp_encB0 (b : Bool) : cmpD .eq (encB b) (.int 0) = .ok (!b) := by cases b <;> simp [encB]
@[simp] theorem isNone_none : isNone (encO none) = true := rfl
@[simp] theorem isNone_some (k : Nat) : isNone (encO (some k)) = false := rfl
@[simp] theorem isNone_encN (k : Int) : isNone (.int k) = false := rfl
@[simp] theorem isNone_tup (k : List PyData) : isNone (.tuple k) = false := rfl
@[simp] theorem isNone_none' : isNone .none = true := rfl
@[simp] theorem bi_tuple_list (xs : List PyData) : biD .tuple [.list xs] = .ok (.fz (.tuple xs)) := rfl
@[simp] theorem bi_int_bool (b : Bool) : biD .int [.bool b] = .ok (.fz (encB b)) := rfl
theorem idx_opt {α : Type} {f : α → PyData} {xs : List α} {i : Nat} {d : α} (h : xs[i]? = some d) : idxD (.list (xs.map f)) (.int (i : Int)) = .ok (.fz (f d)) := idx_list _ _ _ (by rw [atD_nat, List.getElem?_map, h]; rfl)

theorem in_tuple_nat1 (k : Nat) (xs : List Nat) : cmpD .in_ (.int ((k : Int) + 1)) (.tuple (xs.map encN)) = .ok (decide (k + 1 ∈ xs)) := in_tuple_nat (k + 1) xs
theorem eqDs_nat : ∀ (xs ys : List Nat), eqDs (xs.map encN) (ys.map encN) = decide (xs = ys)
  | [], [] => rfl
  | [], _ :: _ => rfl
  | _ :: _, [] => rfl
  | x :: xs, y :: ys => by
    simp only [List.map_cons, eqDs, eqD, eqDs_nat xs ys]
    rw [Bool.eq_iff_iff]
    simp
    omega
theorem eqOkAll_nat (n : Nat) (l : List Nat) : eqOkAll n (l.map encN) = true := by
  have := eqOkAll_int n (l.map fun k : Nat => (k : Int))
  rw [List.map_map] at this
  exact this
theorem eq_tN (xs ys : List Nat) : cmpD .eq (tN xs) (tN ys) = .ok (decide (xs = ys)) := by
  show (if (eqOkAll 39 (xs.map encN) && eqOkAll 39 (ys.map encN)) then R.ok (eqDs (xs.map encN) (ys.map encN)) else .stuck) = _
  rw [eqOkAll_nat, eqOkAll_nat, eqDs_nat]
  rfl
theorem eq_lN (xs ys : List Nat) : cmpD .eq (lN xs) (lN ys) = .ok (decide (xs = ys)) := by
  show (if (eqOkAll 39 (xs.map encN) && eqOkAll 39 (ys.map encN)) then R.ok (eqDs (xs.map encN) (ys.map encN)) else .stuck) = _
  rw [eqOkAll_nat, eqOkAll_nat, eqDs_nat]
  rfl
@[simp] theorem truth_encB (b : Bool) : truthD (encB b) = .ok b := by cases b <;> rfl
@[simp] theorem sub_encB (b : Bool) : arith .sub (.int 1) (encB b) = .ok (.fz (encB (!b))) := by cases b <;> rfl
theorem add_tuple (xs ys : List PyData) (h : xs.length + ys.length ≤ 100000) : arith .add (.tuple xs) (.tuple ys) = .ok (.fz (.tuple (xs ++ ys))) := if_pos h
theorem add_list (xs ys : List PyData) (h : xs.length + ys.length ≤ 100000) : arith .add (.list xs) (.list ys) = .ok (.fr (xs ++ ys)) := if_pos h
theorem kind_plain : cmpD .notin (.str "plain") (.tuple [.str "plain", .str "deep"]) = .ok false := rfl
theorem kind_deep : cmpD .notin (.str "deep") (.tuple [.str "plain", .str "deep"]) = .ok false := rfl
theorem eq_str (a b : Str) (v : Bool) (h : a.cps.all (· < 0x110000) = true) (h2 : b.cps.all (· < 0x110000) = true) (e : (a == b) = v) : cmpD .eq (.str a) (.str b) = .ok v := by
  show (if eqOk 40 (.str a) && eqOk 40 (.str b) then R.ok (eqD (.str a) (.str b)) else .stuck) = _
  have e1 : eqOk 40 (.str a) = true := h
  have e2 : eqOk 40 (.str b) = true := h2
  rw [e1, e2]
  simp [eqD, e]
theorem eq_plain : cmpD .eq (.str "plain") (.str "plain") = .ok true := eq_str _ _ _ (by decide +kernel) (by decide +kernel) (by decide +kernel)
theorem eq_deep : cmpD .eq (.str "deep") (.str "plain") = .ok false := eq_str _ _ _ (by decide +kernel) (by decide +kernel) (by decide +kernel)
theorem eq_plain' : cmpD .eq (.str "plain") (.str "deep") = .ok false := eq_str _ _ _ (by decide +kernel) (by decide +kernel) (by decide +kernel)
theorem eq_deep' : cmpD .eq (.str "deep") (.str "deep") = .ok true := eq_str _ _ _ (by decide +kernel) (by decide +kernel) (by decide +kernel)
def encC (c : Bool × Nat) : PyData := .tuple [.str (if c.1 then "deep" else "plain"), encN c.2]
def encS : Option (List Bool) → PyData
  | none => .none
  | some s => tS s
def encR : Option (List Nat × List Bool) → PyData
  | none => .none
  | some q => .tuple [lN q.1, tS q.2]
@[simp] theorem isNone_encS_some (s : List Bool) : isNone (encS (some s)) = false := rfl
@[simp] theorem isNone_encS_none : isNone (encS none) = true := rfl
@[simp] theorem isNone_encR_some (s : List Nat × List Bool) : isNone (encR (some s)) = false := rfl
@[simp] theorem isNone_encR_none : isNone (encR none) = true := rfl

@[simp] theorem filt_true {α : Type} (l : List α) : l.filter (fun _ => true) = l := by
  rw [List.filter_eq_self]
  exact fun _ _ => rfl
theorem sub_le_cap {a b : Nat} (h : a ≤ 16) (h2 : b ≤ 16) : a + b ≤ 100000 := by omega
theorem set_enc {s : List Bool} {i : Nat} (b : Bool) (h : i < s.length) : (s.map encB).take i ++ [encB b] ++ (s.map encB).drop (i + 1) = (s.set i b).map encB := by
  rw [List.set_eq_take_append_cons_drop, if_pos h]
  simp

@[simp] theorem exS_unpack (js : List Nat) (e : E) : exS cl gb (.unpack js e) env = ((ev cl gb e).v env).bind fun p => match p.1 with
    | .fz (.tuple ds) => if ds.length = js.length then (R.of (putVals p.2 js ds)).bind fun e1 => .ok (.next, e1) else .stuck
    | _ => .stuck := rfl
theorem encN_succ (i : Nat) : PyData.int ((i : Int) + 1) = encN (i + 1) := by simp [encN]

theorem for_thenP {α β : Type} (P : R β → Prop) {body : Env → R (Fl × Env)} {tg : Tg} {k : Fl × Env → R β} (xs : List α) (enc : α → PyData) (I : List α → Env → Prop) (h0 : I [] env)
    (step : ∀ p x q e, xs = p ++ x :: q → I p e → ∃ e1 e2, bindTg tg (enc x) e = some e1 ∧ body e1 = .ok (.next, e2) ∧ I (p ++ [x]) e2) (post : ∀ e', I xs e' → P (k (.next, e'))) : P ((forL body tg (xs.map enc) env).bind k) := by
  obtain ⟨e', h1, h2⟩ := for_inv (body := body) (tg := tg) enc I xs [] env h0 step
  rw [h1]
  exact post e' h2
@[simp] theorem ioOf_io (us : List PyData) (e : Env) : ioOf .io (.io us :: e) = some us := rfl
theorem runF_io (b : Fn) (us ds : List PyData) (hk : b.pk = .io) (h1 : ds.length + 1 = b.np) (h2 : b.np ≤ b.slots) : runF cl gb b (.io us) ds = (exS cl gb b.body (.io us :: (ds.map Slot.val ++ List.replicate (b.slots - b.np) .un))).bind fun p => (R.of (ioOf .io p.2)).bind fun vs => match p.1 with
    | .next => .ok (.fz .none, vs)
    | .ret r => .ok (r, vs) := by
  unfold runF startE
  rw [hk]
  simp only [if_pos (And.intro h1 h2), R.of_some, R.bind_ok]
  all_goals (first | rfl | congr 1)
theorem runF_scr (b : Fn) (us : List Int) (ds : List PyData) (hk : b.pk = .scr) (h1 : ds.length + 1 = b.np) (h2 : b.np ≤ b.slots) : runF cl gb b (.scr us) ds = (exS cl gb b.body (.scr us :: (ds.map Slot.val ++ List.replicate (b.slots - b.np) .un))).bind fun p => match p.1 with
    | .next => .ok (.fz .none, [])
    | .ret r => .ok (r, []) := by
  unfold runF startE
  rw [hk]
  simp only [if_pos (And.intro h1 h2), R.of_some, R.bind_ok, ioOf_scr]
  all_goals (first | rfl | congr 1)
theorem arith_mul_int {a b : Int} (h : (-(2 ^ 64) < a ∧ a < 2 ^ 64) ∨ (-(2 ^ 64) < b ∧ b < 2 ^ 64)) : arith .mul (.int a) (.int b) = .ok (.fz (.int (a * b))) := if_pos h
theorem arith_mod_int {a b : Int} (h : 0 < b) : arith .mod (.int a) (.int b) = .ok (.fz (.int (a % b))) := if_pos h
theorem arith_fdiv_int {a b : Int} (h : 0 < b ∧ b < 1073741824) : arith .fdiv (.int a) (.int b) = .ok (.fz (.int (a / b))) := if_pos h
theorem arith_pow_int {a b : Int} (h : 0 ≤ b ∧ b ≤ 1000000 ∧ a.natAbs < 2 ^ 64) : arith .pow (.int a) (.int b) = .ok (.fz (.int (a ^ b.toNat))) := if_pos h
@[simp] theorem idx_pair0 (x y : PyData) : idxD (.list [x, y]) (.int 0) = .ok (.fz x) := rfl
@[simp] theorem idx_pair1 (x y : PyData) : idxD (.list [x, y]) (.int 1) = .ok (.fz y) := rfl
@[simp] theorem idx_tpair0 (x y : PyData) : idxD (.tuple [x, y]) (.int 0) = .ok (.fz x) := rfl
@[simp] theorem idx_tpair1 (x y : PyData) : idxD (.tuple [x, y]) (.int 1) = .ok (.fz y) := rfl
@[simp] theorem ixOf_20 : ixOf 2 0 = some 0 := rfl
@[simp] theorem ixOf_21 : ixOf 2 1 = some 1 := rfl
@[simp] theorem kCallIo_own (cl : Cl) (k i : Nat) (ds us : List PyData) (h : env[i]? = some (.own us)) : kCallIo cl k i ds env = (cl k (.io us) ds).bind fun r => .ok (r.1.val, env.set i (.own r.2)) := by
  unfold kCallIo
  rw [h]
@[simp] theorem kCallIo_io (cl : Cl) (k i : Nat) (ds us : List PyData) (h : env[i]? = some (.io us)) : kCallIo cl k i ds env = (cl k (.io us) ds).bind fun r => .ok (r.1.val, env.set i (.io r.2)) := by
  unfold kCallIo
  rw [h]
theorem getD_mem {α : Type} {xs : List α} {i : Nat} (h : i < xs.length) (d : α) : xs.getD i d ∈ xs := by
  rw [List.getD_eq_getElem?_getD, List.getElem?_eq_getElem h]
  exact List.getElem_mem h

@[simp] theorem evLenScr_eq (i : Nat) : evLenScr i env = match env[i]? with
  | some (.scr ns) => .ok (.fz (.int ns.length), env)
  | _ => .stuck := rfl
@[simp] theorem evScr_eq (i : Nat) : evScr i f env = match env[i]? with
  | some (.scr _) => f env
  | _ => .stuck := rfl
@[simp] theorem evIdxScr_eq (i : Nat) : evIdxScr i f env = (f env).bind fun p => match p.1, p.2[i]? with
  | .fz (.int k), some (.scr ns) => (R.of (atD ns k)).bind fun n => .ok (.fz (.int n), p.2)
  | _, _ => .stuck := rfl
@[simp] theorem kCallScr_scr (cl : Cl) (k i : Nat) (ds : List PyData) (ns : List Int) (h : env[i]? = some (.scr ns)) : kCallScr cl k i ds env = (cl k (.scr ns) ds).bind fun r => .ok (r.1.val, env) := by
  unfold kCallScr
  rw [h]
theorem ne_nil_nat (xs : List Nat) : cmpD .ne (.list (xs.map encN)) (.list []) = .ok (!xs.isEmpty) := by
  show (if (eqOkAll 39 (xs.map encN) && eqOkAll 39 []) then R.ok (!eqDs (xs.map encN) []) else .stuck) = _
  rw [eqOkAll_nat]
  cases xs <;> rfl
theorem eq_nil_nat (xs : List Nat) : cmpD .eq (.list (xs.map encN)) (.list []) = .ok xs.isEmpty := by
  show (if (eqOkAll 39 (xs.map encN) && eqOkAll 39 []) then R.ok (eqDs (xs.map encN) []) else .stuck) = _
  rw [eqOkAll_nat]
  cases xs <;> rfl
@[simp] theorem bi_max2 (i j : Int) : biD .max2 [.int i, .int j] = .ok (.fz (.int (if j > i then j else i))) := rfl
@[simp] theorem bi_min2 (i j : Int) : biD .min2 [.int i, .int j] = .ok (.fz (.int (if j < i then j else i))) := rfl
@[simp] theorem bi_list_tuple (xs : List PyData) : biD .list [.tuple xs] = .ok (.fr xs) := rfl
@[simp] theorem bi_list_list (xs : List PyData) : biD .list [.list xs] = .ok (.fr xs) := rfl
end
end MP

/-! Mini, part M: outlines, states, rows shown. Plain Lean. -/
set_option linter.all false
set_option maxRecDepth 100000
namespace MP
/-- the parent of the item i -/
def par (o : List Nat) (i : Nat) : Option Nat := ((List.range i).filter fun k => decide (gN o k + 1 = gN o i)).getLast?
theorem par_lt {o : List Nat} {i p : Nat} (h : par o i = some p) : p < i ∧ gN o p + 1 = gN o i := by
  have := List.mem_of_getLast? h
  simp only [List.mem_filter, List.mem_range, decide_eq_true_eq] at this
  exact this
/-- the ancestors of the item i, from its parent up -/
def abv (o : List Nat) (i : Nat) : List Nat := match h : par o i with
  | none => []
  | some p => p :: abv o p
termination_by i
decreasing_by exact (par_lt h).1
theorem abv_none {o : List Nat} {i : Nat} (h : par o i = none) : abv o i = [] := by
  rw [abv]
  split
  · rfl
  · rename_i q; rw [h] at q; cases q
theorem abv_some {o : List Nat} {i p : Nat} (h : par o i = some p) : abv o i = p :: abv o p := by
  rw [abv]
  split
  · rename_i q; rw [h] at q; cases q
  · rename_i q; rw [h] at q; cases q; rfl
/-- every ancestor is open -/
def vis (o : List Nat) (s : List Bool) (i : Nat) : Bool := (abv o i).all (sB s)
def shown (o : List Nat) (s : List Bool) : List Nat := (List.range o.length).filter (vis o s)
def brs (o : List Nat) : List Nat := (List.range (o.length - 1)).filter fun i => decide (gN o i < gN o (i + 1))
structure Out (o : List Nat) : Prop where
  pos : 0 < o.length
  le : o.length ≤ 16
  zero : gN o 0 = 0
  step : ∀ i, i + 1 < o.length → gN o (i + 1) ≤ gN o i + 1
structure Good (o : List Nat) (s : List Bool) : Prop where
  len : s.length = o.length
  br : ∀ i, sB s i = true → i ∈ brs o
theorem vis_none {o : List Nat} {s : List Bool} {i : Nat} (h : par o i = none) : vis o s i = true := by
  unfold vis
  rw [abv_none h]
  rfl
theorem vis_some {o : List Nat} {s : List Bool} {i p : Nat} (h : par o i = some p) : vis o s i = (sB s p && vis o s p) := by
  unfold vis
  rw [abv_some h, List.all_cons]
theorem mem_shown {o : List Nat} {s : List Bool} {i : Nat} : i ∈ shown o s ↔ i < o.length ∧ vis o s i = true := by
  unfold shown
  simp
theorem mem_brs {o : List Nat} {i : Nat} : i ∈ brs o ↔ i + 1 < o.length ∧ gN o i < gN o (i + 1) := by
  unfold brs
  simp
  omega
theorem abv_lt {o : List Nat} : ∀ (i k : Nat), k ∈ abv o i → k < i := by
  intro i
  induction i using Nat.strongRecOn with
  | ind i ih =>
    intro k hk
    cases h : par o i with
    | none => rw [abv_none h] at hk; cases hk
    | some p =>
      rw [abv_some h] at hk
      have hp := (par_lt h).1
      rcases List.mem_cons.mp hk with rfl | hk
      · exact hp
      · exact Nat.lt_trans (ih p hp k hk) hp
/-- the item behind a parent is its child -/
theorem par_child {o : List Nat} (O : Out o) {i p : Nat} (hi : i < o.length) (h : par o i = some p) : gN o (p + 1) = gN o p + 1 ∧ p + 1 ≤ i ∧ par o (p + 1) = some p := by
  obtain ⟨h1, h2⟩ := par_lt h
  have last : ∀ k, p < k → k < i → gN o k + 1 ≠ gN o i := by
    intro k hk hki he
    unfold par at h
    have hm : k ∈ (List.range i).filter fun k => decide (gN o k + 1 = gN o i) := by simp [hki, he]
    have hp : ((List.range i).filter fun k => decide (gN o k + 1 = gN o i)).Pairwise (· < ·) := List.Pairwise.filter _ List.pairwise_lt_range
    obtain ⟨ys, hys⟩ := List.getLast?_eq_some_iff.mp h
    rw [hys] at hm hp
    rcases List.mem_append.mp hm with hm | hm
    · have := (List.pairwise_append.mp hp).2.2 k hm p (by simp)
      omega
    · simp at hm
      omega
  -- no item between is at the parent's depth; so the next one is deeper
  have key : ∀ d k, k + d = i → p < k → gN o i ≤ gN o k := by
    intro d
    induction d with
    | zero => intro k hk _; rw [show k = i by omega]; exact Nat.le_refl _
    | succ d ih =>
      intro k hk hpk
      have := ih (k + 1) (by omega) (by omega)
      have s := O.step k (by omega)
      have l := last k hpk (by omega)
      omega
  have e : gN o (p + 1) = gN o p + 1 := by
    have := key (i - (p + 1)) (p + 1) (by omega) (by omega)
    have s := O.step p (by omega)
    omega
  refine ⟨e, by omega, ?_⟩
  unfold par
  rw [List.range_succ, List.filter_append, List.filter_cons, if_pos (by simp [e])]
  simp
theorem par_br {o : List Nat} (O : Out o) {i p : Nat} (hi : i < o.length) (h : par o i = some p) : p ∈ brs o := by
  obtain ⟨h1, h2, _⟩ := par_child O hi h
  exact mem_brs.mpr ⟨by omega, by omega⟩
/-- a branch has a child behind it -/
theorem br_child {o : List Nat} (O : Out o) {p : Nat} (h : p ∈ brs o) : p + 1 < o.length ∧ par o (p + 1) = some p := by
  obtain ⟨h1, h2⟩ := mem_brs.mp h
  have s := O.step p h1
  have e : gN o (p + 1) = gN o p + 1 := by omega
  refine ⟨h1, ?_⟩
  unfold par
  rw [List.range_succ, List.filter_append, List.filter_cons, if_pos (by simp [e])]
  simp
theorem mem_zip_tail {o : List Nat} {p : Nat × Nat} (h : p ∈ o.zip (o.drop 1)) : ∃ i, i + 1 < o.length ∧ p.1 = gN o i ∧ p.2 = gN o (i + 1) := by
  obtain ⟨i, hi, e⟩ := List.mem_iff_getElem.mp h
  simp only [List.length_zip, List.length_drop] at hi
  refine ⟨i, by omega, ?_, ?_⟩
  · rw [← e]
    simp only [List.getElem_zip]
    unfold gN
    rw [List.getD_eq_getElem?_getD, List.getElem?_eq_getElem (by omega)]
    rfl
  · rw [← e]
    simp only [List.getElem_zip, List.getElem_drop]
    unfold gN
    rw [List.getD_eq_getElem?_getD, List.getElem?_eq_getElem (by omega)]
    simp [Nat.add_comm]
theorem all_lt {o : List Nat} (O : Out o) : ∀ i, i < o.length → gN o i ≤ i := by
  intro i
  induction i with
  | zero => intro _; rw [O.zero]; exact Nat.le_refl 0
  | succ i ih =>
    intro h
    have := O.step i h
    have := ih (by omega)
    omega
theorem mem_gN {o : List Nat} {d : Nat} (h : d ∈ o) : ∃ i, i < o.length ∧ d = gN o i := by
  obtain ⟨i, hi, e⟩ := List.mem_iff_getElem.mp h
  refine ⟨i, hi, ?_⟩
  unfold gN
  rw [List.getD_eq_getElem?_getD, List.getElem?_eq_getElem hi, e]
  rfl
/-! ### screens -/
def scrState (o scr : List Nat) : List Bool := (List.range o.length).map fun i => decide (i ∈ brs o) && (decide (i ∈ scr) && decide (i + 1 ∈ scr))
theorem scrState_get {o scr : List Nat} {i : Nat} (h : i < o.length) : sB (scrState o scr) i = (decide (i ∈ brs o) && (decide (i ∈ scr) && decide (i + 1 ∈ scr))) := by
  unfold sB scrState
  rw [List.getD_eq_getElem?_getD, List.getElem?_map, List.getElem?_range h]
  rfl
theorem shown_screen {o : List Nat} (O : Out o) (s : List Bool) : shown o (scrState o (shown o s)) = shown o s := by
  have key : ∀ i, i < o.length → vis o (scrState o (shown o s)) i = vis o s i := by
    intro i
    induction i using Nat.strongRecOn with
    | ind i ih =>
      intro hi
      cases h : par o i with
      | none => rw [vis_none h, vis_none h]
      | some p =>
        have hp := (par_lt h).1
        rw [vis_some h, vis_some h, ih p hp (by omega)]
        cases hv : vis o s p with
        | false => simp
        | true =>
          obtain ⟨_, h2, h3⟩ := par_child O hi h
          have hb := par_br O hi h
          rw [scrState_get (by omega)]
          have m1 : p ∈ shown o s := mem_shown.mpr ⟨by omega, hv⟩
          have m2 : decide (p + 1 ∈ shown o s) = sB s p := by
            rw [Bool.eq_iff_iff]
            simp only [decide_eq_true_eq, mem_shown]
            rw [vis_some h3, hv]
            simp
            omega
          simp [hb, m1, m2]
  unfold shown
  exact List.filter_congr fun i hi => key i (List.mem_range.mp hi)
/-! ### clicks -/
def endG (o : List Nat) (i : Nat) : Nat → Nat → Nat
  | 0, j => j
  | f + 1, j => if j < o.length ∧ gN o i < gN o j then endG o i f (j + 1) else j
/-- the item behind all those below i -/
def endO (o : List Nat) (i : Nat) : Nat := endG o i (o.length - (i + 1)) (i + 1)
theorem endG_le {o : List Nat} {i : Nat} : ∀ (f j : Nat), j ≤ o.length → j ≤ endG o i f j ∧ endG o i f j ≤ o.length
  | 0, j, h => ⟨Nat.le_refl _, h⟩
  | f + 1, j, h => by
    unfold endG
    split
    · rename_i hc
      have := endG_le (i := i) f (j + 1) hc.1
      omega
    · exact ⟨Nat.le_refl _, h⟩
theorem endO_le {o : List Nat} {i : Nat} (hi : i < o.length) : i < endO o i ∧ endO o i ≤ o.length := by
  have := endG_le (o := o) (i := i) (o.length - (i + 1)) (i + 1) hi
  unfold endO
  omega
def deepS (o : List Nat) (s : List Bool) (i : Nat) : List Bool := (List.range o.length).map fun k => if i ≤ k ∧ k < endO o i then (!sB s i && decide (k ∈ brs o)) else sB s k
theorem deepS_eq {o : List Nat} {s : List Bool} {i : Nat} (hl : s.length = o.length) (hi : i < o.length) : s.take i ++ ((List.range (endO o i - i)).map fun k => !sB s i && decide (i + k ∈ brs o)) ++ s.drop (endO o i) = deepS o s i := by
  have he := endO_le hi
  apply List.ext_getElem?
  intro k
  unfold deepS
  rw [List.getElem?_map]
  by_cases hk : k < o.length
  · rw [List.getElem?_range hk]
    simp only [Option.map_some]
    by_cases h1 : k < i
    · rw [List.getElem?_append_left (by simp; omega), List.getElem?_append_left (by simp; omega), List.getElem?_take, if_pos h1, if_neg (by omega), sB_get (by omega)]
    · by_cases h2 : k < endO o i
      · rw [List.getElem?_append_left (by simp; omega), List.getElem?_append_right (by simp; omega), List.getElem?_map, List.length_take, Nat.min_eq_left (by omega), List.getElem?_range (by omega), if_pos (by omega)]
        simp only [Option.map_some]
        rw [show i + (k - i) = k by omega]
      · rw [List.getElem?_append_right (by simp; omega), List.getElem?_drop, if_neg (by omega)]
        have : endO o i + (k - (s.take i ++ (List.range (endO o i - i)).map fun k => !sB s i && decide (i + k ∈ brs o)).length) = k := by
          simp
          omega
        rw [this, sB_get (by omega)]
  · have e2 : (List.range o.length)[k]? = none := List.getElem?_eq_none (by simpa using hk)
    rw [e2]
    rw [List.getElem?_eq_none (by simp; omega)]
    rfl
def stepC (o : List Nat) (s : List Bool) (c : Bool × Nat) : Option (List Bool) := if c.2 ∈ brs o ∧ c.2 ∈ shown o s then some (if c.1 then deepS o s c.2 else s.set c.2 (!sB s c.2)) else none
def afterC (o : List Nat) (s : List Bool) : List (Bool × Nat) → Option (List Bool)
  | [] => some s
  | c :: cs => (stepC o s c).bind fun s' => afterC o s' cs
theorem afterC_snoc (o : List Nat) : ∀ (cs : List (Bool × Nat)) (s : List Bool) (c : Bool × Nat), afterC o s (cs ++ [c]) = (afterC o s cs).bind fun s' => stepC o s' c
  | [], s, c => by simp [afterC]
  | d :: cs, s, c => by
    simp only [List.cons_append, afterC]
    cases stepC o s d with
    | none => rfl
    | some s' => simpa using afterC_snoc o cs s' c
theorem afterC_app_none (o : List Nat) : ∀ (cs ds : List (Bool × Nat)) (s : List Bool), afterC o s cs = none → afterC o s (cs ++ ds) = none
  | [], _, _, h => by simp [afterC] at h
  | d :: cs, ds, s, h => by
    simp only [List.cons_append, afterC] at h ⊢
    cases hs : stepC o s d with
    | none => rfl
    | some s' =>
      rw [hs] at h
      exact afterC_app_none o cs ds s' h
theorem stepC_len {o : List Nat} {s s' : List Bool} {c : Bool × Nat} (hl : s.length = o.length) (h : stepC o s c = some s') : s'.length = o.length := by
  unfold stepC at h
  split at h
  · cases h
    split
    · simp [deepS]
    · simpa using hl
  · cases h
theorem stepC_good {o : List Nat} {s s' : List Bool} {c : Bool × Nat} (G : Good o s) (h : stepC o s c = some s') : Good o s' := by
  refine ⟨stepC_len G.len h, fun k hk => ?_⟩
  unfold stepC at h
  split at h
  · rename_i hc
    cases h
    split at hk
    · unfold sB deepS at hk
      rw [List.getD_eq_getElem?_getD, List.getElem?_map] at hk
      by_cases hlt : k < o.length
      · rw [List.getElem?_range hlt] at hk
        simp only [Option.map_some, Option.getD_some] at hk
        split at hk
        · simp at hk
          exact hk.2
        · exact G.br k hk
      · rw [List.getElem?_eq_none (by simpa using hlt)] at hk
        cases hk
    · by_cases hkc : k = c.2
      · rw [hkc]
        exact hc.1
      · refine G.br k ?_
        unfold sB at hk ⊢
        rwa [List.getD_eq_getElem?_getD, List.getElem?_set_ne (Ne.symm hkc), ← List.getD_eq_getElem?_getD] at hk
  · cases h
theorem afterC_good {o : List Nat} : ∀ {cs : List (Bool × Nat)} {s s' : List Bool}, Good o s → afterC o s cs = some s' → Good o s'
  | [], _, _, G, h => by cases h; exact G
  | c :: cs, s, s', G, h => by
    simp only [afterC] at h
    cases hs : stepC o s c with
    | none => rw [hs] at h; cases h
    | some t =>
      rw [hs] at h
      exact afterC_good (stepC_good G hs) h
/-! ### clicks by row numbers -/
def stepR (o : List Nat) (s : List Bool) (r : Nat) : Option (Nat × List Bool) := match (shown o s)[r]? with
  | none => none
  | some i => (stepC o s (false, i)).map fun s' => (i, s')
def byR (o : List Nat) (s : List Bool) : List Nat → Option (List Nat × List Bool)
  | [] => some ([], s)
  | r :: rs => (stepR o s r).bind fun p => (byR o p.2 rs).map fun q => (p.1 :: q.1, q.2)
theorem byR_snoc (o : List Nat) : ∀ (rs : List Nat) (s : List Bool) (r : Nat), byR o s (rs ++ [r]) = (byR o s rs).bind fun q => (stepR o q.2 r).map fun p => (q.1 ++ [p.1], p.2)
  | [], s, r => by
    simp only [List.nil_append, byR, Option.bind_some]
    cases stepR o s r <;> rfl
  | d :: rs, s, r => by
    simp only [List.cons_append, byR]
    cases stepR o s d with
    | none => rfl
    | some p =>
      simp only [Option.bind_some]
      rw [byR_snoc o rs p.2 r]
      cases byR o p.2 rs with
      | none => rfl
      | some q =>
        simp only [Option.bind_some, Option.map_some]
        cases stepR o q.2 r <;> rfl
theorem byR_app_none (o : List Nat) : ∀ (rs qs : List Nat) (s : List Bool), byR o s rs = none → byR o s (rs ++ qs) = none
  | [], _, _, h => by simp [byR] at h
  | d :: rs, qs, s, h => by
    simp only [List.cons_append, byR] at h ⊢
    cases hs : stepR o s d with
    | none => rfl
    | some p =>
      rw [hs] at h
      simp only [Option.bind_some] at h ⊢
      cases hb : byR o p.2 rs with
      | none => rw [byR_app_none o rs qs p.2 hb]; rfl
      | some q => rw [hb] at h; cases h
theorem stepR_good {o : List Nat} {s : List Bool} {r : Nat} {p : Nat × List Bool} (G : Good o s) (h : stepR o s r = some p) : Good o p.2 ∧ p.1 < o.length ∧ stepC o s (false, p.1) = some p.2 := by
  unfold stepR at h
  cases hs : (shown o s)[r]? with
  | none => rw [hs] at h; cases h
  | some i =>
    rw [hs] at h
    simp only at h
    cases hc : stepC o s (false, i) with
    | none => rw [hc] at h; cases h
    | some t =>
      rw [hc] at h
      cases h
      exact ⟨stepC_good G hc, (mem_shown.mp (List.mem_of_getElem? hs)).1, hc⟩
theorem byR_good {o : List Nat} : ∀ {rs : List Nat} {s : List Bool} {q : List Nat × List Bool}, Good o s → byR o s rs = some q → Good o q.2 ∧ (∀ i ∈ q.1, i < o.length) ∧ q.1.length = rs.length ∧ afterC o s (q.1.map fun i => (false, i)) = some q.2
  | [], s, q, G, h => by
    cases h
    exact ⟨G, fun _ z => (by cases z), rfl, rfl⟩
  | r :: rs, s, q, G, h => by
    simp only [byR] at h
    cases hs : stepR o s r with
    | none => rw [hs] at h; cases h
    | some p =>
      rw [hs] at h
      simp only [Option.bind_some] at h
      cases hb : byR o p.2 rs with
      | none => rw [hb] at h; cases h
      | some t =>
        rw [hb] at h
        cases h
        obtain ⟨g1, g2, g3⟩ := stepR_good G hs
        obtain ⟨k1, k2, k3, k4⟩ := byR_good g1 hb
        refine ⟨k1, fun i hi => ?_, by simp [k3], ?_⟩
        · rcases List.mem_cons.mp hi with rfl | hi
          · exact g2
          · exact k2 i hi
        · simp only [List.map_cons, afterC, g3, Option.bind_some, k4]
end MP

/-! Mini, part Q: more data. Plain Lean. -/
set_option linter.all false
set_option maxRecDepth 100000
namespace MP
open PySem (PyData Str)
theorem while_step {c : Env → R (Bool × Env)} {body : Env → R (Fl × Env)} {m : Nat} {env e1 e2 : Env} (h1 : c env = .ok (true, e1)) (h2 : body e1 = .ok (.next, e2)) : whileL c body (m + 1) env = whileL c body m e2 := by
  conv => lhs; unfold whileL
  rw [h1, R.bind_ok]
  simp only [h2, R.bind_ok]
theorem while_stop {c : Env → R (Bool × Env)} {body : Env → R (Fl × Env)} {m : Nat} {env e1 : Env} (h1 : c env = .ok (false, e1)) : whileL c body (m + 1) env = .ok (.next, e1) := by
  unfold whileL
  rw [h1, R.bind_ok]
/-- what is held of an outcome, while it is worked out -/
theorem hold_start {α : Type} {P : R α → Prop} {X : R α} (h : ∀ Q : R α → Prop, (∀ Y, P Y → Q Y) → Q X) : P X := h P fun _ h => h
theorem seq_step {cl : Cl} {gb : Gb} {a b : S} {env e1 : Env} (h : exS cl gb a env = .ok (.next, e1)) : exS cl gb (.seq a b) env = exS cl gb b e1 := by
  rw [exS_seq', h]
  rfl
theorem for_endP {α : Type} {env : Env} (P : R (Fl × Env) → Prop) {body : Env → R (Fl × Env)} {tg : Tg} (xs : List α) (enc : α → PyData) (I : List α → Env → Prop) (h0 : I [] env)
    (step : ∀ p x q e, xs = p ++ x :: q → I p e → ∃ e1, bindTg tg (enc x) e = some e1 ∧ ∃ e2, body e1 = .ok (.next, e2) ∧ I (p ++ [x]) e2) (post : ∀ e', I xs e' → P (.ok (.next, e'))) : P (forL body tg (xs.map enc) env) := by
  obtain ⟨e', h1, h2⟩ := for_inv (body := body) (tg := tg) enc I xs [] env h0 fun p x q e hp hI => by
    obtain ⟨e1, g1, e2, g2, g3⟩ := step p x q e hp hI
    exact ⟨e1, e2, g1, g2, g3⟩
  rw [h1]
  exact post e' h2
theorem for_thenP' {α β : Type} {env : Env} (P : R β → Prop) {body : Env → R (Fl × Env)} {tg : Tg} {k : Fl × Env → R β} (xs : List α) (enc : α → PyData) (I : List α → Env → Prop) (h0 : I [] env)
    (step : ∀ p x q e, xs = p ++ x :: q → I p e → ∃ e1, bindTg tg (enc x) e = some e1 ∧ ∃ e2, body e1 = .ok (.next, e2) ∧ I (p ++ [x]) e2) (post : ∀ e', I xs e' → P (k (.next, e'))) : P ((forL body tg (xs.map enc) env).bind k) := for_thenP P xs enc I h0 (fun p x q e hp hI => by
    obtain ⟨e1, g1, e2, g2, g3⟩ := step p x q e hp hI
    exact ⟨e1, e2, g1, g2, g3⟩) post
theorem abv_len (o : List Nat) : ∀ i, (abv o i).length ≤ i := by
  intro i
  induction i using Nat.strongRecOn with
  | ind i ih =>
    cases h : par o i with
    | none => rw [abv_none h]; exact Nat.zero_le _
    | some p =>
      have hp := (par_lt h).1
      rw [abv_some h, List.length_cons]
      have := ih p hp
      omega
end MP

/-! Mini, part N: what lies below an item. Plain Lean. -/
set_option linter.all false
set_option maxRecDepth 100000
namespace MP
open PySem (PyData Str)
theorem par_last {o : List Nat} {i p : Nat} (h : par o i = some p) : ∀ k, p < k → k < i → gN o k + 1 ≠ gN o i := by
  intro k hk hki he
  unfold par at h
  have hm : k ∈ (List.range i).filter fun k => decide (gN o k + 1 = gN o i) := by simp [hki, he]
  have hp : ((List.range i).filter fun k => decide (gN o k + 1 = gN o i)).Pairwise (· < ·) := List.Pairwise.filter _ List.pairwise_lt_range
  obtain ⟨ys, hys⟩ := List.getLast?_eq_some_iff.mp h
  rw [hys] at hm hp
  rcases List.mem_append.mp hm with hm | hm
  · have := (List.pairwise_append.mp hp).2.2 k hm p (by simp)
    omega
  · simp at hm
    omega
theorem par_none {o : List Nat} {i : Nat} (h : par o i = none) : ∀ k, k < i → gN o k + 1 ≠ gN o i := by
  intro k hk he
  unfold par at h
  rw [List.getLast?_eq_none_iff] at h
  have hm : k ∈ (List.range i).filter fun k => decide (gN o k + 1 = gN o i) := by simp [hk, he]
  rw [h] at hm
  cases hm
theorem par_between {o : List Nat} (O : Out o) {i p : Nat} (hi : i < o.length) (h : par o i = some p) : ∀ k, p < k → k ≤ i → gN o i ≤ gN o k := by
  have key : ∀ d k, k + d = i → p < k → gN o i ≤ gN o k := by
    intro d
    induction d with
    | zero => intro k hk _; rw [show k = i by omega]; exact Nat.le_refl _
    | succ d ih =>
      intro k hk hpk
      have := ih (k + 1) (by omega) (by omega)
      have s := O.step k (by omega)
      have l := par_last h k hpk (by omega)
      omega
  exact fun k h1 h2 => key (i - k) k (by omega) h1
/-- an ancestor lies ahead, all between are deeper -/
theorem abv_deeper {o : List Nat} (O : Out o) {i : Nat} : ∀ k, k < o.length → i ∈ abv o k → i < k ∧ ∀ m, i < m → m ≤ k → gN o i < gN o m := by
  intro k
  induction k using Nat.strongRecOn with
  | ind k ih =>
    intro hk hm
    cases h : par o k with
    | none => rw [abv_none h] at hm; cases hm
    | some p =>
      obtain ⟨hp, he⟩ := par_lt h
      have hb := par_between O hk h
      rw [abv_some h] at hm
      rcases List.mem_cons.mp hm with rfl | hm
      · refine ⟨hp, fun m h1 h2 => ?_⟩
        have := hb m h1 h2
        omega
      · obtain ⟨g1, g2⟩ := ih p hp (by omega) hm
        refine ⟨by omega, fun m h1 h2 => ?_⟩
        by_cases hmp : m ≤ p
        · exact g2 m h1 hmp
        · have := hb m (by omega) h2
          have := g2 p g1 (Nat.le_refl p)
          omega
theorem abv_of_deeper {o : List Nat} (O : Out o) {i : Nat} : ∀ k, k < o.length → i < k → (∀ m, i < m → m ≤ k → gN o i < gN o m) → i ∈ abv o k := by
  intro k
  induction k using Nat.strongRecOn with
  | ind k ih =>
    intro hk hik hd
    -- some item from i on is one step less deep than k
    have ex : ∃ m, i ≤ m ∧ m < k ∧ gN o m + 1 = gN o k := by
      have key : ∀ d j, j + d = k → i ≤ j → gN o j < gN o k → ∃ m, i ≤ m ∧ m < k ∧ gN o m + 1 = gN o k := by
        intro d
        induction d with
        | zero => intro j h1 _ h3; rw [show j = k by omega] at h3; omega
        | succ d ihd =>
          intro j h1 h2 h3
          by_cases hj : gN o (j + 1) < gN o k
          · exact ihd (j + 1) (by omega) (by omega) hj
          · have := O.step j (by omega)
            exact ⟨j, h2, by omega, by omega⟩
      exact key (k - i) i (by omega) (Nat.le_refl i) (hd k hik (Nat.le_refl k))
    obtain ⟨m, m1, m2, m3⟩ := ex
    cases h : par o k with
    | none => exact absurd m3 (par_none h m m2)
    | some p =>
      obtain ⟨hp, he⟩ := par_lt h
      have hmp : m ≤ p := by
        by_cases hc : m ≤ p
        · exact hc
        · exact absurd m3 (par_last h m (by omega) m2)
      rw [abv_some h]
      by_cases hip : i = p
      · rw [hip]
        exact List.mem_cons_self ..
      · exact List.mem_cons_of_mem _ (ih p hp (by omega) (by omega) fun q h1 h2 => hd q h1 (by omega))
theorem endG_spec {o : List Nat} {i : Nat} : ∀ (f j : Nat), f + j = o.length → (∀ k, j ≤ k → k < endG o i f j → gN o i < gN o k) ∧ (endG o i f j < o.length → gN o (endG o i f j) ≤ gN o i)
  | 0, j, h => by
    unfold endG
    exact ⟨fun k h1 h2 => by omega, fun h2 => by omega⟩
  | f + 1, j, h => by
    unfold endG
    split
    · rename_i hc
      obtain ⟨g1, g2⟩ := endG_spec (o := o) (i := i) f (j + 1) (by omega)
      refine ⟨fun k h1 h2 => ?_, g2⟩
      by_cases hk : k = j
      · rw [hk]
        exact hc.2
      · exact g1 k (by omega) h2
    · rename_i hc
      exact ⟨fun k h1 h2 => by omega, fun h2 => by omega⟩
/-- what lies below i: from i on, up to the end -/
theorem below_iff {o : List Nat} (O : Out o) {i k : Nat} (hi : i < o.length) (hk : k < o.length) : i ∈ abv o k ↔ i < k ∧ k < endO o i := by
  obtain ⟨e1, e2⟩ := endG_spec (o := o) (i := i) (o.length - (i + 1)) (i + 1) (by omega)
  have he := endO_le hi
  constructor
  · intro h
    obtain ⟨g1, g2⟩ := abv_deeper O k hk h
    refine ⟨g1, ?_⟩
    by_cases hc : k < endO o i
    · exact hc
    · have h3 := e2 (by unfold endO at hc he; omega)
      have h4 := g2 (endO o i) he.1 (by omega)
      unfold endO at h4
      omega
  · rintro ⟨g1, g2⟩
    exact abv_of_deeper O k hk g1 fun m h1 h2 => e1 m (by omega) (by unfold endO at g2; omega)
def blw (o : List Nat) (i : Nat) : List Nat := i :: (List.range o.length).filter fun k => decide (i ∈ abv o k)
theorem mem_blw {o : List Nat} (O : Out o) {i k : Nat} (hi : i < o.length) : k ∈ blw o i ↔ i ≤ k ∧ k < endO o i := by
  have he := endO_le hi
  unfold blw
  rw [List.mem_cons, List.mem_filter, List.mem_range, decide_eq_true_eq]
  constructor
  · rintro (rfl | ⟨h1, h2⟩)
    · omega
    · have := (below_iff O hi h1).mp h2
      omega
  · rintro ⟨h1, h2⟩
    by_cases h : k = i
    · exact .inl h
    · exact .inr ⟨by omega, (below_iff O hi (by omega)).mpr ⟨by omega, h2⟩⟩
theorem calm_soft {s : Slot} (h : calmS (some s) = true) : soft (some s) = true := by
  cases s <;> first | rfl | cases h
end MP

/-! Mini, part R: all states of an outline, counted by screens; dicts of counts. Plain Lean. -/
set_option linter.all false
set_option maxRecDepth 100000
namespace MP
open PySem (PyData Str)
/-! ### all states -/
def stG (o : List Nat) : Nat → List (List Bool)
  | 0 => [[]]
  | j + 1 => (stG o j).flatMap fun s => if j ∈ brs o then [s ++ [false], s ++ [true]] else [s ++ [false]]
theorem stG_len {o : List Nat} : ∀ (j : Nat) (s : List Bool), s ∈ stG o j → s.length = j
  | 0, s, h => by
    simp [stG] at h
    rw [h]
    rfl
  | j + 1, s, h => by
    unfold stG at h
    obtain ⟨t, ht, hs⟩ := List.mem_flatMap.mp h
    have := stG_len j t ht
    split at hs
    · simp at hs
      rcases hs with rfl | rfl <;> simp [this]
    · simp at hs
      rw [hs]
      simp [this]
theorem flat_le {α β : Type} (f : α → List β) (c : Nat) : ∀ l : List α, (∀ x ∈ l, (f x).length ≤ c) → (l.flatMap f).length ≤ c * l.length
  | [], _ => by simp
  | x :: l, h => by
    have h1 := h x (by simp)
    have h2 := flat_le f c l fun y hy => h y (List.mem_cons_of_mem _ hy)
    rw [List.flatMap_cons, List.length_append, List.length_cons, Nat.mul_succ]
    omega
theorem stG_size {o : List Nat} : ∀ j : Nat, (stG o j).length ≤ 2 ^ j
  | 0 => by simp [stG]
  | j + 1 => by
    unfold stG
    have h1 := stG_size (o := o) j
    have h2 := flat_le (fun s : List Bool => if j ∈ brs o then [s ++ [false], s ++ [true]] else [s ++ [false]]) 2 (stG o j) fun x _ => by
      split <;> simp
    rw [Nat.pow_succ]
    omega
theorem stG_ne {o : List Nat} : ∀ j : Nat, stG o j ≠ []
  | 0 => by simp [stG]
  | j + 1 => by
    unfold stG
    cases h : stG o j with
    | nil => exact absurd h (stG_ne j)
    | cons s t =>
      rw [List.flatMap_cons]
      split <;> simp
theorem sB_snoc (s : List Bool) (b : Bool) (i : Nat) : sB (s ++ [b]) i = if i < s.length then sB s i else (decide (i = s.length) && b) := by
  unfold sB
  rw [List.getD_eq_getElem?_getD, List.getD_eq_getElem?_getD]
  by_cases h : i < s.length
  · rw [if_pos h, List.getElem?_append_left h]
  · rw [if_neg h, List.getElem?_append_right (by omega)]
    by_cases e : i = s.length
    · subst e
      simp
    · have : i - s.length ≠ 0 := by omega
      cases q : i - s.length with
      | zero => omega
      | succ m => simp [e]
theorem sB_out {s : List Bool} {i : Nat} (h : s.length ≤ i) : sB s i = false := by
  unfold sB
  rw [List.getD_eq_getElem?_getD, List.getElem?_eq_none h]
  rfl
theorem stG_mem {o : List Nat} : ∀ (j : Nat) (s : List Bool), s ∈ stG o j ↔ s.length = j ∧ ∀ i, sB s i = true → i ∈ brs o
  | 0, s => by
    simp only [stG, List.mem_singleton]
    constructor
    · rintro rfl
      exact ⟨rfl, fun i h => by rw [sB_out (by simp)] at h; cases h⟩
    · rintro ⟨h, _⟩
      exact List.length_eq_zero_iff.mp h
  | j + 1, s => by
    constructor
    · intro h
      refine ⟨stG_len _ _ h, fun i hi => ?_⟩
      unfold stG at h
      obtain ⟨t, ht, hs⟩ := List.mem_flatMap.mp h
      obtain ⟨h1, h2⟩ := (stG_mem j t).mp ht
      have key : ∀ b, s = t ++ [b] → (b = true → j ∈ brs o) → i ∈ brs o := by
        rintro b rfl hb
        rw [sB_snoc] at hi
        split at hi
        · exact h2 i hi
        · rw [Bool.and_eq_true, decide_eq_true_eq] at hi
          rw [hi.1, h1]
          exact hb hi.2
      split at hs
      · rename_i hj
        simp at hs
        rcases hs with e | e
        · exact key _ e fun z => by cases z
        · exact key _ e fun _ => hj
      · simp at hs
        exact key _ hs fun z => by cases z
    · rintro ⟨h1, h2⟩
      obtain ⟨t, b, rfl⟩ : ∃ t b, s = t ++ [b] := by
        have hne : s ≠ [] := fun z => by rw [z] at h1; cases h1
        exact ⟨s.dropLast, s.getLast hne, (List.dropLast_concat_getLast hne).symm⟩
      have hl : t.length = j := by simpa using h1
      have ht : t ∈ stG o j := (stG_mem j t).mpr ⟨hl, fun i hi => h2 i (by
        rw [sB_snoc]
        by_cases c : i < t.length
        · rw [if_pos c]; exact hi
        · rw [sB_out (by omega)] at hi; cases hi)⟩
      unfold stG
      refine List.mem_flatMap.mpr ⟨t, ht, ?_⟩
      have hb : b = true → j ∈ brs o := fun e => h2 j (by rw [sB_snoc, if_neg (by omega), e]; simp [hl])
      split
      · cases b <;> simp
      · rename_i hj
        cases b with
        | true => exact absurd (hb rfl) hj
        | false => simp
theorem stG_good {o : List Nat} {s : List Bool} : s ∈ stG o o.length ↔ Good o s :=
  (stG_mem _ _).trans ⟨fun h => ⟨h.1, h.2⟩, fun h => ⟨h.len, h.br⟩⟩
/-! ### how many have a screen -/
def fitB (o l : List Nat) (j : Nat) (s : List Bool) : Bool := (List.range j).all fun i => !(decide (i ∈ brs o) && decide (i ∈ l)) || (sB s i == decide (i + 1 ∈ l))
theorem fit_succ {o l : List Nat} {j : Nat} {s : List Bool} (b : Bool) (h : s.length = j) : fitB o l (j + 1) (s ++ [b]) = (fitB o l j s && (!(decide (j ∈ brs o) && decide (j ∈ l)) || (b == decide (j + 1 ∈ l)))) := by
  unfold fitB
  rw [List.range_succ, List.all_append]
  congr 1
  · rw [Bool.eq_iff_iff, List.all_eq_true, List.all_eq_true]
    have e : ∀ i ∈ List.range j, sB (s ++ [b]) i = sB s i := fun i hi => by
      rw [sB_snoc, if_pos (by have := List.mem_range.mp hi; omega)]
    constructor
    · intro q i hi
      have := q i hi
      rw [e i hi] at this
      exact this
    · intro q i hi
      rw [e i hi]
      exact q i hi
  · simp [sB_snoc, h]
def hidN (o l : List Nat) (j : Nat) : Nat := ((List.range j).filter fun i => decide (i ∈ brs o) && !decide (i ∈ l)).length
theorem hid_succ (o l : List Nat) (j : Nat) : hidN o l (j + 1) = hidN o l j + if j ∈ brs o ∧ j ∉ l then 1 else 0 := by
  unfold hidN
  rw [List.range_succ, List.filter_append, List.length_append]
  congr 1
  rw [List.filter_cons]
  by_cases h1 : j ∈ brs o <;> by_cases h2 : j ∈ l <;> simp [h1, h2]
theorem countP_flat {α β : Type} (f : α → List β) (p : β → Bool) (q : α → Bool) (c : Nat) : ∀ l : List α, (∀ x ∈ l, (f x).countP p = if q x = true then c else 0) → (l.flatMap f).countP p = c * l.countP q
  | [], _ => by simp
  | x :: l, h => by
    have h1 := h x (by simp)
    have h2 := countP_flat f p q c l fun y hy => h y (List.mem_cons_of_mem _ hy)
    rw [List.flatMap_cons, List.countP_append, h1, h2, List.countP_cons]
    by_cases e : q x = true
    · rw [if_pos e, if_pos e, Nat.mul_add]
      omega
    · rw [if_neg e, if_neg e]
      simp
theorem count_fit (o l : List Nat) : ∀ j : Nat, (stG o j).countP (fitB o l j) = 2 ^ hidN o l j
  | 0 => rfl
  | j + 1 => by
    have ih := count_fit o l j
    unfold stG
    rw [countP_flat _ _ (fitB o l j) (if j ∈ brs o ∧ j ∉ l then 2 else 1) _ fun s hs => ?_, ih, hid_succ]
    · by_cases c : j ∈ brs o ∧ j ∉ l
      · rw [if_pos c, if_pos c, Nat.pow_succ, Nat.mul_comm]
      · rw [if_neg c, if_neg c, Nat.one_mul, Nat.add_zero]
    · have hl := stG_len j s hs
      by_cases h1 : j ∈ brs o
      · rw [if_pos h1]
        rw [List.countP_cons, List.countP_cons, List.countP_nil, fit_succ _ hl, fit_succ _ hl]
        by_cases h2 : j ∈ l <;> by_cases h3 : j + 1 ∈ l <;> cases h4 : fitB o l j s <;> simp [h1, h2, h3]
      · rw [if_neg h1]
        rw [List.countP_cons, List.countP_nil, fit_succ _ hl]
        cases h4 : fitB o l j s <;> simp [h1]
theorem vis_shown {o : List Nat} {s : List Bool} {i : Nat} (h : i < o.length) : vis o s i = decide (i ∈ shown o s) := by
  rw [Bool.eq_iff_iff, decide_eq_true_eq, mem_shown]
  exact ⟨fun q => ⟨h, q⟩, fun q => q.2⟩
theorem shown_fit {o : List Nat} (O : Out o) {s t : List Bool} : shown o s = shown o t ↔ fitB o (shown o t) o.length s = true := by
  have child : ∀ (u : List Bool) (i : Nat), i ∈ brs o → i ∈ shown o u → sB u i = decide (i + 1 ∈ shown o u) := by
    intro u i hb hv
    obtain ⟨h1, h2⟩ := br_child O hb
    rw [Bool.eq_iff_iff, decide_eq_true_eq, mem_shown, vis_some h2, (mem_shown.mp hv).2, Bool.and_true]
    exact ⟨fun q => ⟨h1, q⟩, fun q => q.2⟩
  unfold fitB
  rw [List.all_eq_true]
  constructor
  · intro e i hi
    by_cases hb : i ∈ brs o
    · by_cases hv : i ∈ shown o t
      · have := child s i hb (e ▸ hv)
        rw [this, e]
        simp
      · simp [hv]
    · simp [hb]
  · intro q
    have key : ∀ i, i < o.length → vis o s i = vis o t i := by
      intro i
      induction i using Nat.strongRecOn with
      | ind i ih =>
        intro hi
        cases h : par o i with
        | none => rw [vis_none h, vis_none h]
        | some p =>
          have hp := (par_lt h).1
          have hb := par_br O hi h
          rw [vis_some h, vis_some h, ih p hp (by omega)]
          cases hv : vis o t p with
          | false => simp
          | true =>
            have m : p ∈ shown o t := mem_shown.mpr ⟨by omega, hv⟩
            have z := q p (List.mem_range.mpr (by omega))
            have z2 := child t p hb m
            simp [hb, m] at z
            rw [z, z2]
    unfold shown
    exact List.filter_congr fun i hi => key i (List.mem_range.mp hi)
/-! ### dicts of counts -/
abbrev CT := List (List Nat × Nat)
def encCT (c : List Nat × Nat) : PyData × PyData := (tN c.1, encN c.2)
def lookC : CT → List Nat → Option Nat
  | [], _ => none
  | (a, v) :: r, k => if a = k then some v else lookC r k
def putC : CT → List Nat → Nat → CT
  | [], k, v => [(k, v)]
  | (a, u) :: r, k, v => if a = k then (a, v) :: r else (a, u) :: putC r k v
theorem eqD_tN (a b : List Nat) : eqD (tN a) (tN b) = decide (a = b) := by
  show eqD (.tuple (a.map encN)) (.tuple (b.map encN)) = _
  rw [eqD, eqDs_nat]
theorem dlook_enc (k : List Nat) : ∀ kvs : CT, dlook (kvs.map encCT) (tN k) = (lookC kvs k).map encN
  | [] => rfl
  | (a, v) :: r => by
    rw [List.map_cons]
    unfold dlook lookC encCT
    simp only [eqD_tN]
    by_cases h : a = k
    · simp [h]
    · rw [if_neg h, if_neg (by simpa using h)]
      exact dlook_enc k r
theorem dput_enc (k : List Nat) (v : Nat) : ∀ kvs : CT, dput (kvs.map encCT) (tN k) (encN v) = (putC kvs k v).map encCT
  | [] => rfl
  | (a, u) :: r => by
    rw [List.map_cons]
    unfold dput putC encCT
    simp only [eqD_tN]
    by_cases h : a = k
    · simp [h]
    · rw [if_neg h, if_neg (by simpa using h), List.map_cons]
      congr 1
      exact dput_enc k v r
theorem look_put (k : List Nat) (v : Nat) (k' : List Nat) : ∀ kvs : CT, lookC (putC kvs k v) k' = if k' = k then some v else lookC kvs k'
  | [] => by
    unfold putC lookC lookC
    by_cases h : k' = k
    · simp [h]
    · rw [if_neg h, if_neg (fun z => h z.symm)]
  | (a, u) :: r => by
    unfold putC
    by_cases h : a = k
    · rw [if_pos h]
      unfold lookC
      by_cases h' : k' = k
      · rw [if_pos h', if_pos (by rw [h, h'])]
      · rw [if_neg h', if_neg (by rw [h]; exact fun z => h' z.symm), if_neg (by rw [h]; exact fun z => h' z.symm)]
    · rw [if_neg h]
      unfold lookC
      rw [look_put k v k' r]
      by_cases h' : k' = k
      · rw [if_neg (by rw [h']; exact h), if_pos h', if_pos h']
      · rw [if_neg h', if_neg h']
theorem putC_len (k : List Nat) (v : Nat) : ∀ kvs : CT, (putC kvs k v).length ≤ kvs.length + 1
  | [] => by simp [putC]
  | (a, u) :: r => by
    unfold putC
    split
    · simp
    · have := putC_len k v r
      simp
      omega
def bumpC (kvs : CT) (k : List Nat) : CT := putC kvs k ((lookC kvs k).getD 0 + 1)
def cntC (ks : List (List Nat)) : CT := ks.foldl bumpC []
theorem cntC_snoc (ks : List (List Nat)) (k : List Nat) : cntC (ks ++ [k]) = bumpC (cntC ks) k := by
  unfold cntC
  rw [List.foldl_append]
  rfl
theorem fold_len : ∀ (ks : List (List Nat)) (kvs : CT), (ks.foldl bumpC kvs).length ≤ kvs.length + ks.length
  | [], kvs => by simp
  | k :: ks, kvs => by
    have h1 := fold_len ks (bumpC kvs k)
    have h2 := putC_len k ((lookC kvs k).getD 0 + 1) kvs
    rw [List.foldl_cons, List.length_cons]
    unfold bumpC at h1 ⊢
    omega
theorem cntC_len (ks : List (List Nat)) : (cntC ks).length ≤ ks.length := by
  have := fold_len ks []
  simpa [cntC] using this
theorem look_cnt (k : List Nat) : ∀ (ks : List (List Nat)) (kvs : CT), lookC (ks.foldl bumpC kvs) k = if k ∈ ks then some ((lookC kvs k).getD 0 + ks.count k) else lookC kvs k
  | [], kvs => by simp
  | a :: ks, kvs => by
    rw [List.foldl_cons, look_cnt k ks (bumpC kvs a)]
    unfold bumpC
    rw [look_put]
    by_cases h : k = a
    · subst h
      simp
      by_cases h2 : k ∈ ks
      · rw [if_pos h2]
        congr 1
        omega
      · rw [if_neg h2, List.count_eq_zero_of_not_mem h2]
    · have hc : (a :: ks).count k = ks.count k := by
        rw [List.count_cons]
        have : (a == k) = false := by simpa using fun z : a = k => h z.symm
        rw [this]
        rfl
      rw [if_neg h, hc]
      simp [h]
theorem cnt_look (k : List Nat) (ks : List (List Nat)) : lookC (cntC ks) k = if k ∈ ks then some (ks.count k) else none := by
  unfold cntC
  rw [look_cnt]
  simp [lookC]
theorem look_keys (k : List Nat) : ∀ kvs : CT, k ∈ kvs.map (·.1) ↔ lookC kvs k ≠ none
  | [] => by simp [lookC]
  | (a, v) :: r => by
    unfold lookC
    rw [List.map_cons, List.mem_cons, look_keys k r]
    by_cases h : a = k
    · simp [h]
    · rw [if_neg h]
      constructor
      · rintro (e | e)
        · exact absurd e.symm h
        · exact e
      · exact .inr
theorem cnt_keys (k : List Nat) (ks : List (List Nat)) : k ∈ (cntC ks).map (·.1) ↔ k ∈ ks := by
  rw [look_keys, cnt_look]
  by_cases h : k ∈ ks <;> simp [h]
/-! ### sorted keys -/
theorem insT_permR (x : List Int) : ∀ ys, (insT x ys).Perm (x :: ys)
  | [] => List.Perm.refl _
  | y :: ys => by
    unfold insT
    split
    · exact List.Perm.refl _
    · exact ((insT_permR x ys).cons y).trans (List.Perm.swap x y ys)
theorem sortT_permR : ∀ xs, (sortT xs).Perm xs
  | [] => List.Perm.refl _
  | x :: xs => (insT_permR x (sortT xs)).trans ((sortT_permR xs).cons x)
theorem tI_tN (l : List Nat) : tI (l.map fun k : Nat => (k : Int)) = tN l := by
  unfold tI
  rw [List.map_map]
  rfl
theorem allI_enc : ∀ l : List Nat, allI (l.map encN) = some (l.map fun k : Nat => (k : Int))
  | [] => rfl
  | k :: l => by
    rw [List.map_cons, List.map_cons]
    unfold allI
    rw [allI_enc l]
    rfl
theorem allT_enc : ∀ ls : List (List Nat), allT (ls.map tN) = some (ls.map fun l => l.map fun k : Nat => (k : Int))
  | [] => rfl
  | l :: ls => by
    rw [List.map_cons, List.map_cons]
    unfold allT
    have : intsOf (tN l) = some (l.map fun k : Nat => (k : Int)) := allI_enc l
    rw [this, allT_enc ls]
theorem sort_enc (ls : List (List Nat)) : ∃ L : List (List Nat), (sortT (ls.map fun l => l.map fun k : Nat => (k : Int))).map tI = L.map tN ∧ L.Perm ls := by
  have p := sortT_permR (ls.map fun l => l.map fun k : Nat => (k : Int))
  have p2 := p.map fun l : List Int => l.map Int.toNat
  rw [List.map_map] at p2
  have e : ((fun l : List Int => l.map Int.toNat) ∘ fun l : List Nat => l.map fun k : Nat => (k : Int)) = id := by
    funext l
    show (l.map fun k : Nat => (k : Int)).map Int.toNat = l
    rw [List.map_map]
    have : (Int.toNat ∘ fun k : Nat => (k : Int)) = id := by
      funext k
      rfl
    rw [this, List.map_id]
  rw [e, List.map_id] at p2
  refine ⟨_, ?_, p2⟩
  rw [List.map_map]
  refine List.map_congr_left fun l hl => ?_
  obtain ⟨l', h1, h2⟩ := List.mem_map.mp (p.mem_iff.mp hl)
  subst h2
  show tI _ = tN ((l'.map fun k : Nat => (k : Int)).map Int.toNat)
  rw [List.map_map, tI_tN]
  have : (Int.toNat ∘ fun k : Nat => (k : Int)) = id := by
    funext k
    rfl
  rw [this, List.map_id]
theorem sorted_enc (kvs : CT) (h : ∀ c ∈ kvs, c.1 ≠ []) : ∃ L : List (List Nat), biD .sorted [mkD true (kvs.map encCT)] = .ok (.fr (L.map tN)) ∧ L.Perm (kvs.map (·.1)) := by
  obtain ⟨L, h1, h2⟩ := sort_enc (kvs.map (·.1))
  refine ⟨L, ?_, h2⟩
  show (R.of (allT ((kvs.map encCT).map (·.1)))).bind (fun ks => if ks.all (fun n => !n.isEmpty) then R.ok (Val.fr ((sortT ks).map tI)) else .stuck) = _
  have e : (kvs.map encCT).map (·.1) = (kvs.map (·.1)).map tN := by
    rw [List.map_map, List.map_map]
    rfl
  rw [e, allT_enc, R.of_some, R.bind_ok, if_pos, h1]
  rw [List.all_eq_true]
  intro x hx
  obtain ⟨l, hl, rfl⟩ := List.mem_map.mp hx
  obtain ⟨c, hc, rfl⟩ := List.mem_map.mp hl
  have := h c hc
  cases q : c.1 with
  | nil => exact absurd q this
  | cons _ _ => rfl
theorem zero_shown {o : List Nat} (O : Out o) (s : List Bool) : 0 ∈ shown o s := by
  refine mem_shown.mpr ⟨O.pos, vis_none ?_⟩
  cases h : par o 0 with
  | none => rfl
  | some p => exact absurd (par_lt h).1 (Nat.not_lt_zero _)
/-! ### places -/
theorem findD_enc (k : Nat) : ∀ l : List Nat, k ∈ l → findD (encN k) (l.map encN) = some (l.idxOf k)
  | [], h => by cases h
  | a :: l, h => by
    rw [List.map_cons]
    unfold findD
    rw [List.idxOf_cons]
    have e : eqD (encN a) (encN k) = (a == k) := by
      rw [Bool.eq_iff_iff]
      simp [encN, eqD]
      omega
    rw [e]
    by_cases c : a = k
    · simp [c]
    · have c' : (a == k) = false := by simpa using c
      rw [c', findD_enc k l (by
        rcases List.mem_cons.mp h with h | h
        · exact absurd h.symm c
        · exact h)]
      rfl
/-- the place of k, or none -/
def ixS (l : List Nat) (k : Nat) : PyData := if k ∈ l then encN (l.idxOf k) else .none
theorem meth_ixT {l : List Nat} {k : Nat} (h : k ∈ l) : methD .index (.tuple (l.map encN)) [encN k] = .ok (.fz (encN (l.idxOf k))) := by
  show (if flatD (encN k) && (l.map encN).all flatD then (R.of (findD (encN k) (l.map encN))).bind fun j => R.ok (Val.fz (.int j)) else .stuck) = _
  rw [flat_nat, findD_enc k l h]
  rfl
/-- is it a screen? -/
def scrB (o l : List Nat) : Bool := l.all (fun x => decide (x < o.length)) && decide (shown o (scrState o l) = l)
theorem scrState_good (o l : List Nat) : Good o (scrState o l) := by
  refine ⟨by unfold scrState; simp, fun i h => ?_⟩
  by_cases hi : i < o.length
  · rw [scrState_get hi] at h
    simp at h
    exact h.1
  · rw [sB_out (by unfold scrState; simp; omega)] at h
    cases h
theorem scrB_iff {o : List Nat} (O : Out o) (l : List Nat) : scrB o l = true ↔ ∃ s, Good o s ∧ shown o s = l := by
  unfold scrB
  rw [Bool.and_eq_true, List.all_eq_true, decide_eq_true_eq]
  constructor
  · rintro ⟨_, h⟩
    exact ⟨_, scrState_good o l, h⟩
  · rintro ⟨s, G, rfl⟩
    exact ⟨fun x hx => by simpa using (mem_shown.mp hx).1, shown_screen O s⟩
theorem look_all {o : List Nat} (O : Out o) (l : List Nat) : lookC (cntC ((stG o o.length).map (shown o))) l = if scrB o l = true then some (2 ^ hidN o l o.length) else none := by
  rw [cnt_look]
  have e : l ∈ (stG o o.length).map (shown o) ↔ scrB o l = true := by
    rw [scrB_iff O, List.mem_map]
    exact ⟨fun ⟨s, h1, h2⟩ => ⟨s, stG_good.mp h1, h2⟩, fun ⟨s, h1, h2⟩ => ⟨s, stG_good.mpr h1, h2⟩⟩
  by_cases h : scrB o l = true
  · rw [if_pos h, if_pos (e.mpr h)]
    obtain ⟨t, G, rfl⟩ := (scrB_iff O l).mp h
    congr 1
    rw [← count_fit, List.count_eq_countP, List.countP_map]
    refine List.countP_congr fun s hs => ?_
    show (shown o s == shown o t) = true ↔ _
    rw [beq_iff_eq]
    exact shown_fit O
  · rw [if_neg h, if_neg (fun z => h (e.mp z))]
theorem look_str0 : ∀ kvs : CT, dlook (kvs.map encCT) (.tuple [.str "0"]) = none
  | [] => rfl
  | (a, v) :: r => by
    rw [List.map_cons]
    unfold dlook encCT
    have e : eqD (tN a) (.tuple [.str "0"]) = false := by
      cases a with
      | nil => simp [eqD, eqDs]
      | cons x t => simp [eqD, eqDs]
    simp only [e]
    exact look_str0 r
/-! ### a for as a step -/
theorem for_seq {cl : Cl} {gb : Gb} {tg : Tg} {src : E} {body : S} {env e1 e2 : Env} {v : Val} {xs : List PyData} (h1 : (ev cl gb src).v env = .ok (v, e1)) (h2 : v.frz = .fz (.list xs)) (h3 : xs.length ≤ 100000) (h4 : forL (exS cl gb body) tg xs e1 = .ok (.next, e2)) : exS cl gb (.for_ tg .seq src body) env = .ok (.next, e2) := by
  rw [exS_for, itE_seq, h1]
  simp only [R.bind_ok, h2, items_seq_list]
  rw [if_pos (show xs.length ≤ cap from h3)]
  exact h4
theorem for_rng {cl : Cl} {gb : Gb} {tg : Tg} {src : E} {body : S} {env e1 e2 : Env} {vs : List Val} {ds xs : List PyData} (h1 : (ev cl gb src).a env = .ok (vs, e1)) (h2 : fzAll vs = some ds) (h0 : itemsD .rng ds = .ok xs) (h3 : xs.length ≤ 100000) (h4 : forL (exS cl gb body) tg xs e1 = .ok (.next, e2)) : exS cl gb (.for_ tg .rng src body) env = .ok (.next, e2) := by
  rw [exS_for, itE_rng, h1]
  simp only [R.bind_ok, h2, R.of_some, h0]
  rw [if_pos (show xs.length ≤ cap from h3)]
  exact h4
end MP

/-! Mini, part S: how often each item is clicked on a shortest way. Plain Lean. -/
set_option linter.all false
set_option maxRecDepth 100000
namespace MP
open PySem (PyData Str)
/-- something below the item differs -/
def dif (o : List Nat) (s e : List Bool) (i : Nat) : Bool := (List.range o.length).any fun k => decide (i ∈ abv o k) && (sB s k != sB e k)
theorem dif_iff {o : List Nat} {s e : List Bool} {i : Nat} : dif o s e i = true ↔ ∃ k, k < o.length ∧ i ∈ abv o k ∧ sB s k ≠ sB e k := by
  unfold dif
  rw [List.any_eq_true]
  constructor
  · rintro ⟨k, hk, h⟩
    rw [Bool.and_eq_true, decide_eq_true_eq] at h
    exact ⟨k, List.mem_range.mp hk, h.1, by simpa using h.2⟩
  · rintro ⟨k, hk, h1, h2⟩
    exact ⟨k, List.mem_range.mpr hk, by rw [Bool.and_eq_true, decide_eq_true_eq]; exact ⟨h1, by simpa using h2⟩⟩
theorem dif_comm (o : List Nat) (s e : List Bool) (i : Nat) : dif o s e i = dif o e s i := by
  rw [Bool.eq_iff_iff, dif_iff, dif_iff]
  exact ⟨fun ⟨k, a, b, c⟩ => ⟨k, a, b, Ne.symm c⟩, fun ⟨k, a, b, c⟩ => ⟨k, a, b, Ne.symm c⟩⟩
/-- the clicks on an item -/
def cnt (o : List Nat) (s e : List Bool) (i : Nat) : Nat := if sB s i ≠ sB e i then 1 else if sB s i = false ∧ dif o s e i = true then 2 else 0
theorem cnt_comm (o : List Nat) (s e : List Bool) (i : Nat) : cnt o s e i = cnt o e s i := by
  unfold cnt
  by_cases h : sB s i = sB e i
  · rw [if_neg (show ¬ (sB s i ≠ sB e i) from fun z => z h), if_neg (show ¬ (sB e i ≠ sB s i) from fun z => z h.symm), dif_comm, h]
  · rw [if_pos h, if_pos (Ne.symm h)]
def cost (o : List Nat) (s e : List Bool) : Nat := ((List.range o.length).map (cnt o s e)).sum
theorem cost_comm (o : List Nat) (s e : List Bool) : cost o s e = cost o e s := by
  unfold cost
  rw [List.map_congr_left fun i _ => cnt_comm o s e i]
theorem cnt_le (o : List Nat) (s e : List Bool) (i : Nat) : cnt o s e i ≤ 2 := by
  unfold cnt
  split
  · omega
  · split <;> omega
theorem sum_le (f : Nat → Nat) (c : Nat) : ∀ l : List Nat, (∀ i ∈ l, f i ≤ c) → (l.map f).sum ≤ c * l.length
  | [], _ => by simp
  | i :: l, h => by
    have h1 := h i (by simp)
    have h2 := sum_le f c l fun j hj => h j (List.mem_cons_of_mem _ hj)
    rw [List.map_cons, List.sum_cons, List.length_cons, Nat.mul_succ]
    omega
theorem cost_le (o : List Nat) (s e : List Bool) : cost o s e ≤ 2 * o.length := by
  have := sum_le (cnt o s e) 2 (List.range o.length) fun i _ => cnt_le o s e i
  rw [List.length_range] at this
  exact this
theorem sum_zero (f : Nat → Nat) : ∀ l : List Nat, (l.map f).sum = 0 ↔ ∀ i ∈ l, f i = 0
  | [] => by simp
  | i :: l => by
    rw [List.map_cons, List.sum_cons]
    have := sum_zero f l
    constructor
    · intro h j hj
      rcases List.mem_cons.mp hj with rfl | hj
      · omega
      · exact this.mp (by omega) j hj
    · intro h
      have h1 := h i (by simp)
      have h2 := this.mpr fun j hj => h j (List.mem_cons_of_mem _ hj)
      omega
theorem good_ext {o : List Nat} {s e : List Bool} (hs : s.length = o.length) (he : e.length = o.length) (h : ∀ i, i < o.length → sB s i = sB e i) : s = e := by
  apply List.ext_getElem?
  intro i
  by_cases hi : i < o.length
  · rw [sB_get (by omega), sB_get (by omega), h i hi]
  · rw [List.getElem?_eq_none (by omega), List.getElem?_eq_none (by omega)]
theorem cost_zero {o : List Nat} {s e : List Bool} (hs : s.length = o.length) (he : e.length = o.length) : cost o s e = 0 ↔ s = e := by
  unfold cost
  rw [sum_zero]
  constructor
  · intro h
    refine good_ext hs he fun i hi => ?_
    have := h i (List.mem_range.mpr hi)
    unfold cnt at this
    by_cases c : sB s i = sB e i
    · exact c
    · rw [if_pos c] at this
      cases this
  · rintro rfl i hi
    unfold cnt
    rw [if_neg (by simp), if_neg]
    rintro ⟨_, h⟩
    obtain ⟨k, _, _, h⟩ := dif_iff.mp h
    exact h rfl
/-- sums that differ at one place -/
theorem sum_one (f g : Nat → Nat) (i : Nat) : ∀ l : List Nat, l.Nodup → i ∈ l → (∀ j ∈ l, j ≠ i → f j = g j) → (l.map f).sum + g i = (l.map g).sum + f i
  | [], _, h, _ => by cases h
  | j :: l, nd, h, q => by
    rw [List.nodup_cons] at nd
    rw [List.map_cons, List.map_cons, List.sum_cons, List.sum_cons]
    by_cases hj : j = i
    · subst hj
      have : l.map f = l.map g := List.map_congr_left fun k hk => q k (List.mem_cons_of_mem _ hk) fun z => nd.1 (z ▸ hk)
      rw [this]
      omega
    · have hi : i ∈ l := by
        rcases List.mem_cons.mp h with h | h
        · exact absurd h.symm hj
        · exact h
      have := sum_one f g i l nd.2 hi fun k hk => q k (List.mem_cons_of_mem _ hk)
      have h2 := q j (by simp) hj
      omega
theorem sB_set {s : List Bool} {i k : Nat} {b : Bool} (hi : i < s.length) : sB (s.set i b) k = if k = i then b else sB s k := by
  unfold sB
  rw [List.getD_eq_getElem?_getD, List.getD_eq_getElem?_getD]
  by_cases h : k = i
  · subst h
    rw [List.getElem?_set_self hi, if_pos rfl]
    rfl
  · rw [List.getElem?_set_ne (Ne.symm h), if_neg h]
theorem vis_all {o : List Nat} {s : List Bool} {i : Nat} : vis o s i = true ↔ ∀ a ∈ abv o i, sB s a = true := by
  unfold vis
  rw [List.all_eq_true]
theorem abv_trans {o : List Nat} : ∀ (k i j : Nat), i ∈ abv o k → j ∈ abv o i → j ∈ abv o k := by
  intro k
  induction k using Nat.strongRecOn with
  | ind k ih =>
    intro i j hi hj
    cases h : par o k with
    | none => rw [abv_none h] at hi; cases hi
    | some p =>
      rw [abv_some h] at hi ⊢
      rcases List.mem_cons.mp hi with rfl | hi
      · exact List.mem_cons_of_mem _ hj
      · exact List.mem_cons_of_mem _ (ih p (par_lt h).1 i j hi hj)
/-- a click changes one place's clicks alone -/
theorem cnt_other {o : List Nat} {s e : List Bool} {i j : Nat} {b : Bool} (hl : s.length = o.length) (hi : i < o.length) (hv : vis o s i = true) (hj : j ≠ i) : cnt o (s.set i b) e j = cnt o s e j := by
  unfold cnt
  rw [sB_set (by omega), if_neg hj]
  by_cases h1 : sB s j = sB e j
  · rw [if_neg (show ¬ (sB s j ≠ sB e j) from fun z => z h1), if_neg (show ¬ (sB s j ≠ sB e j) from fun z => z h1)]
    by_cases h2 : sB s j = false
    · have : dif o (s.set i b) e j = dif o s e j := by
        have hn : j ∉ abv o i := fun z => by
          rw [vis_all.mp hv j z] at h2
          cases h2
        rw [Bool.eq_iff_iff, dif_iff, dif_iff]
        constructor
        · rintro ⟨k, a, c, d⟩
          have : k ≠ i := fun z => hn (z ▸ c)
          rw [sB_set (by omega), if_neg this] at d
          exact ⟨k, a, c, d⟩
        · rintro ⟨k, a, c, d⟩
          have : k ≠ i := fun z => hn (z ▸ c)
          exact ⟨k, a, c, by rw [sB_set (by omega), if_neg this]; exact d⟩
      rw [this]
    · rw [if_neg (fun z => h2 z.1), if_neg (fun z => h2 z.1)]
  · rw [if_pos h1, if_pos h1]
theorem cost_click {o : List Nat} {s e : List Bool} {i : Nat} {b : Bool} (hl : s.length = o.length) (hi : i < o.length) (hv : vis o s i = true) : cost o (s.set i b) e + cnt o s e i = cost o s e + cnt o (s.set i b) e i := by
  exact sum_one _ _ i _ List.nodup_range (List.mem_range.mpr hi) fun j _ hj => cnt_other hl hi hv hj
theorem dif_set {o : List Nat} {s e : List Bool} {i : Nat} {b : Bool} (hl : s.length = o.length) (hi : i < o.length) : dif o (s.set i b) e i = dif o s e i := by
  rw [Bool.eq_iff_iff, dif_iff, dif_iff]
  have ne : ∀ k, i ∈ abv o k → k ≠ i := fun k h z => by
    subst z
    exact Nat.lt_irrefl _ (abv_lt _ _ h)
  constructor
  · rintro ⟨k, a, c, d⟩
    rw [sB_set (by omega), if_neg (ne k c)] at d
    exact ⟨k, a, c, d⟩
  · rintro ⟨k, a, c, d⟩
    exact ⟨k, a, c, by rw [sB_set (by omega), if_neg (ne k c)]; exact d⟩
/-- one click more or less -/
theorem cost_step {o : List Nat} {s e : List Bool} {i : Nat} (hl : s.length = o.length) (hi : i < o.length) (hv : vis o s i = true) : cost o (s.set i (!sB s i)) e = cost o s e + 1 ∨ cost o (s.set i (!sB s i)) e + 1 = cost o s e := by
  have h := cost_click (e := e) (b := !sB s i) hl hi hv
  have d := dif_set (s := s) (e := e) (b := !sB s i) hl hi
  have c1 : cnt o s e i = if sB s i ≠ sB e i then 1 else if sB s i = false ∧ dif o s e i = true then 2 else 0 := rfl
  have c2 : cnt o (s.set i (!sB s i)) e i = if (!sB s i) ≠ sB e i then 1 else if (!sB s i) = false ∧ dif o s e i = true then 2 else 0 := by
    unfold cnt
    rw [d, sB_set (by omega), if_pos rfl]
  cases h1 : sB s i <;> cases h2 : sB e i <;> cases h3 : dif o s e i <;> simp [h1, h2, h3] at c1 c2 <;> simp only [h1, Bool.not_true, Bool.not_false] at h ⊢ <;> omega
/-- the item on the way down -/
theorem child_on {o : List Nat} {i : Nat} : ∀ k, i ∈ abv o k → ∃ c, par o c = some i ∧ (c = k ∨ c ∈ abv o k) := by
  intro k
  induction k using Nat.strongRecOn with
  | ind k ih =>
    intro h
    cases hp : par o k with
    | none => rw [abv_none hp] at h; cases h
    | some p =>
      rw [abv_some hp] at h ⊢
      rcases List.mem_cons.mp h with rfl | h
      · exact ⟨k, hp, .inl rfl⟩
      · obtain ⟨c, h1, h2⟩ := ih p (par_lt hp).1 h
        refine ⟨c, h1, .inr ?_⟩
        rcases h2 with rfl | h2
        · exact List.mem_cons_self ..
        · exact List.mem_cons_of_mem _ h2
theorem abv_le {o : List Nat} {i k : Nat} (h : i ∈ abv o k) : i < k := abv_lt k i h
/-- where there is work, a click helps -/
theorem descend {o : List Nat} (O : Out o) {s e : List Bool} (Gs : Good o s) (Ge : Good o e) : ∀ (d i : Nat), o.length - i = d → i < o.length → vis o s i = true → (sB s i ≠ sB e i ∨ dif o s e i = true) → ∃ j, j ∈ brs o ∧ j ∈ shown o s ∧ cost o (s.set j (!sB s j)) e + 1 = cost o s e := by
  intro d
  induction d using Nat.strongRecOn with
  | ind d ih =>
    intro i hd hi hv hw
    have hl := Gs.len
    have hb : i ∈ brs o := by
      rcases hw with h | h
      · cases h1 : sB s i with
        | true => exact Gs.br i h1
        | false =>
          cases h2 : sB e i with
          | true => exact Ge.br i h2
          | false => rw [h1, h2] at h; exact absurd rfl h
      · obtain ⟨k, hk, h1, _⟩ := dif_iff.mp h
        obtain ⟨c, h2, h3⟩ := child_on k h1
        refine par_br O (i := c) ?_ h2
        rcases h3 with rfl | h3
        · exact hk
        · have := abv_le h3
          omega
    have hs : i ∈ shown o s := mem_shown.mpr ⟨hi, hv⟩
    have here : cnt o (s.set i (!sB s i)) e i + 1 = cnt o s e i → ∃ j, j ∈ brs o ∧ j ∈ shown o s ∧ cost o (s.set j (!sB s j)) e + 1 = cost o s e := fun h => ⟨i, hb, hs, by
      have := cost_click (e := e) (b := !sB s i) hl hi hv
      omega⟩
    have c1 : cnt o s e i = if sB s i ≠ sB e i then 1 else if sB s i = false ∧ dif o s e i = true then 2 else 0 := rfl
    have c2 : cnt o (s.set i (!sB s i)) e i = if (!sB s i) ≠ sB e i then 1 else if (!sB s i) = false ∧ dif o s e i = true then 2 else 0 := by
      unfold cnt
      rw [dif_set hl hi, sB_set (by omega), if_pos rfl]
    cases h1 : sB s i with
    | true =>
      cases h3 : dif o s e i with
      | true =>
        obtain ⟨k, hk, g1, g2⟩ := dif_iff.mp h3
        obtain ⟨c, g3, g4⟩ := child_on k g1
        have hc : c < o.length := by
          rcases g4 with rfl | g4
          · exact hk
          · have := abv_le g4; omega
        have hic := (par_lt g3).1
        have hlt : o.length - c < d := by rw [← hd]; exact Nat.sub_lt_sub_left hi hic
        refine ih _ hlt c rfl hc (by rw [vis_some g3, h1, hv]; rfl) ?_
        rcases g4 with rfl | g4
        · exact .inl g2
        · exact .inr (dif_iff.mpr ⟨k, hk, g4, g2⟩)
      | false =>
        have h2 : sB e i = false := by
          cases h2 : sB e i with
          | false => rfl
          | true => rw [h1, h2, h3] at hw; simp at hw
        refine here ?_
        rw [c1, c2, h1, h2, h3]
        simp
    | false =>
      refine here ?_
      cases h2 : sB e i with
      | true =>
        rw [c1, c2, h1, h2]
        simp
      | false =>
        have h3 : dif o s e i = true := by
          rw [h1, h2] at hw
          simpa using hw
        rw [c1, c2, h1, h2, h3]
        simp
theorem root_of {o : List Nat} : ∀ k, ∃ r, par o r = none ∧ (r = k ∨ r ∈ abv o k) := by
  intro k
  induction k using Nat.strongRecOn with
  | ind k ih =>
    cases hp : par o k with
    | none => exact ⟨k, hp, .inl rfl⟩
    | some p =>
      obtain ⟨r, h1, h2⟩ := ih p (par_lt hp).1
      refine ⟨r, h1, .inr ?_⟩
      rw [abv_some hp]
      rcases h2 with rfl | h2
      · exact List.mem_cons_self ..
      · exact List.mem_cons_of_mem _ h2
theorem helpful {o : List Nat} (O : Out o) {s e : List Bool} (Gs : Good o s) (Ge : Good o e) (h : s ≠ e) : ∃ j, j ∈ brs o ∧ j ∈ shown o s ∧ cost o (s.set j (!sB s j)) e + 1 = cost o s e := by
  have : ∃ k, k < o.length ∧ sB s k ≠ sB e k := by
    by_cases c : ∀ i, i < o.length → sB s i = sB e i
    · exact absurd (good_ext Gs.len Ge.len c) h
    · have : ∃ k, ¬ (k < o.length → sB s k = sB e k) := Classical.not_forall.mp c
      obtain ⟨k, hk⟩ := this
      exact ⟨k, Classical.not_imp.mp hk⟩
  obtain ⟨k, hk, hne⟩ := this
  obtain ⟨r, h1, h2⟩ := root_of (o := o) k
  have hr : r < o.length := by
    rcases h2 with rfl | h2
    · exact hk
    · have := abv_le h2; omega
  refine descend O Gs Ge _ r rfl hr (vis_none h1) ?_
  rcases h2 with rfl | h2
  · exact .inl hne
  · exact .inr (dif_iff.mpr ⟨k, hk, h2, hne⟩)
/-! ### children -/
def kd (o : List Nat) (i : Nat) : List Nat := (List.range o.length).filter fun k => decide (par o k = some i)
theorem mem_kd {o : List Nat} {i k : Nat} : k ∈ kd o i ↔ k < o.length ∧ par o k = some i := by
  unfold kd
  simp
def kdTo (o : List Nat) (m i : Nat) : List Nat := (List.range m).filter fun k => decide (par o k = some i)
theorem kdTo_succ (o : List Nat) (m i : Nat) : kdTo o (m + 1) i = kdTo o m i ++ if par o m = some i then [m] else [] := by
  unfold kdTo
  rw [List.range_succ, List.filter_append, List.filter_cons]
  by_cases h : par o m = some i <;> simp [h]
theorem addK_none (xss : List (List Nat)) (i : Nat) (ps : List PyData) : addK xss i (.none :: ps) = addK xss (i + 1) ps := rfl
theorem addK_some (xss : List (List Nat)) (i j : Nat) (ps : List PyData) : addK xss i (encN j :: ps) = if j < xss.length then addK (xss.set j (xss.getD j [] ++ [i])) (i + 1) ps else none := rfl
theorem addK_kd {o : List Nat} : ∀ (d m : Nat), m + d = o.length → addK ((List.range o.length).map (kdTo o m)) m (((List.range d).map fun k => m + k).map fun i => encO (par o i)) = some ((List.range o.length).map (kd o))
  | 0, m, h => by
    have : m = o.length := by omega
    subst this
    rfl
  | d + 1, m, h => by
    have ih := addK_kd (o := o) d (m + 1) (by omega)
    have e0 : (List.range (d + 1)).map (fun k => m + k) = m :: (List.range d).map (fun k => m + 1 + k) := by
      rw [List.range_succ_eq_map, List.map_cons, List.map_map]
      congr 1
      refine List.map_congr_left fun k _ => ?_
      show m + (k + 1) = m + 1 + k
      omega
    rw [e0, List.map_cons]
    have hk : ∀ i, i < o.length → (par o m ≠ some i) → kdTo o (m + 1) i = kdTo o m i := fun i _ hn => by
      rw [kdTo_succ, if_neg hn, List.append_nil]
    cases hp : par o m with
    | none =>
      show addK _ m (.none :: _) = _
      rw [addK_none, ← ih]
      congr 1
      refine List.map_congr_left fun i hi => (hk i (List.mem_range.mp hi) (by rw [hp]; simp)).symm
    | some j =>
      have hj : j < o.length := by
        have := (par_lt hp).1
        omega
      show addK _ m (encN j :: _) = _
      rw [addK_some, if_pos (by simpa using hj), ← ih]
      congr 1
      apply List.ext_getElem?
      intro i
      by_cases hi : i < o.length
      · rw [List.getElem?_map, List.getElem?_range hi]
        by_cases hij : j = i
        · subst hij
          rw [List.getElem?_set_self (by simpa using hj), List.getD_eq_getElem?_getD, List.getElem?_map, List.getElem?_range hj]
          show some (kdTo o m j ++ [m]) = some (kdTo o (m + 1) j)
          rw [kdTo_succ, if_pos hp]
        · rw [List.getElem?_set_ne hij, List.getElem?_map, List.getElem?_range hi]
          show some (kdTo o m i) = some (kdTo o (m + 1) i)
          rw [hk i hi (by rw [hp]; intro z; cases z; exact hij rfl)]
      · rw [List.getElem?_eq_none (by simpa using hi), List.getElem?_eq_none (by simpa using hi)]
theorem addK_all (o : List Nat) : addK (List.replicate o.length []) 0 ((List.range o.length).map fun i => encO (par o i)) = some ((List.range o.length).map (kd o)) := by
  have h := addK_kd (o := o) o.length 0 (by omega)
  have e1 : (List.range o.length).map (kdTo o 0) = List.replicate o.length [] := by
    apply List.ext_getElem?
    intro i
    by_cases hi : i < o.length
    · rw [List.getElem?_map, List.getElem?_range hi, List.getElem?_replicate, if_pos hi]
      rfl
    · rw [List.getElem?_eq_none (by simpa using hi), List.getElem?_eq_none (by simpa using hi)]
  rw [e1] at h
  have e2 : (List.range o.length).map (fun k => 0 + k) = List.range o.length := by simp
  rw [e2] at h
  exact h
/-- the clicked items below -/
theorem dif_child {o : List Nat} {s e : List Bool} {i : Nat} : dif o s e i = (kd o i).any fun c => decide (sB s c ≠ sB e c) || dif o s e c := by
  rw [Bool.eq_iff_iff, dif_iff, List.any_eq_true]
  constructor
  · rintro ⟨k, hk, h1, h2⟩
    obtain ⟨c, h3, h4⟩ := child_on k h1
    have hc : c < o.length := by
      rcases h4 with rfl | h4
      · exact hk
      · have := abv_le h4; omega
    refine ⟨c, mem_kd.mpr ⟨hc, h3⟩, ?_⟩
    rw [Bool.or_eq_true, decide_eq_true_eq]
    rcases h4 with rfl | h4
    · exact .inl h2
    · exact .inr (dif_iff.mpr ⟨k, hk, h4, h2⟩)
  · rintro ⟨c, hc, h⟩
    obtain ⟨h1, h2⟩ := mem_kd.mp hc
    rw [Bool.or_eq_true, decide_eq_true_eq] at h
    have hm : i ∈ abv o c := by
      rw [abv_some h2]
      exact List.mem_cons_self ..
    rcases h with h | h
    · exact ⟨c, h1, hm, h⟩
    · obtain ⟨k, hk, g1, g2⟩ := dif_iff.mp h
      exact ⟨k, hk, abv_trans k c i g1 hm, g2⟩
/-- the item itself, or something below, differs -/
def wq (o : List Nat) (s e : List Bool) (c : Nat) : Bool := decide (sB s c ≠ sB e c) || dif o s e c
theorem dif_wq {o : List Nat} {s e : List Bool} {i : Nat} : dif o s e i = (kd o i).any (wq o s e) := dif_child
theorem cnt_or (o : List Nat) (s e : List Bool) (c : Nat) : (decide (0 < cnt o s e c) || dif o s e c) = (decide (sB s c ≠ sB e c) || dif o s e c) := by
  unfold cnt
  cases h1 : sB s c <;> cases h2 : sB e c <;> cases h3 : dif o s e c <;> simp
theorem cnt_wq (o : List Nat) (s e : List Bool) (c : Nat) : wq o s e c = (decide (0 < cnt o s e c) || dif o s e c) := (cnt_or o s e c).symm
/-! ### [x] * n -/
theorem mulL_I (xs : List PyData) (k : Int) (h' : -(2 ^ 63) ≤ k ∧ k < 2 ^ 63 ∧ xs.length * k.toNat ≤ cap) : arith .mul (.list xs) (.int k) = .ok (.fr (List.replicate k.toNat xs).flatten) := if_pos h'
theorem mulL_flat {α : Type} (x : α) : ∀ k : Nat, (List.replicate k [x]).flatten = List.replicate k x
  | 0 => rfl
  | k + 1 => by
    rw [List.replicate_succ, List.flatten_cons, mulL_flat x k, List.replicate_succ]
    rfl
theorem mulL_one (x : PyData) (k : Nat) (hk : k ≤ 1000) : arith .mul (.list [x]) (.int (k : Int)) = .ok (.fr (List.replicate k x)) := by
  have h1 : k ≤ 100000 := by omega
  have hl : ([x] : List PyData).length * k ≤ 100000 := by
    rw [List.length_cons, List.length_nil, Nat.zero_add, Nat.one_mul]
    exact h1
  have e := mulL_I [x] (k : Int) ⟨by omega, by omega, by rw [Int.toNat_natCast, cap_num]; exact hl⟩
  rw [Int.toNat_natCast, mulL_flat] at e
  exact e
/-- the roots -/
def rts (o : List Nat) : List Nat := (List.range o.length).filter fun i => decide (gN o i = 0)
theorem mem_rts {o : List Nat} {i : Nat} : i ∈ rts o ↔ i < o.length ∧ gN o i = 0 := by
  unfold rts
  simp
end MP

/-! Mini, part U: subtrees, item by item; the list of clicks. Plain Lean. -/
set_option linter.all false
set_option maxRecDepth 100000
namespace MP
open PySem (PyData Str)
/-- is k in the subtree of i? -/
def subB (o : List Nat) (i k : Nat) : Bool := decide (k = i) || decide (i ∈ abv o k)
def subSum (o : List Nat) (g : Nat → Nat) (i : Nat) : Nat := ((List.range o.length).map fun k => if subB o i k = true then g k else 0).sum
theorem sum_add (f g : Nat → Nat) : ∀ l : List Nat, (l.map fun k => f k + g k).sum = (l.map f).sum + (l.map g).sum
  | [] => rfl
  | k :: l => by
    simp only [List.map_cons, List.sum_cons]
    rw [sum_add f g l]
    omega
theorem sum_swap (h : Nat → Nat → Nat) (R : List Nat) : ∀ L : List Nat, (L.map fun c => (R.map fun k => h c k).sum).sum = (R.map fun k => (L.map fun c => h c k).sum).sum
  | [] => by
    have : R.map (fun k => (([] : List Nat).map fun c => h c k).sum) = R.map fun _ => 0 := rfl
    rw [this]
    exact ((sum_zero (fun _ => 0) R).mpr fun _ _ => rfl).symm
  | c :: L => by
    rw [List.map_cons, List.sum_cons, sum_swap h R L]
    have : R.map (fun k => ((c :: L).map fun c => h c k).sum) = R.map fun k => h c k + (L.map fun c => h c k).sum := rfl
    rw [this, sum_add]
theorem sum_none (p : Nat → Bool) (x : Nat) : ∀ L : List Nat, (∀ c ∈ L, p c = false) → (L.map fun c => if p c = true then x else 0).sum = 0
  | [], _ => rfl
  | c :: L, h => by
    rw [List.map_cons, List.sum_cons, h c (by simp), sum_none p x L fun d hd => h d (List.mem_cons_of_mem _ hd)]
    rfl
theorem sum_uniq (p : Nat → Bool) (x c : Nat) : ∀ L : List Nat, L.Nodup → c ∈ L → p c = true → (∀ d ∈ L, p d = true → d = c) → (L.map fun c => if p c = true then x else 0).sum = x
  | [], _, h, _, _ => by cases h
  | d :: L, nd, hc, hp, hu => by
    rw [List.nodup_cons] at nd
    rw [List.map_cons, List.sum_cons]
    by_cases h : d = c
    · subst h
      rw [if_pos hp, sum_none p x L fun e he => by
        cases q : p e with
        | false => rfl
        | true => exact absurd (hu e (List.mem_cons_of_mem _ he) q ▸ he) nd.1]
      rfl
    · have : p d = false := by
        cases q : p d with
        | false => rfl
        | true => exact absurd (hu d (by simp) q) h
      rw [this, sum_uniq p x c L nd.2 (by
        rcases List.mem_cons.mp hc with hc | hc
        · exact absurd hc.symm h
        · exact hc) hp fun e he => hu e (List.mem_cons_of_mem _ he)]
      simp
theorem subB_iff {o : List Nat} {i k : Nat} : subB o i k = true ↔ k = i ∨ i ∈ abv o k := by
  unfold subB
  simp
/-- two in one chain: one lies over the other -/
theorem chain {o : List Nat} : ∀ (k a b : Nat), (a = k ∨ a ∈ abv o k) → (b = k ∨ b ∈ abv o k) → a = b ∨ a ∈ abv o b ∨ b ∈ abv o a := by
  intro k
  induction k using Nat.strongRecOn with
  | ind k ih =>
    intro a b ha hb
    rcases ha with rfl | ha
    · rcases hb with rfl | hb
      · exact .inl rfl
      · exact .inr (.inr hb)
    · rcases hb with rfl | hb
      · exact .inr (.inl ha)
      · cases hp : par o k with
        | none => rw [abv_none hp] at ha; cases ha
        | some p =>
          rw [abv_some hp] at ha hb
          exact ih p (par_lt hp).1 a b (List.mem_cons.mp ha) (List.mem_cons.mp hb)
theorem one_child {o : List Nat} {i k c d : Nat} (hc : par o c = some i) (hd : par o d = some i) (h1 : c = k ∨ c ∈ abv o k) (h2 : d = k ∨ d ∈ abv o k) : c = d := by
  have lt1 := (par_lt hc).1
  have lt2 := (par_lt hd).1
  rcases chain k c d h1 h2 with h | h | h
  · exact h
  · rw [abv_some hd] at h
    rcases List.mem_cons.mp h with h | h
    · omega
    · have := abv_lt _ _ h
      omega
  · rw [abv_some hc] at h
    rcases List.mem_cons.mp h with h | h
    · omega
    · have := abv_lt _ _ h
      omega
theorem kd_nodup (o : List Nat) (i : Nat) : (kd o i).Nodup := List.Pairwise.filter _ List.nodup_range
theorem kids_sum (o : List Nat) (g : Nat → Nat) (i : Nat) : ((kd o i).map (subSum o g)).sum = ((List.range o.length).map fun k => if i ∈ abv o k then g k else 0).sum := by
  have e : (kd o i).map (subSum o g) = (kd o i).map fun c => ((List.range o.length).map fun k => if subB o c k = true then g k else 0).sum := rfl
  rw [e, sum_swap (fun c k => if subB o c k = true then g k else 0)]
  congr 1
  refine List.map_congr_left fun k hk => ?_
  have hk := List.mem_range.mp hk
  by_cases h : i ∈ abv o k
  · rw [if_pos h]
    obtain ⟨c, h1, h2⟩ := child_on k h
    have hc : c < o.length := by
      rcases h2 with rfl | h2
      · exact hk
      · have := abv_le h2; omega
    refine sum_uniq (fun c => subB o c k) (g k) c _ (kd_nodup o i) (mem_kd.mpr ⟨hc, h1⟩) (subB_iff.mpr (h2.imp Eq.symm id)) fun d hd hp => ?_
    exact one_child (mem_kd.mp hd).2 h1 ((subB_iff.mp hp).imp Eq.symm id) h2
  · rw [if_neg h]
    refine sum_none (fun c => subB o c k) (g k) _ fun c hc => ?_
    obtain ⟨h1, h2⟩ := mem_kd.mp hc
    cases q : subB o c k with
    | false => rfl
    | true =>
      refine absurd ?_ h
      rcases subB_iff.mp q with rfl | q
      · rw [abv_some h2]
        exact List.mem_cons_self ..
      · exact abv_trans k c i q (by rw [abv_some h2]; exact List.mem_cons_self ..)
theorem sub_split {o : List Nat} {i : Nat} (g : Nat → Nat) (hi : i < o.length) : subSum o g i = g i + ((kd o i).map (subSum o g)).sum := by
  rw [kids_sum]
  unfold subSum
  have e : (List.range o.length).map (fun k => if subB o i k = true then g k else 0) = (List.range o.length).map fun k => (if decide (k = i) = true then g k else 0) + if i ∈ abv o k then g k else 0 := by
    refine List.map_congr_left fun k _ => ?_
    by_cases h : k = i
    · subst h
      have : k ∉ abv o k := fun z => Nat.lt_irrefl _ (abv_lt _ _ z)
      simp [subB, this]
    · by_cases h2 : i ∈ abv o k <;> simp [subB, h, h2]
  rw [e, sum_add]
  congr 1
  have e2 : (List.range o.length).map (fun k => if decide (k = i) = true then g k else 0) = (List.range o.length).map fun k => if decide (k = i) = true then g i else 0 := by
    refine List.map_congr_left fun k _ => ?_
    by_cases h : k = i
    · rw [h]
    · simp [h]
  rw [e2]
  exact sum_uniq (fun k => decide (k = i)) (g i) i _ List.nodup_range (List.mem_range.mpr hi) (by simp) fun d _ hd => by simpa using hd
/-- the clicks in a subtree -/
def partL (o : List Nat) (s e : List Bool) : Nat → Nat → List Nat
  | 0, _ => []
  | f + 1, i => if cnt o s e i = 2 then i :: ((kd o i).flatMap (partL o s e f) ++ [i]) else if cnt o s e i = 1 then (if sB s i = false then i :: (kd o i).flatMap (partL o s e f) else (kd o i).flatMap (partL o s e f) ++ [i]) else (kd o i).flatMap (partL o s e f)
theorem part_len {o : List Nat} (s e : List Bool) : ∀ (f i : Nat), o.length - i ≤ f → i < o.length → (partL o s e f i).length = subSum o (cnt o s e) i
  | 0, i, h1, h2 => by omega
  | f + 1, i, h1, h2 => by
    have ih := part_len (o := o) s e f
    have inner : ((kd o i).flatMap (partL o s e f)).length = ((kd o i).map (subSum o (cnt o s e))).sum := by
      rw [List.length_flatMap]
      congr 1
      refine List.map_congr_left fun c hc => ?_
      obtain ⟨g1, g2⟩ := mem_kd.mp hc
      have := (par_lt g2).1
      exact ih c (by omega) g1
    rw [sub_split _ h2, ← inner]
    unfold partL
    have hc := cnt_le o s e i
    split
    · rename_i h
      simp [h]
      omega
    · split
      · rename_i h
        split <;> simp [h] <;> omega
      · have : cnt o s e i = 0 := by omega
        rw [this]
        omega
end MP
namespace MP
open PySem (PyData Str)
theorem afterC_append (o : List Nat) : ∀ (cs ds : List (Bool × Nat)) (s : List Bool), afterC o s (cs ++ ds) = (afterC o s cs).bind fun t => afterC o t ds
  | [], ds, s => rfl
  | c :: cs, ds, s => by
    rw [List.cons_append]
    simp only [afterC]
    cases stepC o s c with
    | none => rfl
    | some t => exact afterC_append o cs ds t
/-- a root has no parent -/
theorem par_root {o : List Nat} (O : Out o) {i : Nat} (hi : i < o.length) : par o i = none ↔ gN o i = 0 := by
  constructor
  · intro h
    have hn := par_none h
    cases hz : gN o i with
    | zero => rfl
    | succ d =>
      exfalso
      have key : ∀ k, k < i → gN o k < d := by
        intro k
        induction k with
        | zero =>
          intro hk
          have := hn 0 hk
          rw [O.zero] at this ⊢
          omega
        | succ k ih =>
          intro hk
          have h1 := ih (by omega)
          have h2 := O.step k (by omega)
          have h3 := hn (k + 1) hk
          omega
      cases i with
      | zero => rw [O.zero] at hz; cases hz
      | succ i =>
        have h1 := key i (by omega)
        have h2 := O.step i hi
        omega
  · intro h
    cases hp : par o i with
    | none => rfl
    | some p =>
      have := (par_lt hp).2
      omega
end MP
namespace MP
open PySem (PyData Str)
/-- these subtrees as they are at the end -/
def mixL (o : List Nat) (x e : List Bool) (p : List Nat) : List Bool := (List.range o.length).map fun k => if p.any (fun c => subB o c k) = true then sB e k else sB x k
theorem mix_get {o : List Nat} {x e : List Bool} {p : List Nat} {k : Nat} (hk : k < o.length) : sB (mixL o x e p) k = if p.any (fun c => subB o c k) = true then sB e k else sB x k := by
  unfold mixL sB
  rw [List.getD_eq_getElem?_getD, List.getElem?_map, List.getElem?_range hk]
  rfl
theorem mix_len {o : List Nat} {x e : List Bool} {p : List Nat} : (mixL o x e p).length = o.length := by
  unfold mixL
  simp
theorem mix_snoc {o : List Nat} {x e : List Bool} {p : List Nat} {c : Nat} : mixL o (mixL o x e p) e [c] = mixL o x e (p ++ [c]) := by
  refine good_ext mix_len mix_len fun k hk => ?_
  rw [mix_get hk, mix_get hk, mix_get hk, List.any_append]
  cases p.any (fun c => subB o c k) <;> cases [c].any (fun c => subB o c k) <;> rfl
theorem vis_same {o : List Nat} {s t : List Bool} {i : Nat} (h : ∀ k, k ∈ abv o i → sB s k = sB t k) : vis o s i = vis o t i := by
  unfold vis
  rw [Bool.eq_iff_iff, List.all_eq_true, List.all_eq_true]
  exact ⟨fun q a ha => by rw [← h a ha]; exact q a ha, fun q a ha => by rw [h a ha]; exact q a ha⟩
/-- what is to be shown of a subtree -/
def Leads (o : List Nat) (s e : List Bool) (f i : Nat) : Prop := ∀ x : List Bool, x.length = o.length → vis o x i = true → (∀ k, k < o.length → subB o i k = true → sB x k = sB s k) →
  afterC o x ((partL o s e f i).map fun j => (false, j)) = some (mixL o x e [i])
theorem kids_lead {o : List Nat} {s e y : List Bool} {f i : Nat} (hi : i < o.length) (hf : ∀ c ∈ kd o i, Leads o s e f c) (hl : y.length = o.length) (hv : vis o y i = true) (ho : sB y i = true) (hs : ∀ k, k < o.length → i ∈ abv o k → sB y k = sB s k) :
    ∀ m p q, p.length = m → kd o i = p ++ q → afterC o y ((p.flatMap (partL o s e f)).map fun j => (false, j)) = some (mixL o y e p) := by
  intro m
  induction m with
  | zero =>
    intro p q hm _
    obtain rfl := List.length_eq_zero_iff.mp hm
    show some y = some (mixL o y e [])
    congr 1
    refine good_ext hl mix_len fun k hk => ?_
    rw [mix_get hk]
    rfl
  | succ m ih =>
    intro p' q hm hp
    obtain ⟨p, c, rfl⟩ : ∃ p c, p' = p ++ [c] := by
      have hne : p' ≠ [] := fun z => by rw [z] at hm; cases hm
      exact ⟨p'.dropLast, p'.getLast hne, (List.dropLast_concat_getLast hne).symm⟩
    rw [List.append_assoc] at hp
    have h1 := ih p _ (by simpa using hm) hp
    have hcm : c ∈ kd o i := by rw [hp]; simp
    obtain ⟨hc, hpc⟩ := mem_kd.mp hcm
    rw [List.flatMap_append, List.map_append, afterC_append, h1, Option.bind_some]
    have e1 : [c].flatMap (partL o s e f) = partL o s e f c := by simp
    rw [e1, hf c hcm (mixL o y e p) mix_len ?_ ?_, mix_snoc]
    · have out : ∀ k, (k = i ∨ k ∈ abv o i) → sB (mixL o y e p) k = sB y k := fun k hk => by
        have hki : k ≤ i := by
          rcases hk with rfl | hk
          · exact Nat.le_refl _
          · exact Nat.le_of_lt (abv_lt _ _ hk)
        rw [mix_get (by omega), if_neg]
        rw [List.any_eq_true]
        rintro ⟨d, hd, hb⟩
        have hdm : d ∈ kd o i := by rw [hp]; simp [hd]
        have := (par_lt (mem_kd.mp hdm).2).1
        rcases subB_iff.mp hb with rfl | hb
        · omega
        · have := abv_lt _ _ hb
          omega
      rw [vis_some hpc, out i (.inl rfl), ho, vis_same fun k hk => out k (.inr hk), hv]
      rfl
    · intro k hk hb
      have hik : i ∈ abv o k := by
        rcases subB_iff.mp hb with rfl | hb
        · rw [abv_some hpc]; exact List.mem_cons_self ..
        · exact abv_trans k c i hb (by rw [abv_some hpc]; exact List.mem_cons_self ..)
      rw [mix_get hk, if_neg, hs k hk hik]
      rw [List.any_eq_true]
      rintro ⟨d, hd, hb2⟩
      have hdm : d ∈ kd o i := by rw [hp]; simp [hd]
      have hdc : d = c := one_child (mem_kd.mp hdm).2 hpc ((subB_iff.mp hb2).imp Eq.symm id) ((subB_iff.mp hb).imp Eq.symm id)
      subst hdc
      have nd := kd_nodup o i
      rw [hp] at nd
      have := List.nodup_append.mp nd
      exact this.2.2 d hd d (by simp) rfl
end MP

/-! Mini, part V: the list of clicks leads there. Plain Lean. -/
set_option linter.all false
set_option maxRecDepth 100000
namespace MP
open PySem (PyData Str)
theorem sub_self (o : List Nat) (i : Nat) : subB o i i = true := subB_iff.mpr (.inl rfl)
theorem cnt_pos {o : List Nat} {s e : List Bool} {i k : Nat} (hk : k < o.length) (hi : i ∈ abv o k) (hd : dif o s e i = false) : cnt o s e k = 0 := by
  have h1 : sB s k = sB e k := by
    by_cases c : sB s k = sB e k
    · exact c
    · rw [dif_iff.mpr ⟨k, hk, hi, c⟩] at hd
      cases hd
  have h2 : dif o s e k = false := by
    cases q : dif o s e k with
    | false => rfl
    | true =>
      obtain ⟨m, a, b, c⟩ := dif_iff.mp q
      rw [dif_iff.mpr ⟨m, a, abv_trans m k i b hi, c⟩] at hd
      cases hd
  unfold cnt
  rw [if_neg (fun z => z h1), h2]
  simp
theorem inner_nil {o : List Nat} {s e : List Bool} {f i : Nat} (hi : i < o.length) (hf : o.length - i ≤ f + 1) (hd : dif o s e i = false) : (kd o i).flatMap (partL o s e f) = [] := by
  rw [← List.length_eq_zero_iff, List.length_flatMap]
  have e1 : (kd o i).map (fun c => (partL o s e f c).length) = (kd o i).map (subSum o (cnt o s e)) := List.map_congr_left fun c hc => by
    obtain ⟨g1, g2⟩ := mem_kd.mp hc
    have := (par_lt g2).1
    exact part_len s e f c (by omega) g1
  have e2 := kids_sum o (cnt o s e) i
  have e3 : ((kd o i).map (fun c => (partL o s e f c).length)).sum = ((kd o i).map (subSum o (cnt o s e))).sum := by rw [e1]
  rw [e3, e2]
  refine (sum_zero _ _).mpr fun k hk => ?_
  by_cases h : i ∈ abv o k
  · rw [if_pos h]
    exact cnt_pos (List.mem_range.mp hk) h hd
  · rw [if_neg h]
/-- below the item: what its children's subtrees are together -/
theorem kids_any {o : List Nat} {i k : Nat} (hk : k < o.length) : (kd o i).any (fun c => subB o c k) = decide (i ∈ abv o k) := by
  rw [Bool.eq_iff_iff, List.any_eq_true, decide_eq_true_eq]
  constructor
  · rintro ⟨c, hc, hb⟩
    obtain ⟨_, h2⟩ := mem_kd.mp hc
    rcases subB_iff.mp hb with rfl | hb
    · rw [abv_some h2]; exact List.mem_cons_self ..
    · exact abv_trans k c i hb (by rw [abv_some h2]; exact List.mem_cons_self ..)
  · intro h
    obtain ⟨c, h1, h2⟩ := child_on k h
    have hc : c < o.length := by
      rcases h2 with rfl | h2
      · exact hk
      · have := abv_le h2; omega
    exact ⟨c, mem_kd.mpr ⟨hc, h1⟩, subB_iff.mpr (h2.imp Eq.symm id)⟩
theorem afterC_cons (o : List Nat) (s : List Bool) (c : Bool × Nat) (cs : List (Bool × Nat)) : afterC o s (c :: cs) = (stepC o s c).bind fun t => afterC o t cs := rfl
theorem click_ok {o : List Nat} {x : List Bool} {i : Nat} (hb : i ∈ brs o) (hi : i < o.length) (hv : vis o x i = true) : stepC o x (false, i) = some (x.set i (!sB x i)) := by
  unfold stepC
  rw [if_pos ⟨hb, mem_shown.mpr ⟨hi, hv⟩⟩]
  rfl
theorem vis_set {o : List Nat} {x : List Bool} {i : Nat} {b : Bool} (hl : x.length = o.length) (hi : i < o.length) : vis o (x.set i b) i = vis o x i := vis_same fun k hk => by
  rw [sB_set (by omega), if_neg (fun z => by rw [z] at hk; exact Nat.lt_irrefl _ (abv_lt _ _ hk))]
theorem part_lead {o : List Nat} (O : Out o) {s e : List Bool} (Gs : Good o s) (Ge : Good o e) : ∀ f i, o.length - i ≤ f → i < o.length → Leads o s e f i
  | 0, i, h1, h2 => by omega
  | f + 1, i, h1, h2 => by
    have ih : ∀ c ∈ kd o i, Leads o s e f c := fun c hc => by
      obtain ⟨g1, g2⟩ := mem_kd.mp hc
      have := (par_lt g2).1
      exact part_lead O Gs Ge f c (by omega) g1
    intro x hx hv hs
    have hxi : sB x i = sB s i := hs i h2 (sub_self o i)
    have below : ∀ k, k < o.length → i ∈ abv o k → sB x k = sB s k := fun k hk h => hs k hk (subB_iff.mpr (.inr h))
    have ne : ∀ k, i ∈ abv o k → k ≠ i := fun k h z => by subst z; exact Nat.lt_irrefl _ (abv_lt _ _ h)
    have brn : cnt o s e i ≠ 0 → i ∈ brs o := fun hc => by
      unfold cnt at hc
      by_cases hd : sB s i = sB e i
      · rw [if_neg (fun z => z hd)] at hc
        by_cases h3 : sB s i = false ∧ dif o s e i = true
        · obtain ⟨k, hk, g1, _⟩ := dif_iff.mp h3.2
          obtain ⟨c, g2, g3⟩ := child_on k g1
          refine par_br O (i := c) ?_ g2
          rcases g3 with rfl | g3
          · exact hk
          · have := abv_le g3; omega
        · rw [if_neg h3] at hc
          exact absurd rfl hc
      · cases h4 : sB s i with
        | true => exact Gs.br i h4
        | false =>
          cases h5 : sB e i with
          | true => exact Ge.br i h5
          | false => rw [h4, h5] at hd; exact absurd rfl hd
    -- the inner list from a state where the item is open
    have inner : ∀ y : List Bool, y.length = o.length → vis o y i = true → sB y i = true → (∀ k, k < o.length → i ∈ abv o k → sB y k = sB s k) → afterC o y (((kd o i).flatMap (partL o s e f)).map fun j => (false, j)) = some (mixL o y e (kd o i)) := fun y a b c d => kids_lead h2 ih a b c d _ (kd o i) [] rfl (by simp)
    have fin : ∀ t : List Bool, t.length = o.length → (∀ k, k < o.length → sB t k = if subB o i k = true then sB e k else sB x k) → t = mixL o x e [i] := fun t ht h => good_ext ht mix_len fun k hk => by
      rw [h k hk, mix_get hk]
      simp
    have hsub : ∀ k, subB o i k = (decide (k = i) || decide (i ∈ abv o k)) := fun _ => rfl
    have hc2 := cnt_le o s e i
    unfold partL
    by_cases hd : sB s i = sB e i
    · have hcn : cnt o s e i = if sB s i = false ∧ dif o s e i = true then 2 else 0 := by
        unfold cnt
        rw [if_neg (fun z => z hd)]
      cases hsi : sB s i with
      | true =>
        have c0 : cnt o s e i = 0 := by rw [hcn, hsi]; simp
        rw [if_neg (by omega), if_neg (by omega), inner x hx hv (by rw [hxi, hsi]) below]
        congr 1
        refine fin _ mix_len fun k hk => ?_
        rw [mix_get hk, kids_any hk, hsub k]
        by_cases z : k = i
        · subst z
          have : k ∉ abv o k := fun z => Nat.lt_irrefl _ (abv_lt _ _ z)
          simp [this, hxi, hd]
        · simp [z]
      | false =>
        cases hdf : dif o s e i with
        | false =>
          have c0 : cnt o s e i = 0 := by rw [hcn, hdf]; simp
          rw [if_neg (by omega), if_neg (by omega), inner_nil h2 h1 hdf]
          show some x = _
          congr 1
          refine fin x hx fun k hk => ?_
          rw [hsub k]
          by_cases z : k = i
          · subst z
            simp [hxi, hd]
          · by_cases z2 : i ∈ abv o k
            · have : sB s k = sB e k := by
                by_cases c : sB s k = sB e k
                · exact c
                · rw [dif_iff.mpr ⟨k, hk, z2, c⟩] at hdf
                  cases hdf
              simp [z, z2, below k hk z2, this]
            · simp [z, z2]
        | true =>
          have c0 : cnt o s e i = 2 := by rw [hcn, hsi, hdf]; simp
          have hb := brn (by omega)
          rw [if_pos c0, List.map_cons, List.map_append, afterC_cons, click_ok hb h2 hv, Option.bind_some, afterC_append]
          have hx1 : (x.set i (!sB x i)).length = o.length := by simpa using hx
          rw [inner _ hx1 (by rw [vis_set hx h2]; exact hv) (by rw [sB_set (by omega), if_pos rfl, hxi, hsi]; rfl) (fun k hk h => by rw [sB_set (by omega), if_neg (ne k h)]; exact below k hk h), Option.bind_some]
          have hv2 : vis o (mixL o (x.set i (!sB x i)) e (kd o i)) i = true := by
            rw [← hv]
            refine vis_same fun k hk => ?_
            have hki := abv_lt _ _ hk
            have hnot : i ∉ abv o k := fun z => by have := abv_lt _ _ z; omega
            rw [mix_get (by omega), kids_any (by omega), sB_set (by omega), if_neg (by simp [hnot]), if_neg (by omega)]
          show afterC o _ [(false, i)] = _
          rw [afterC_cons, click_ok hb h2 hv2, Option.bind_some]
          show some _ = _
          congr 1
          refine fin _ (by simpa using mix_len) fun k hk => ?_
          rw [sB_set (by rw [mix_len]; exact h2), mix_get hk, kids_any hk, sB_set (by omega), hsub k]
          by_cases z : k = i
          · subst z
            have : k ∉ abv o k := fun z => Nat.lt_irrefl _ (abv_lt _ _ z)
            rw [if_pos rfl, mix_get h2, kids_any h2, sB_set (by omega)]
            simp [this, hxi, hsi, ← hd]
          · simp [z]
    · have hcn : cnt o s e i = 1 := by
        unfold cnt
        rw [if_pos hd]
      have hb := brn (by omega)
      rw [if_neg (by omega), if_pos hcn]
      cases hsi : sB s i with
      | false =>
        have hei : sB e i = true := by
          cases q : sB e i with
          | true => rfl
          | false => rw [hsi, q] at hd; exact absurd rfl hd
        rw [if_pos rfl, List.map_cons, afterC_cons, click_ok hb h2 hv, Option.bind_some]
        have hx1 : (x.set i (!sB x i)).length = o.length := by simpa using hx
        rw [inner _ hx1 (by rw [vis_set hx h2]; exact hv) (by rw [sB_set (by omega), if_pos rfl, hxi, hsi]; rfl) (fun k hk h => by rw [sB_set (by omega), if_neg (ne k h)]; exact below k hk h)]
        congr 1
        refine fin _ mix_len fun k hk => ?_
        rw [mix_get hk, kids_any hk, sB_set (by omega), hsub k]
        by_cases z : k = i
        · subst z
          have : k ∉ abv o k := fun z => Nat.lt_irrefl _ (abv_lt _ _ z)
          simp [this, hxi, hsi, hei]
        · simp [z]
      | true =>
        have hei : sB e i = false := by
          cases q : sB e i with
          | false => rfl
          | true => rw [hsi, q] at hd; exact absurd rfl hd
        rw [if_neg (by simp), List.map_append, afterC_append, inner x hx hv (by rw [hxi, hsi]) below, Option.bind_some]
        have hv2 : vis o (mixL o x e (kd o i)) i = true := by
          rw [← hv]
          refine vis_same fun k hk => ?_
          have hki := abv_lt _ _ hk
          have hnot : i ∉ abv o k := fun z => by have := abv_lt _ _ z; omega
          rw [mix_get (by omega), kids_any (by omega), if_neg (by simp [hnot])]
        show afterC o _ [(false, i)] = _
        rw [afterC_cons, click_ok hb h2 hv2, Option.bind_some]
        show some _ = _
        congr 1
        refine fin _ (by simpa using mix_len) fun k hk => ?_
        rw [sB_set (by rw [mix_len]; exact h2), mix_get hk, kids_any hk, hsub k]
        by_cases z : k = i
        · subst z
          have : k ∉ abv o k := fun z => Nat.lt_irrefl _ (abv_lt _ _ z)
          rw [if_pos rfl, mix_get h2, kids_any h2]
          simp [this, hxi, hsi, hei]
        · simp [z]
/-- all clicks -/
def fullL (o : List Nat) (s e : List Bool) : List Nat := (rts o).flatMap (partL o s e 16)
theorem rts_nodup (o : List Nat) : (rts o).Nodup := List.Pairwise.filter _ List.nodup_range
theorem one_root {o : List Nat} {k c d : Nat} (hc : par o c = none) (hd : par o d = none) (h1 : c = k ∨ c ∈ abv o k) (h2 : d = k ∨ d ∈ abv o k) : c = d := by
  rcases chain k c d h1 h2 with h | h | h
  · exact h
  · rw [abv_none hd] at h; cases h
  · rw [abv_none hc] at h; cases h
theorem root_at {o : List Nat} (O : Out o) {k : Nat} (hk : k < o.length) : ∃ r, r ∈ rts o ∧ subB o r k = true := by
  obtain ⟨r, h1, h2⟩ := root_of (o := o) k
  have hr : r < o.length := by
    rcases h2 with rfl | h2
    · exact hk
    · have := abv_le h2; omega
  exact ⟨r, mem_rts.mpr ⟨hr, (par_root O hr).mp h1⟩, subB_iff.mpr (h2.imp Eq.symm id)⟩
theorem roots_lead {o : List Nat} (O : Out o) {s e : List Bool} (Gs : Good o s) (Ge : Good o e) :
    ∀ m p q, p.length = m → rts o = p ++ q → afterC o s ((p.flatMap (partL o s e 16)).map fun j => (false, j)) = some (mixL o s e p) := by
  intro m
  induction m with
  | zero =>
    intro p q hm _
    obtain rfl := List.length_eq_zero_iff.mp hm
    show some s = some (mixL o s e [])
    congr 1
    refine good_ext Gs.len mix_len fun k hk => ?_
    rw [mix_get hk]
    rfl
  | succ m ih =>
    intro p' q hm hp
    obtain ⟨p, c, rfl⟩ : ∃ p c, p' = p ++ [c] := by
      have hne : p' ≠ [] := fun z => by rw [z] at hm; cases hm
      exact ⟨p'.dropLast, p'.getLast hne, (List.dropLast_concat_getLast hne).symm⟩
    rw [List.append_assoc] at hp
    have h1 := ih p _ (by simpa using hm) hp
    have hcm : c ∈ rts o := by rw [hp]; simp
    obtain ⟨hc, hg⟩ := mem_rts.mp hcm
    have hpc := (par_root O hc).mpr hg
    have ho := O.le
    rw [List.flatMap_append, List.map_append, afterC_append, h1, Option.bind_some]
    have e1 : [c].flatMap (partL o s e 16) = partL o s e 16 c := by simp
    rw [e1, part_lead O Gs Ge 16 c (by omega) hc (mixL o s e p) mix_len (vis_none hpc) ?_, mix_snoc]
    intro k hk hb
    rw [mix_get hk, if_neg]
    rw [List.any_eq_true]
    rintro ⟨d, hd, hb2⟩
    have hdm : d ∈ rts o := by rw [hp]; simp [hd]
    have hpd := (par_root O (mem_rts.mp hdm).1).mpr (mem_rts.mp hdm).2
    have hdc : d = c := one_root hpd hpc ((subB_iff.mp hb2).imp Eq.symm id) ((subB_iff.mp hb).imp Eq.symm id)
    subst hdc
    have nd := rts_nodup o
    rw [hp] at nd
    have := List.nodup_append.mp nd
    exact this.2.2 d hd d (by simp) rfl
/-- the list leads there -/
theorem full_lead {o : List Nat} (O : Out o) {s e : List Bool} (Gs : Good o s) (Ge : Good o e) : afterC o s ((fullL o s e).map fun j => (false, j)) = some e := by
  have h := roots_lead O Gs Ge _ (rts o) [] rfl (by simp)
  unfold fullL
  rw [h]
  congr 1
  refine good_ext mix_len Ge.len fun k hk => ?_
  rw [mix_get hk, if_pos]
  obtain ⟨r, h1, h2⟩ := root_at O hk
  exact List.any_eq_true.mpr ⟨r, h1, h2⟩
/-- .. with so many clicks -/
theorem full_len {o : List Nat} (O : Out o) (s e : List Bool) : (fullL o s e).length = cost o s e := by
  unfold fullL
  have ho := O.le
  rw [List.length_flatMap]
  have e1 : (rts o).map (fun c => (partL o s e 16 c).length) = (rts o).map fun c => ((List.range o.length).map fun k => if subB o c k = true then cnt o s e k else 0).sum := List.map_congr_left fun c hc => by
    obtain ⟨g1, g2⟩ := mem_rts.mp hc
    exact part_len s e 16 c (by omega) g1
  have e2 : ((rts o).map (fun c => (partL o s e 16 c).length)).sum = ((rts o).map fun c => ((List.range o.length).map fun k => if subB o c k = true then cnt o s e k else 0).sum).sum := by rw [e1]
  rw [e2, sum_swap (fun c k => if subB o c k = true then cnt o s e k else 0)]
  unfold cost
  congr 1
  refine List.map_congr_left fun k hk => ?_
  have hk := List.mem_range.mp hk
  obtain ⟨r, h1, h2⟩ := root_at O hk
  refine sum_uniq (fun c => subB o c k) (cnt o s e k) r _ (rts_nodup o) h1 h2 fun d hd hp => ?_
  exact one_root ((par_root O (mem_rts.mp hd).1).mpr (mem_rts.mp hd).2) ((par_root O (mem_rts.mp h1).1).mpr (mem_rts.mp h1).2) ((subB_iff.mp hp).imp Eq.symm id) ((subB_iff.mp h2).imp Eq.symm id)
end MP

/-! Mini, part W: dicts from states to data; search by levels. Plain Lean. -/
set_option linter.all false
set_option maxRecDepth 100000
namespace MP
open PySem (PyData Str)
/-- a dict with states as keys -/
abbrev GD := List (List Bool × PyData)
def encG (c : List Bool × PyData) : PyData × PyData := (tS c.1, c.2)
def lookG : GD → List Bool → Option PyData
  | [], _ => none
  | (a, v) :: r, k => if a = k then some v else lookG r k
def putG : GD → List Bool → PyData → GD
  | [], k, v => [(k, v)]
  | (a, u) :: r, k, v => if a = k then (a, v) :: r else (a, u) :: putG r k v
theorem eqDs_tS : ∀ (s t : List Bool), eqDs (s.map encB) (t.map encB) = decide (s = t)
  | [], [] => rfl
  | [], _ :: _ => rfl
  | _ :: _, [] => rfl
  | a :: s, b :: t => by
    simp only [List.map_cons, eqDs, eqDs_tS s t]
    rw [Bool.eq_iff_iff]
    cases a <;> cases b <;> simp [encB, eqD]
theorem eqD_tS (a b : List Bool) : eqD (tS a) (tS b) = decide (a = b) := by
  show eqD (.tuple (a.map encB)) (.tuple (b.map encB)) = _
  rw [eqD, eqDs_tS]
theorem dlookG (k : List Bool) : ∀ kvs : GD, dlook (kvs.map encG) (tS k) = lookG kvs k
  | [] => rfl
  | (a, v) :: r => by
    rw [List.map_cons]
    unfold dlook lookG encG
    simp only [eqD_tS]
    by_cases h : a = k
    · simp [h]
    · rw [if_neg h, if_neg (by simpa using h)]
      exact dlookG k r
theorem dputG (k : List Bool) (v : PyData) : ∀ kvs : GD, dput (kvs.map encG) (tS k) v = (putG kvs k v).map encG
  | [] => rfl
  | (a, u) :: r => by
    rw [List.map_cons]
    unfold dput putG encG
    simp only [eqD_tS]
    by_cases h : a = k
    · simp [h]
    · rw [if_neg h, if_neg (by simpa using h), List.map_cons]
      congr 1
      exact dputG k v r
theorem lookG_put (k : List Bool) (v : PyData) (k' : List Bool) : ∀ kvs : GD, lookG (putG kvs k v) k' = if k' = k then some v else lookG kvs k'
  | [] => by
    unfold putG lookG lookG
    by_cases h : k' = k
    · simp [h]
    · rw [if_neg h, if_neg (fun z => h z.symm)]
  | (a, u) :: r => by
    unfold putG
    by_cases h : a = k
    · rw [if_pos h]
      unfold lookG
      by_cases h' : k' = k
      · rw [if_pos h', if_pos (by rw [h, h'])]
      · rw [if_neg h', if_neg (by rw [h]; exact fun z => h' z.symm), if_neg (by rw [h]; exact fun z => h' z.symm)]
    · rw [if_neg h]
      unfold lookG
      rw [lookG_put k v k' r]
      by_cases h' : k' = k
      · rw [if_neg (by rw [h']; exact h), if_pos h', if_pos h']
      · rw [if_neg h', if_neg h']
theorem putG_new (k : List Bool) (v : PyData) : ∀ kvs : GD, lookG kvs k = none → putG kvs k v = kvs ++ [(k, v)]
  | [], _ => rfl
  | (a, u) :: r, h => by
    unfold lookG at h
    unfold putG
    by_cases e : a = k
    · rw [if_pos e] at h; cases h
    · rw [if_neg e] at h
      rw [if_neg e, putG_new k v r h]
      rfl
theorem keysG (k : List Bool) : ∀ kvs : GD, k ∈ kvs.map (·.1) ↔ lookG kvs k ≠ none
  | [] => by simp [lookG]
  | (a, v) :: r => by
    unfold lookG
    rw [List.map_cons, List.mem_cons, keysG k r]
    by_cases h : a = k
    · simp [h]
    · rw [if_neg h]
      constructor
      · rintro (e | e)
        · exact absurd e.symm h
        · exact e
      · exact .inr
theorem ask_tS (l : List Bool) : askOk true (tS l) = true := by
  show (l.map encB).all keyI = true
  rw [List.all_map, List.all_eq_true]
  intro b _
  cases b <;> rfl
theorem put_tS (l : List Bool) : putOk true (tS l) = true := by
  show (l.map encB).all intD = true
  rw [List.all_map, List.all_eq_true]
  intro b _
  cases b <;> rfl
/-- states as numbers -/
def nB (s : List Bool) : List Nat := s.map fun b => if b then 1 else 0
theorem tS_tN (s : List Bool) : tS s = tN (nB s) := by
  show PyData.tuple (s.map encB) = .tuple ((s.map fun b => if b then 1 else 0).map encN)
  rw [List.map_map]
  congr 1
  refine List.map_congr_left fun b _ => ?_
  cases b <;> rfl
theorem stG_nodup {o : List Nat} : ∀ j : Nat, (stG o j).Nodup
  | 0 => by simp [stG]
  | j + 1 => by
    have ih := stG_nodup (o := o) j
    unfold stG
    have key : ∀ l : List (List Bool), l.Nodup → (∀ s ∈ l, s.length = j) → (l.flatMap fun s => if j ∈ brs o then [s ++ [false], s ++ [true]] else [s ++ [false]]).Nodup := by
      intro l
      induction l with
      | nil => intro _ _; simp
      | cons s l ih2 =>
        intro nd hl
        rw [List.nodup_cons] at nd
        rw [List.flatMap_cons]
        refine List.nodup_append.mpr ⟨?_, ih2 nd.2 fun t ht => hl t (List.mem_cons_of_mem _ ht), fun a ha b hb => ?_⟩
        · split <;> simp
        · rintro rfl
          obtain ⟨t, ht, hb⟩ := List.mem_flatMap.mp hb
          have hne : t ≠ s := fun z => nd.1 (z ▸ ht)
          have cut : ∀ (u : List Bool), a ∈ (if j ∈ brs o then [u ++ [false], u ++ [true]] else [u ++ [false]]) → a.dropLast = u := fun u hu => by
            split at hu
            · simp at hu
              rcases hu with rfl | rfl <;> simp
            · simp at hu
              rw [hu]
              simp
          exact hne ((cut t hb).symm.trans (cut s ha))
    exact key _ ih fun s hs => stG_len j s hs
/-- the clicks that can be made, and where they lead -/
def rowG (o : List Nat) (s : List Bool) (m : Nat) : List (Nat × List Bool) := (List.range m).filterMap fun i => (stepC o s (false, i)).map fun t => (i, t)
theorem rowG_succ (o : List Nat) (s : List Bool) (m : Nat) : rowG o s (m + 1) = rowG o s m ++ ((stepC o s (false, m)).map fun t => (m, t)).toList := by
  unfold rowG
  rw [List.range_succ, List.filterMap_append]
  cases h : stepC o s (false, m) <;> simp [h]
theorem rowG_len (o : List Nat) (s : List Bool) (m : Nat) : (rowG o s m).length ≤ m := by
  have := List.length_filterMap_le (fun i => (stepC o s (false, i)).map fun t => (i, t)) (List.range m)
  rw [List.length_range] at this
  exact this
def encRw (p : Nat × List Bool) : PyData := .tuple [encC (false, p.1), tS p.2]
theorem mem_rowG {o : List Nat} {s t : List Bool} {i m : Nat} : (i, t) ∈ rowG o s m ↔ i < m ∧ stepC o s (false, i) = some t := by
  unfold rowG
  rw [List.mem_filterMap]
  constructor
  · rintro ⟨j, hj, h⟩
    cases q : stepC o s (false, j) with
    | none => rw [q] at h; cases h
    | some u =>
      rw [q] at h
      cases h
      exact ⟨List.mem_range.mp hj, q⟩
  · rintro ⟨h1, h2⟩
    exact ⟨i, List.mem_range.mpr h1, by rw [h2]; rfl⟩
end MP

/-! Mini, part X: search by levels over the states. Plain Lean. -/
set_option linter.all false
set_option maxRecDepth 100000
namespace MP
open PySem (PyData Str)
theorem stepP {o : List Nat} {s t : List Bool} {i : Nat} (h : stepC o s (false, i) = some t) : i ∈ brs o ∧ i ∈ shown o s ∧ t = s.set i (!sB s i) := by
  unfold stepC at h
  split at h
  · rename_i hc
    simp at h
    exact ⟨hc.1, hc.2, h.symm⟩
  · cases h
theorem stepP_of {o : List Nat} {s : List Bool} {i : Nat} (h1 : i ∈ brs o) (h2 : i ∈ shown o s) : stepC o s (false, i) = some (s.set i (!sB s i)) := by
  unfold stepC
  rw [if_pos ⟨h1, h2⟩]
  rfl
theorem cost_next {o : List Nat} {st s t : List Bool} {i : Nat} (G : Good o s) (h : stepC o s (false, i) = some t) : cost o st t = cost o st s + 1 ∨ cost o st t + 1 = cost o st s := by
  obtain ⟨h1, h2, rfl⟩ := stepP h
  have hv := (mem_shown.mp h2)
  rw [cost_comm o st, cost_comm o st]
  exact cost_step G.len hv.1 hv.2
theorem cost_prev {o : List Nat} (O : Out o) {st t : List Bool} (Gs : Good o st) (Gt : Good o t) (d : Nat) (h : cost o st t = d + 1) : ∃ s i, Good o s ∧ cost o st s = d ∧ stepC o s (false, i) = some t := by
  have hne : t ≠ st := fun z => by
    have := (cost_zero Gs.len Gt.len).mpr z.symm
    omega
  obtain ⟨j, h1, h2, h3⟩ := helpful O Gt Gs hne
  have hj := (mem_shown.mp h2).1
  have hv := (mem_shown.mp h2).2
  have hst := stepP_of h1 h2
  have Gu : Good o (t.set j (!sB t j)) := stepC_good Gt hst
  refine ⟨t.set j (!sB t j), j, Gu, ?_, ?_⟩
  · rw [cost_comm o st (t.set j (!sB t j))]
    rw [cost_comm o st t] at h
    omega
  · have hv2 : j ∈ shown o (t.set j (!sB t j)) := mem_shown.mpr ⟨hj, by rw [vis_set Gt.len hj]; exact hv⟩
    rw [stepP_of h1 hv2]
    congr 1
    refine good_ext (by simp [Gt.len]) Gt.len fun k hk => ?_
    have hl := Gt.len
    have hsl : (t.set j (!sB t j)).length = o.length := by simp [Gt.len]
    rw [sB_set (s := t.set j (!sB t j)) (by omega), sB_set (s := t) (by omega), sB_set (s := t) (by omega)]
    by_cases e : k = j
    · subst e
      simp
    · simp [e]
/-- a search, some way into a level -/
structure LvI (o : List Nat) (st : List Bool) (d : Nat) (found : GD) (later : List (List Bool)) : Prop where
  look : ∀ x, Good o x → lookG found x = if cost o st x ≤ d ∨ x ∈ later then some (encN (cost o st x)) else none
  key : ∀ x, lookG found x ≠ none → Good o x
  lat : ∀ x, x ∈ later → Good o x ∧ cost o st x = d + 1
  nd : (found.map (·.1)).Nodup
  len : later.length ≤ found.length
theorem LvI.seen {o : List Nat} {st : List Bool} {d : Nat} {found : GD} {later : List (List Bool)} (I : LvI o st d found later) {x : List Bool} (G : Good o x) (h : lookG found x ≠ none) : cost o st x ≤ d ∨ x ∈ later := by
  rw [I.look x G] at h
  by_cases c : cost o st x ≤ d ∨ x ∈ later
  · exact c
  · rw [if_neg c] at h
    exact absurd rfl h
theorem LvI.put {o : List Nat} {st s t : List Bool} {d i : Nat} {found : GD} {later : List (List Bool)} (I : LvI o st d found later) (G : Good o s) (hc : cost o st s = d) (hs : stepC o s (false, i) = some t) (h : lookG found t = none) : LvI o st d (putG found t (encN (d + 1))) (later ++ [t]) := by
  have Gt := stepC_good G hs
  have hn := cost_next (st := st) G hs
  have ht : ¬ (cost o st t ≤ d ∨ t ∈ later) := fun z => by
    rw [I.look t Gt, if_pos z] at h
    cases h
  have hd : cost o st t = d + 1 := by
    have : ¬ cost o st t ≤ d := fun z => ht (.inl z)
    omega
  refine ⟨fun x Gx => ?_, fun x hx => ?_, fun x hx => ?_, ?_, ?_⟩
  · rw [lookG_put, I.look x Gx]
    by_cases e : x = t
    · subst e
      rw [if_pos rfl, if_pos (.inr (by simp)), hd]
    · rw [if_neg e]
      by_cases c : cost o st x ≤ d ∨ x ∈ later
      · rw [if_pos c, if_pos (c.imp id fun z => by simp [z])]
      · rw [if_neg c, if_neg (by
          rintro (z | z)
          · exact c (.inl z)
          · simp at z
            rcases z with z | z
            · exact c (.inr z)
            · exact e z)]
  · rw [lookG_put] at hx
    by_cases e : x = t
    · rw [e]; exact Gt
    · rw [if_neg e] at hx
      exact I.key x hx
  · simp at hx
    rcases hx with hx | rfl
    · exact I.lat x hx
    · exact ⟨Gt, hd⟩
  · rw [putG_new _ _ _ h, List.map_append]
    refine List.nodup_append.mpr ⟨I.nd, by simp, fun a ha b hb => ?_⟩
    simp at hb
    subst hb
    rintro rfl
    exact (keysG _ found).mp ha h
  · rw [putG_new _ _ _ h]
    have := I.len
    simp
    omega
theorem sub_len {α : Type} [DecidableEq α] : ∀ (l m : List α), l.Nodup → (∀ x ∈ l, x ∈ m) → l.length ≤ m.length
  | [], _, _, _ => by simp
  | a :: l, m, nd, h => by
    rw [List.nodup_cons] at nd
    have ha := h a (by simp)
    have h2 := sub_len l (m.erase a) nd.2 fun x hx => (List.mem_erase_of_ne (fun (z : x = a) => nd.1 (z ▸ hx))).mpr (h x (by simp [hx]))
    rw [List.length_erase_of_mem ha] at h2
    have := List.length_pos_of_mem ha
    simp
    omega
theorem LvI.size {o : List Nat} {st : List Bool} {d : Nat} {found : GD} {later : List (List Bool)} (I : LvI o st d found later) : found.length ≤ (stG o o.length).length := by
  have h : ∀ x ∈ found.map (·.1), x ∈ stG o o.length := fun x hx => stG_good.mpr (I.key x ((keysG x found).mp hx))
  have := sub_len _ _ I.nd h
  rw [List.length_map] at this
  exact this
/-- what has been looked at from a state -/
def Seen (o : List Nat) (st : List Bool) (d : Nat) (later : List (List Bool)) (s : List Bool) (m : Nat) : Prop := ∀ i t, i < m → stepC o s (false, i) = some t → cost o st t ≤ d ∨ t ∈ later
theorem LvI.next {o : List Nat} (O : Out o) {st : List Bool} (Gst : Good o st) {d : Nat} {found : GD} {later : List (List Bool)} (I : LvI o st d found later) (h : ∀ s, Good o s → cost o st s = d → ∀ i t, stepC o s (false, i) = some t → cost o st t ≤ d ∨ t ∈ later) : LvI o st (d + 1) found [] ∧ ∀ x, x ∈ later ↔ Good o x ∧ cost o st x = d + 1 := by
  have hl : ∀ x, x ∈ later ↔ Good o x ∧ cost o st x = d + 1 := fun x => ⟨I.lat x, fun ⟨Gx, hx⟩ => by
    obtain ⟨s, i, G, hc, hs⟩ := cost_prev O Gst Gx d hx
    rcases h s G hc i x hs with z | z
    · omega
    · exact z⟩
  refine ⟨⟨fun x Gx => ?_, I.key, fun x hx => by simp at hx, I.nd, by simp⟩, hl⟩
  rw [I.look x Gx]
  have : (cost o st x ≤ d ∨ x ∈ later) ↔ (cost o st x ≤ d + 1 ∨ x ∈ ([] : List (List Bool))) := by
    rw [hl x]
    simp [Gx]
    omega
  by_cases c : cost o st x ≤ d ∨ x ∈ later
  · rw [if_pos c, if_pos (this.mp c)]
  · rw [if_neg c, if_neg fun z => c (this.mpr z)]
theorem no_more {o : List Nat} (O : Out o) {st : List Bool} (Gst : Good o st) {d : Nat} (h : ∀ x, Good o x → cost o st x ≠ d) : ∀ (k : Nat) x, Good o x → cost o st x ≠ d + k
  | 0, x, Gx => h x Gx
  | k + 1, x, Gx => fun z => by
    obtain ⟨s, i, G, hc, _⟩ := cost_prev O Gst Gx (d + k) z
    exact no_more O Gst h k s G hc
/-- the distances of all states -/
structure FarI (o : List Nat) (st : List Bool) (far : GD) : Prop where
  look : ∀ x, Good o x → lookG far x = some (encN (cost o st x))
  key : ∀ x, lookG far x ≠ none → Good o x
  nd : (far.map (·.1)).Nodup
theorem LvI.far {o : List Nat} (O : Out o) {st : List Bool} (Gst : Good o st) {d : Nat} {found : GD} (I : LvI o st d found []) (h : ∀ x, Good o x → cost o st x ≠ d) : FarI o st found :=
  ⟨fun x Gx => by
    rw [I.look x Gx, if_pos]
    refine .inl ?_
    by_cases c : d ≤ cost o st x
    · have := no_more O Gst h (cost o st x - d) x Gx
      omega
    · omega, I.key, I.nd⟩
theorem FarI.len {o : List Nat} {st : List Bool} {far : GD} (F : FarI o st far) : far.length = (stG o o.length).length := by
  have h1 : far.length = (far.map (·.1)).length := by simp
  rw [h1]
  refine (List.perm_ext_iff_of_nodup F.nd (stG_nodup _)).mpr (fun x => ?_) |>.length_eq
  rw [keysG, stG_good]
  exact ⟨F.key x, fun G => by rw [F.look x G]; simp⟩
theorem LvI.start {o : List Nat} {st : List Bool} (G : Good o st) : LvI o st 0 [(st, .int 0)] [] := by
  have hz : ∀ x, Good o x → (cost o st x = 0 ↔ st = x) := fun x Gx => cost_zero G.len Gx.len
  refine ⟨fun x Gx => ?_, fun x hx => ?_, fun x hx => by simp at hx, by simp, by simp⟩
  · show (if st = x then some (PyData.int 0) else lookG [] x) = _
    by_cases e : st = x
    · rw [if_pos e, (hz x Gx).mpr e]
      rfl
    · rw [if_neg e, if_neg]
      · rfl
      · rintro (z | z)
        · exact e ((hz x Gx).mp (by omega))
        · simp at z
  · unfold lookG at hx
    by_cases e : st = x
    · rw [← e]; exact G
    · rw [if_neg e] at hx
      exact absurd rfl hx
end MP

/-! Mini, part Y: dicts of numbers, least sums. Plain Lean. -/
set_option linter.all false
set_option maxRecDepth 100000
namespace MP
open PySem (PyData Str)
abbrev ND := List (Nat × Nat)
def encND (c : Nat × Nat) : PyData × PyData := (encN c.1, encN c.2)
def lookN : ND → Nat → Option Nat
  | [], _ => none
  | (a, v) :: r, k => if a = k then some v else lookN r k
def putN : ND → Nat → Nat → ND
  | [], k, v => [(k, v)]
  | (a, u) :: r, k, v => if a = k then (a, v) :: r else (a, u) :: putN r k v
theorem eqD_nat (a b : Nat) : eqD (encN a) (encN b) = decide (a = b) := by
  show decide ((a : Int) = b) = _
  rw [Bool.eq_iff_iff]
  simp
  omega
theorem dlookN (k : Nat) : ∀ kvs : ND, dlook (kvs.map encND) (encN k) = (lookN kvs k).map encN
  | [] => rfl
  | (a, v) :: r => by
    rw [List.map_cons]
    unfold dlook lookN encND
    simp only [eqD_nat]
    by_cases h : a = k
    · simp [h]
    · rw [if_neg h, if_neg (by simpa using h)]
      exact dlookN k r
theorem dputN (k v : Nat) : ∀ kvs : ND, dput (kvs.map encND) (encN k) (encN v) = (putN kvs k v).map encND
  | [] => rfl
  | (a, u) :: r => by
    rw [List.map_cons]
    unfold dput putN encND
    simp only [eqD_nat]
    by_cases h : a = k
    · simp [h]
    · rw [if_neg h, if_neg (by simpa using h), List.map_cons]
      congr 1
      exact dputN k v r
theorem lookN_put (k v k' : Nat) : ∀ kvs : ND, lookN (putN kvs k v) k' = if k' = k then some v else lookN kvs k'
  | [] => by
    unfold putN lookN lookN
    by_cases h : k' = k
    · simp [h]
    · rw [if_neg h, if_neg (fun z => h z.symm)]
  | (a, u) :: r => by
    unfold putN
    by_cases h : a = k
    · rw [if_pos h]
      unfold lookN
      by_cases h' : k' = k
      · rw [if_pos h', if_pos (by rw [h, h'])]
      · rw [if_neg h', if_neg (by rw [h]; exact fun z => h' z.symm), if_neg (by rw [h]; exact fun z => h' z.symm)]
    · rw [if_neg h]
      unfold lookN
      rw [lookN_put k v k' r]
      by_cases h' : k' = k
      · rw [if_neg (by rw [h']; exact h), if_pos h', if_pos h']
      · rw [if_neg h', if_neg h']
theorem keysN (k : Nat) : ∀ kvs : ND, k ∈ kvs.map (·.1) ↔ lookN kvs k ≠ none
  | [] => by simp [lookN]
  | (a, v) :: r => by
    unfold lookN
    rw [List.map_cons, List.mem_cons, keysN k r]
    by_cases h : a = k
    · simp [h]
    · rw [if_neg h]
      constructor
      · rintro (e | e)
        · exact absurd e.symm h
        · exact e
      · exact .inr
theorem putN_keys (k v : Nat) : ∀ kvs : ND, (putN kvs k v).map (·.1) = if k ∈ kvs.map (·.1) then kvs.map (·.1) else kvs.map (·.1) ++ [k]
  | [] => rfl
  | (a, u) :: r => by
    unfold putN
    by_cases h : a = k
    · rw [if_pos h, if_pos (by simp [h])]
      rfl
    · rw [if_neg h, List.map_cons, putN_keys k v r]
      have h' : ¬ k = a := fun z => h z.symm
      by_cases q : k ∈ r.map (·.1)
      · rw [if_pos q, if_pos (by rw [List.map_cons]; exact List.mem_cons_of_mem _ q)]
        rfl
      · rw [if_neg q, if_neg (by rw [List.map_cons, List.mem_cons]; exact fun z => z.elim h' q)]
        rfl
theorem putN_nodup (k v : Nat) (kvs : ND) (h : (kvs.map (·.1)).Nodup) : ((putN kvs k v).map (·.1)).Nodup := by
  rw [putN_keys]
  split
  · exact h
  · rename_i q
    refine List.nodup_append.mpr ⟨h, by simp, fun a ha b hb => ?_⟩
    simp at hb
    subst hb
    rintro rfl
    exact q ha
theorem putN_len (k v : Nat) (kvs : ND) : (putN kvs k v).length ≤ kvs.length + 1 := by
  have h : (putN kvs k v).length = ((putN kvs k v).map (·.1)).length := by simp
  rw [h, putN_keys]
  split <;> simp
theorem look_mem {k v : Nat} : ∀ {kvs : ND}, lookN kvs k = some v → (k, v) ∈ kvs
  | [], h => by cases h
  | (a, u) :: r, h => by
    unfold lookN at h
    by_cases e : a = k
    · rw [if_pos e] at h
      cases h
      simp [e]
    · rw [if_neg e] at h
      exact List.mem_cons_of_mem _ (look_mem h)
theorem mem_look {k v : Nat} : ∀ {kvs : ND}, (kvs.map (·.1)).Nodup → (k, v) ∈ kvs → lookN kvs k = some v
  | [], _, h => by cases h
  | (a, u) :: r, nd, h => by
    rw [List.map_cons, List.nodup_cons] at nd
    unfold lookN
    rcases List.mem_cons.mp h with e | e
    · cases e
      rw [if_pos rfl]
    · have : a ≠ k := fun z => nd.1 (by rw [z]; exact List.mem_map.mpr ⟨(k, v), e, rfl⟩)
      rw [if_neg this]
      exact mem_look nd.2 e
/-! ### the least -/
def stepN (f : ND) (p : Nat × Nat) : ND := putN f p.1 (min ((lookN f p.1).getD p.2) p.2)
def pairN (d e : ND) : ND := d.flatMap fun p => e.map fun q => (p.1 + q.1, p.2 + q.2)
def addN (d e : ND) : ND := (pairN d e).foldl stepN []
theorem step_len (f : ND) : ∀ ps : ND, (ps.foldl stepN f).length ≤ f.length + ps.length
  | [] => by simp
  | p :: ps => by
    have h := putN_len p.1 (min ((lookN f p.1).getD p.2) p.2) f
    have := step_len (stepN f p) ps
    rw [List.foldl_cons]
    have e : (stepN f p).length ≤ f.length + 1 := h
    simp
    omega
theorem step_nodup (f : ND) (nd : (f.map (·.1)).Nodup) : ∀ ps : ND, ((ps.foldl stepN f).map (·.1)).Nodup := by
  intro ps
  induction ps generalizing f with
  | nil => exact nd
  | cons p ps ih => exact ih _ (putN_nodup _ _ _ nd)
theorem step_look (f : ND) (p : Nat × Nat) (k : Nat) : lookN (stepN f p) k = if k = p.1 then some (min ((lookN f p.1).getD p.2) p.2) else lookN f k := lookN_put _ _ _ _
theorem step_sound : ∀ (ps f : ND) (k m : Nat), lookN (ps.foldl stepN f) k = some m → lookN f k = some m ∨ (k, m) ∈ ps
  | [], f, k, m, h => .inl h
  | p :: ps, f, k, m, h => by
    rcases step_sound ps (stepN f p) k m h with h | h
    · rw [step_look] at h
      by_cases e : k = p.1
      · rw [if_pos e] at h
        cases q : lookN f p.1 with
        | none =>
          rw [q] at h
          simp at h
          refine .inr ?_
          rw [e, ← h]
          simp
        | some v =>
          rw [q] at h
          simp at h
          by_cases c : v ≤ p.2
          · refine .inl ?_
            rw [e, q, ← h, Nat.min_eq_left c]
          · refine .inr ?_
            rw [e, ← h, Nat.min_eq_right (by omega)]
            simp
      · rw [if_neg e] at h
        exact .inl h
    · exact .inr (List.mem_cons_of_mem _ h)
theorem step_keep : ∀ (ps f : ND) (k m : Nat), lookN f k = some m → ∃ m', lookN (ps.foldl stepN f) k = some m' ∧ m' ≤ m
  | [], f, k, m, h => ⟨m, h, Nat.le_refl m⟩
  | p :: ps, f, k, m, h => by
    by_cases e : k = p.1
    · obtain ⟨m', h1, h2⟩ := step_keep ps (stepN f p) k (min m p.2) (by rw [step_look, if_pos e, ← e, h]; rfl)
      exact ⟨m', h1, by omega⟩
    · exact step_keep ps (stepN f p) k m (by rw [step_look, if_neg e]; exact h)
theorem step_least : ∀ (ps f : ND) (k v : Nat), (k, v) ∈ ps → ∃ m, lookN (ps.foldl stepN f) k = some m ∧ m ≤ v
  | p :: ps, f, k, v, h => by
    rcases List.mem_cons.mp h with e | e
    · subst e
      obtain ⟨m', h1, h2⟩ := step_keep ps (stepN f (k, v)) k (min ((lookN f k).getD v) v) (by rw [step_look, if_pos rfl])
      exact ⟨m', h1, by omega⟩
    · exact step_least ps (stepN f p) k v e
/-- a dict tells the least number of each kind -/
structure Rep (d : ND) (S : Nat → Nat → Prop) : Prop where
  real : ∀ r c, lookN d r = some c → S r c
  least : ∀ r c, S r c → ∃ m, lookN d r = some m ∧ m ≤ c
  nd : (d.map (·.1)).Nodup
theorem Rep.add {d e : ND} {S T : Nat → Nat → Prop} (hd : Rep d S) (he : Rep e T) : Rep (addN d e) fun r c => ∃ r1 c1 r2 c2, S r1 c1 ∧ T r2 c2 ∧ r = r1 + r2 ∧ c = c1 + c2 := by
  have hm : ∀ k m, (k, m) ∈ pairN d e ↔ ∃ p ∈ d, ∃ q ∈ e, k = p.1 + q.1 ∧ m = p.2 + q.2 := fun k m => by
    unfold pairN
    rw [List.mem_flatMap]
    constructor
    · rintro ⟨p, hp, h⟩
      obtain ⟨q, hq, h⟩ := List.mem_map.mp h
      cases h
      exact ⟨p, hp, q, hq, rfl, rfl⟩
    · rintro ⟨p, hp, q, hq, rfl, rfl⟩
      exact ⟨p, hp, List.mem_map.mpr ⟨q, hq, rfl⟩⟩
  refine ⟨fun r c h => ?_, fun r c h => ?_, step_nodup _ (by simp) _⟩
  · rcases step_sound _ _ _ _ h with h | h
    · cases h
    · obtain ⟨p, hp, q, hq, h1, h2⟩ := (hm r c).mp h
      exact ⟨p.1, p.2, q.1, q.2, hd.real _ _ (mem_look hd.nd hp), he.real _ _ (mem_look he.nd hq), h1, h2⟩
  · obtain ⟨r1, c1, r2, c2, h1, h2, rfl, rfl⟩ := h
    obtain ⟨m1, g1, l1⟩ := hd.least _ _ h1
    obtain ⟨m2, g2, l2⟩ := he.least _ _ h2
    obtain ⟨m, g, l⟩ := step_least (pairN d e) [] (r1 + r2) (m1 + m2) ((hm _ _).mpr ⟨(r1, m1), look_mem g1, (r2, m2), look_mem g2, rfl, rfl⟩)
    exact ⟨m, g, by omega⟩
theorem Rep.imp {d : ND} {S T : Nat → Nat → Prop} (h : Rep d S) (e : ∀ r c, S r c ↔ T r c) : Rep d T :=
  ⟨fun r c q => (e r c).mp (h.real r c q), fun r c q => h.least r c ((e r c).mpr q), h.nd⟩
theorem Rep.one (r c : Nat) : Rep [(r, c)] fun r' c' => r' = r ∧ c' = c := by
  refine ⟨fun r' c' h => ?_, fun r' c' h => ?_, by simp⟩
  · unfold lookN at h
    by_cases e : r = r'
    · rw [if_pos e] at h
      cases h
      exact ⟨e.symm, rfl⟩
    · rw [if_neg e] at h
      cases h
  · obtain ⟨rfl, rfl⟩ := h
    exact ⟨c', by simp [lookN], Nat.le_refl _⟩
theorem Rep.put {d : ND} {S : Nat → Nat → Prop} (h : Rep d S) (k v : Nat) (hk : ∀ c, ¬ S k c) : Rep (putN d k v) fun r c => S r c ∨ (r = k ∧ c = v) := by
  refine ⟨fun r c q => ?_, fun r c q => ?_, putN_nodup _ _ _ h.nd⟩
  · rw [lookN_put] at q
    by_cases e : r = k
    · rw [if_pos e] at q
      cases q
      exact .inr ⟨e, rfl⟩
    · rw [if_neg e] at q
      exact .inl (h.real _ _ q)
  · rw [lookN_put]
    rcases q with q | ⟨rfl, rfl⟩
    · have : r ≠ k := fun z => hk c (z ▸ q)
      rw [if_neg this]
      exact h.least _ _ q
    · exact ⟨c, by simp, Nat.le_refl _⟩
theorem Rep.len {d : ND} {S : Nat → Nat → Prop} (h : Rep d S) (m : Nat) (hk : ∀ r c, S r c → r < m) : d.length ≤ m := by
  have h1 : ∀ k ∈ d.map (·.1), k ∈ List.range m := fun k hk' => by
    have := (keysN k d).mp hk'
    cases q : lookN d k with
    | none => exact absurd q this
    | some c => exact List.mem_range.mpr (hk k c (h.real k c q))
  have := sub_len _ _ h.nd h1
  simpa using this
end MP

/-! Mini, part Z: rows and clicks in subtrees; the clicks that bring an item to a row. Plain Lean. -/
set_option linter.all false
set_option maxRecDepth 100000
namespace MP
open PySem (PyData Str)
/-- seen from the item: is what lies below it shown? -/
def vt (o : List Nat) (x : List Bool) (t k : Nat) : Bool := (abv o k).all fun a => !subB o t a || sB x a
theorem vt_iff {o : List Nat} {x : List Bool} {t k : Nat} : vt o x t k = true ↔ ∀ a ∈ abv o k, subB o t a = true → sB x a = true := by
  unfold vt
  rw [List.all_eq_true]
  constructor
  · intro h a ha hs
    have := h a ha
    rw [hs] at this
    simpa using this
  · intro h a ha
    cases q : subB o t a with
    | false => rfl
    | true => simpa using h a ha q
def gS (o : List Nat) (x : List Bool) (g : Nat → Nat) (t : Nat) : Nat := subSum o (fun k => if vt o x t k = true then g k else 0) t
theorem vt_self {o : List Nat} {x : List Bool} {t : Nat} : vt o x t t = true := vt_iff.mpr fun a ha hs => by
  have h1 := abv_lt _ _ ha
  rcases subB_iff.mp hs with rfl | h
  · omega
  · have := abv_lt _ _ h; omega
theorem sub_le {o : List Nat} {t k : Nat} (h : subB o t k = true) : t ≤ k := by
  rcases subB_iff.mp h with rfl | h
  · omega
  · have := abv_lt _ _ h; omega
theorem sub_trans {o : List Nat} {t c k : Nat} (h1 : subB o t c = true) (h2 : subB o c k = true) : subB o t k = true := by
  rcases subB_iff.mp h2 with rfl | h2
  · exact h1
  · rcases subB_iff.mp h1 with rfl | h1
    · exact subB_iff.mpr (.inr h2)
    · exact subB_iff.mpr (.inr (abv_trans _ _ _ h2 h1))
theorem sub_par {o : List Nat} {t c : Nat} (h : par o c = some t) : subB o t c = true := subB_iff.mpr (.inr (by rw [abv_some h]; exact List.mem_cons_self ..))
theorem sub_chain {o : List Nat} {k a b : Nat} (h1 : subB o a k = true) (h2 : subB o b k = true) : a = b ∨ a ∈ abv o b ∨ b ∈ abv o a :=
  chain k a b ((subB_iff.mp h1).imp Eq.symm id) ((subB_iff.mp h2).imp Eq.symm id)
theorem vt_child {o : List Nat} {x : List Bool} {t c k : Nat} (hc : par o c = some t) (hk : subB o c k = true) : vt o x t k = (sB x t && vt o x c k) := by
  have ht : t ∈ abv o k := by
    have h := sub_trans (sub_par hc) hk
    rcases subB_iff.mp h with e | h
    · have h1 := sub_le hk
      have h2 := (par_lt hc).1
      omega
    · exact h
  rw [Bool.eq_iff_iff, Bool.and_eq_true, vt_iff, vt_iff]
  constructor
  · intro h
    exact ⟨h t ht (subB_iff.mpr (.inl rfl)), fun a ha hs => h a ha (sub_trans (sub_par hc) hs)⟩
  · rintro ⟨h1, h2⟩ a ha hs
    rcases sub_chain (subB_iff.mpr (.inr ha)) hk with e | h | h
    · subst e
      exact h2 a ha (sub_self o a)
    · rw [abv_some hc] at h
      rcases List.mem_cons.mp h with rfl | h
      · exact h1
      · have := abv_lt _ _ h
        have := sub_le hs
        omega
    · exact h2 a ha (subB_iff.mpr (.inr h))
theorem subSum_congr {o : List Nat} {f g : Nat → Nat} {t : Nat} (h : ∀ k, k < o.length → subB o t k = true → f k = g k) : subSum o f t = subSum o g t := by
  unfold subSum
  congr 1
  refine List.map_congr_left fun k hk => ?_
  by_cases q : subB o t k = true
  · rw [if_pos q, if_pos q, h k (List.mem_range.mp hk) q]
  · rw [if_neg q, if_neg q]
theorem gS_split {o : List Nat} {x : List Bool} {g : Nat → Nat} {t : Nat} (ht : t < o.length) : gS o x g t = g t + if sB x t = true then ((kd o t).map (gS o x g)).sum else 0 := by
  unfold gS
  rw [sub_split _ ht, if_pos vt_self]
  congr 1
  have e : ∀ c ∈ kd o t, subSum o (fun k => if vt o x t k = true then g k else 0) c = if sB x t = true then gS o x g c else 0 := fun c hc => by
    obtain ⟨h1, h2⟩ := mem_kd.mp hc
    by_cases hx : sB x t = true
    · rw [if_pos hx]
      exact subSum_congr fun k _ hk => by rw [vt_child h2 hk, hx, Bool.true_and]
    · rw [if_neg hx]
      have hx : sB x t = false := by simpa using hx
      rw [subSum_congr (g := fun _ => 0) fun k _ hk => by rw [vt_child h2 hk, hx]; simp]
      unfold subSum
      exact (sum_zero _ _).mpr fun k _ => by split <;> rfl
  rw [List.map_congr_left e]
  by_cases hx : sB x t = true
  · simp [hx]
    rfl
  · rw [if_neg hx]
    exact (sum_zero _ _).mpr fun c _ => by rw [if_neg hx]
theorem gS_congr {o : List Nat} {x y : List Bool} {g h : Nat → Nat} {t : Nat} (e : ∀ k, k < o.length → subB o t k = true → sB x k = sB y k ∧ g k = h k) : gS o x g t = gS o y h t := by
  unfold gS
  refine subSum_congr fun k hk hs => ?_
  have : vt o x t k = vt o y t k := by
    rw [Bool.eq_iff_iff, vt_iff, vt_iff]
    have q : ∀ a ∈ abv o k, subB o t a = true → sB x a = sB y a := fun a ha hs' => (e a (by have := abv_lt _ _ ha; omega) hs').1
    exact ⟨fun z a ha hs' => by rw [← q a ha hs']; exact z a ha hs', fun z a ha hs' => by rw [q a ha hs']; exact z a ha hs'⟩
  rw [this, (e k hk hs).2]
theorem good_mix {o : List Nat} {x y : List Bool} {p : List Nat} (Gx : Good o x) (Gy : Good o y) : Good o (mixL o x y p) := by
  refine ⟨mix_len, fun i hi => ?_⟩
  by_cases h : i < o.length
  · rw [mix_get h] at hi
    split at hi
    · exact Gy.br i hi
    · exact Gx.br i hi
  · rw [sB_out (by rw [mix_len]; omega)] at hi
    cases hi
theorem good_set {o : List Nat} {x : List Bool} {i : Nat} {b : Bool} (G : Good o x) (hi : i < o.length) (hb : b = true → i ∈ brs o) : Good o (x.set i b) := by
  have hl := G.len
  refine ⟨by simp [G.len], fun k hk => ?_⟩
  rw [sB_set (by omega)] at hk
  by_cases e : k = i
  · rw [if_pos e] at hk
    rw [e]
    exact hb hk
  · rw [if_neg e] at hk
    exact G.br k hk
/-- where the item is not as it was -/
def dff (s x : List Bool) (k : Nat) : Nat := if sB s k = sB x k then 0 else 1
/-- the sizes of a subtree: rows and clicks -/
def SZ (o : List Nat) (s : List Bool) (t r c : Nat) : Prop := ∃ x, Good o x ∧ r = gS o x (fun _ => 1) t ∧ c = gS o x (dff s x) t
/-- rows and clicks of several subtrees together -/
def rowsL (o : List Nat) (x : List Bool) (cs : List Nat) : Nat := (cs.map (gS o x fun _ => 1)).sum
def clksL (o : List Nat) (s x : List Bool) (cs : List Nat) : Nat := (cs.map (gS o x (dff s x))).sum
theorem mix_other {o : List Nat} {x y : List Bool} {c d : Nat} (h : ∀ k, subB o d k = true → subB o c k = false) (g : Nat → List Bool → Nat → Nat) (hg : ∀ k u v, sB u k = sB v k → g d u k = g d v k) : gS o (mixL o x y [c]) (g d (mixL o x y [c])) d = gS o x (g d x) d := by
  have e : ∀ k, k < o.length → subB o d k = true → sB (mixL o x y [c]) k = sB x k := fun k hk hs => by
    rw [mix_get hk]
    simp [h k hs]
  exact gS_congr fun k hk hs => ⟨e k hk hs, hg _ _ _ (e k hk hs)⟩
theorem mix_same {o : List Nat} {x y : List Bool} {c : Nat} (g : List Bool → Nat → Nat) (hg : ∀ k u v, sB u k = sB v k → g u k = g v k) : gS o (mixL o x y [c]) (g (mixL o x y [c])) c = gS o y (g y) c := by
  have e : ∀ k, k < o.length → subB o c k = true → sB (mixL o x y [c]) k = sB y k := fun k hk hs => by
    rw [mix_get hk]
    simp [hs]
  exact gS_congr fun k hk hs => ⟨e k hk hs, hg _ _ _ (e k hk hs)⟩
theorem dff_congr (s : List Bool) : ∀ k u v, sB u k = sB v k → dff s u k = dff s v k := fun k u v h => by unfold dff; rw [h]
theorem mix_rows {o : List Nat} {x y : List Bool} {c : Nat} {cs : List Nat} (h : ∀ d ∈ cs, ∀ k, subB o d k = true → subB o c k = false) : rowsL o (mixL o x y [c]) (cs ++ [c]) = rowsL o x cs + gS o y (fun _ => 1) c := by
  unfold rowsL
  rw [List.map_append, List.sum_append]
  congr 1
  · congr 1
    exact List.map_congr_left fun d hd => mix_other (h d hd) (fun _ _ _ => 1) fun _ _ _ _ => rfl
  · simp
    exact mix_same (fun _ _ => 1) fun _ _ _ _ => rfl
theorem mix_clks {o : List Nat} {s x y : List Bool} {c : Nat} {cs : List Nat} (h : ∀ d ∈ cs, ∀ k, subB o d k = true → subB o c k = false) : clksL o s (mixL o x y [c]) (cs ++ [c]) = clksL o s x cs + gS o y (dff s y) c := by
  unfold clksL
  rw [List.map_append, List.sum_append]
  congr 1
  · congr 1
    exact List.map_congr_left fun d hd => mix_other (h d hd) (fun _ x => dff s x) fun k u v q => dff_congr s k u v q
  · simp
    exact mix_same (dff s) (dff_congr s)
theorem rows_snoc (o : List Nat) (x : List Bool) (cs : List Nat) (c : Nat) : rowsL o x (cs ++ [c]) = rowsL o x cs + gS o x (fun _ => 1) c := by
  unfold rowsL
  simp
theorem clks_snoc (o : List Nat) (s x : List Bool) (cs : List Nat) (c : Nat) : clksL o s x (cs ++ [c]) = clksL o s x cs + gS o x (dff s x) c := by
  unfold clksL
  simp
/-- rows and clicks together: some states, a start, and several subtrees -/
def SM (o : List Nat) (s : List Bool) (P : List Bool → Prop) (r0 c0 : Nat) (cs : List Nat) (r c : Nat) : Prop := ∃ x, Good o x ∧ P x ∧ r = r0 + rowsL o x cs ∧ c = c0 + clksL o s x cs
theorem sm_snoc {o : List Nat} {s : List Bool} {P : List Bool → Prop} {r0 c0 t : Nat} {cs : List Nat} (h : ∀ d ∈ cs, ∀ k, subB o d k = true → subB o t k = false) (hP : ∀ x y, Good o x → P x → P (mixL o x y [t])) (r c : Nat) : (∃ r1 c1 r2 c2, SM o s P r0 c0 cs r1 c1 ∧ SZ o s t r2 c2 ∧ r = r1 + r2 ∧ c = c1 + c2) ↔ SM o s P r0 c0 (cs ++ [t]) r c := by
  constructor
  · rintro ⟨r1, c1, r2, c2, ⟨x, Gx, Px, h1, h2⟩, ⟨y, Gy, h3, h4⟩, h5, h6⟩
    refine ⟨mixL o x y [t], good_mix Gx Gy, hP x y Gx Px, ?_, ?_⟩
    · rw [mix_rows h, h5, h1, h3]
      omega
    · rw [mix_clks h, h6, h2, h4]
      omega
  · rintro ⟨x, Gx, Px, h1, h2⟩
    rw [rows_snoc] at h1
    rw [clks_snoc] at h2
    exact ⟨_, _, _, _, ⟨x, Gx, Px, rfl, rfl⟩, ⟨x, Gx, rfl, rfl⟩, by omega, by omega⟩
theorem gS_pos {o : List Nat} {x : List Bool} {t : Nat} (ht : t < o.length) : 1 ≤ gS o x (fun _ => 1) t := by
  rw [gS_split ht]
  omega
theorem gS_le {o : List Nat} {x : List Bool} {t : Nat} : gS o x (fun _ => 1) t ≤ o.length := by
  unfold gS subSum
  have := sum_le (fun k => if subB o t k = true then (if vt o x t k = true then 1 else 0) else 0) 1 (List.range o.length) fun k _ => by
    by_cases h1 : subB o t k = true
    · rw [if_pos h1]; split <;> omega
    · rw [if_neg h1]; omega
  rw [List.length_range, Nat.one_mul] at this
  exact this
/-- a leaf -/
theorem sz_leaf {o : List Nat} (O : Out o) {s : List Bool} (Gs : Good o s) {t : Nat} (ht : t < o.length) (hk : kd o t = []) (r c : Nat) : (r = 1 ∧ c = 0) ↔ SZ o s t r c := by
  have hb : t ∉ brs o := fun z => by
    obtain ⟨h1, h2⟩ := br_child O z
    have : t + 1 ∈ kd o t := mem_kd.mpr ⟨h1, h2⟩
    rw [hk] at this
    cases this
  have off : ∀ x, Good o x → sB x t = false := fun x G => by
    cases q : sB x t with
    | false => rfl
    | true => exact absurd (G.br t q) hb
  have key : ∀ x, Good o x → gS o x (fun _ => 1) t = 1 ∧ gS o x (dff s x) t = 0 := fun x G => by
    rw [gS_split ht, gS_split ht, hk, off x G]
    simp [dff, off x G, off s Gs]
  constructor
  · rintro ⟨rfl, rfl⟩
    exact ⟨s, Gs, (key s Gs).1.symm, (key s Gs).2.symm⟩
  · rintro ⟨x, G, h1, h2⟩
    rw [(key x G).1] at h1
    rw [(key x G).2] at h2
    exact ⟨h1, h2⟩
theorem kd_disj {o : List Nat} {t c d : Nat} (hc : c ∈ kd o t) (hd : d ∈ kd o t) (h : c ≠ d) (k : Nat) (hs : subB o d k = true) : subB o c k = false := by
  cases q : subB o c k with
  | false => rfl
  | true => exact absurd (one_child (mem_kd.mp hc).2 (mem_kd.mp hd).2 ((subB_iff.mp q).imp Eq.symm id) ((subB_iff.mp hs).imp Eq.symm id)) h
/-- a branch, open or not -/
theorem sz_branch {o : List Nat} {s : List Bool} (Gs : Good o s) {t : Nat} (ht : t < o.length) (hb : t ∈ brs o) (r c : Nat) : (SM o s (fun x => sB x t = true) 1 (if sB s t = true then 0 else 1) (kd o t) r c ∨ (r = 1 ∧ c = if sB s t = true then 1 else 0)) ↔ SZ o s t r c := by
  have open_ : ∀ x, sB x t = true → gS o x (fun _ => 1) t = 1 + rowsL o x (kd o t) ∧ gS o x (dff s x) t = (if sB s t = true then 0 else 1) + clksL o s x (kd o t) := fun x hx => by
    rw [gS_split ht, gS_split ht, if_pos hx, if_pos hx]
    refine ⟨rfl, ?_⟩
    unfold clksL
    congr 1
    unfold dff
    rw [hx]
  have shut : ∀ x, sB x t = false → gS o x (fun _ => 1) t = 1 ∧ gS o x (dff s x) t = if sB s t = true then 1 else 0 := fun x hx => by
    rw [gS_split ht, gS_split ht, hx]
    refine ⟨rfl, ?_⟩
    unfold dff
    rw [hx]
    cases sB s t <;> rfl
  have hl := Gs.len
  constructor
  · rintro (⟨x, G, hx, h1, h2⟩ | ⟨h1, h2⟩)
    · exact ⟨x, G, by rw [(open_ x hx).1]; exact h1, by rw [(open_ x hx).2]; exact h2⟩
    · have hx : sB (s.set t false) t = false := by rw [sB_set (by omega), if_pos rfl]
      exact ⟨s.set t false, good_set Gs ht (fun z => by cases z), by rw [(shut _ hx).1]; exact h1, by rw [(shut _ hx).2]; exact h2⟩
  · rintro ⟨x, G, h1, h2⟩
    cases hx : sB x t with
    | true => exact .inl ⟨x, G, hx, by rw [← (open_ x hx).1]; exact h1, by rw [← (open_ x hx).2]; exact h2⟩
    | false => exact .inr ⟨by rw [← (shut x hx).1]; exact h1, by rw [← (shut x hx).2]; exact h2⟩
theorem sm_open0 {o : List Nat} {s : List Bool} (Gs : Good o s) {t : Nat} (ht : t < o.length) (hb : t ∈ brs o) (r0 c0 r c : Nat) : (r = r0 ∧ c = c0) ↔ SM o s (fun x => sB x t = true) r0 c0 [] r c := by
  have hl := Gs.len
  constructor
  · rintro ⟨rfl, rfl⟩
    exact ⟨s.set t true, good_set Gs ht (fun _ => hb), by show sB (s.set t true) t = true; rw [sB_set (by omega), if_pos rfl], rfl, rfl⟩
  · rintro ⟨x, _, _, h1, h2⟩
    exact ⟨h1, h2⟩
theorem mix_keep {o : List Nat} {x y : List Bool} {t i : Nat} (hi : i < o.length) (h : subB o t i = false) : sB (mixL o x y [t]) i = sB x i := by
  rw [mix_get hi]
  simp [h]
end MP

/-! Mini, part Zb: what comes ahead of an item; the clicks that bring an item to a row. Plain Lean. -/
set_option linter.all false
set_option maxRecDepth 100000
namespace MP
open PySem (PyData Str)
/-- the items side by side with one -/
def lvl (o : List Nat) (i : Nat) : List Nat := match par o i with
  | none => rts o
  | some p => kd o p
/-- from the root down to the item -/
def chn (o : List Nat) (i : Nat) : List Nat := (abv o i).reverse ++ [i]
def tbOf (o : List Nat) (ch : List Nat) : List Nat := ch.flatMap fun j => (lvl o j).filter fun k => decide (k < j)
def tb (o : List Nat) (i : Nat) : List Nat := tbOf o (chn o i)
theorem chn_some {o : List Nat} {i p : Nat} (h : par o i = some p) : chn o i = chn o p ++ [i] := by
  unfold chn
  rw [abv_some h, List.reverse_cons]
theorem chn_none {o : List Nat} {i : Nat} (h : par o i = none) : chn o i = [i] := by
  unfold chn
  rw [abv_none h]
  rfl
theorem tbOf_snoc (o : List Nat) (ch : List Nat) (i : Nat) : tbOf o (ch ++ [i]) = tbOf o ch ++ (lvl o i).filter fun k => decide (k < i) := by
  unfold tbOf
  simp
theorem lvl_lt {o : List Nat} {i k : Nat} (h : k ∈ lvl o i) : k < o.length := by
  unfold lvl at h
  split at h
  · exact (mem_rts.mp h).1
  · exact (mem_kd.mp h).1
theorem tb_lt {o : List Nat} {ch : List Nat} {t : Nat} (h : t ∈ tbOf o ch) : t < o.length := by
  obtain ⟨j, _, h⟩ := List.mem_flatMap.mp h
  exact lvl_lt (List.mem_filter.mp h).1
/-- the trees at one level, ahead of the item -/
theorem level_sum {o : List Nat} (O : Out o) {i k x : Nat} (hi : i < o.length) (hk : k < o.length) : (((lvl o i).filter fun t => decide (t < i)).map fun t => if subB o t k = true then x else 0).sum = if k < i ∧ (∀ p, par o i = some p → p ∈ abv o k) then x else 0 := by
  have nd : (lvl o i).Nodup := by
    unfold lvl
    split
    · exact rts_nodup o
    · exact kd_nodup o _
  -- the one that k lies in
  by_cases hq : ∀ p, par o i = some p → p ∈ abv o k
  · have hc : ∃ c, c ∈ lvl o i ∧ subB o c k = true ∧ gN o c = gN o i ∧ ∀ d, d ∈ lvl o i → subB o d k = true → d = c := by
      unfold lvl
      cases hp : par o i with
      | none =>
        obtain ⟨r, h1, h2⟩ := root_at O hk
        refine ⟨r, h1, h2, ?_, fun d hd hs => ?_⟩
        · rw [(mem_rts.mp h1).2, (par_root O hi).mp hp]
        · have e1 := (par_root O (mem_rts.mp h1).1).mpr (mem_rts.mp h1).2
          have e2 := (par_root O (mem_rts.mp hd).1).mpr (mem_rts.mp hd).2
          exact one_root e2 e1 ((subB_iff.mp hs).imp Eq.symm id) ((subB_iff.mp h2).imp Eq.symm id)
      | some p =>
        obtain ⟨c, h1, h2⟩ := child_on k (hq p hp)
        have hcl : c < o.length := by
          rcases h2 with rfl | h2
          · exact hk
          · have := abv_lt _ _ h2; omega
        refine ⟨c, mem_kd.mpr ⟨hcl, h1⟩, subB_iff.mpr (h2.imp Eq.symm id), ?_, fun d hd hs => ?_⟩
        · have := (par_lt h1).2
          have := (par_lt hp).2
          omega
        · exact one_child (mem_kd.mp hd).2 h1 ((subB_iff.mp hs).imp Eq.symm id) h2
    obtain ⟨c, h1, h2, h3, h4⟩ := hc
    have side : c < i ↔ k < i := by
      constructor
      · intro hci
        rcases subB_iff.mp h2 with rfl | h2
        · exact hci
        · have := (abv_deeper O k hk h2).2
          by_cases q : k < i
          · exact q
          · have := this i hci (by omega)
            omega
      · intro hki
        have := sub_le h2
        omega
    by_cases hki : k < i
    · rw [if_pos ⟨hki, hq⟩]
      refine sum_uniq (fun t => subB o t k) x c _ (List.Pairwise.filter _ nd) (List.mem_filter.mpr ⟨h1, by simpa using side.mpr hki⟩) h2 fun d hd hs => h4 d (List.mem_filter.mp hd).1 hs
    · rw [if_neg (fun z => hki z.1)]
      refine sum_none (fun t => subB o t k) x _ fun d hd => ?_
      cases q : subB o d k with
      | false => rfl
      | true =>
        have e := h4 d (List.mem_filter.mp hd).1 q
        have hd2 := (List.mem_filter.mp hd).2
        rw [e] at hd2
        exact absurd (side.mp (by simpa using hd2)) hki
  · rw [if_neg (fun z => hq z.2)]
    refine sum_none (fun t => subB o t k) x _ fun d hd => ?_
    cases q : subB o d k with
    | false => rfl
    | true =>
      refine absurd (fun p hp => ?_) hq
      have hd := (List.mem_filter.mp hd).1
      unfold lvl at hd
      rw [hp] at hd
      have h := sub_trans (sub_par (mem_kd.mp hd).2) q
      rcases subB_iff.mp h with e | h
      · have := sub_le q
        have := (par_lt (mem_kd.mp hd).2).1
        omega
      · exact h
/-- ahead of an item: what lies over it, and the trees before -/
theorem ahead {o : List Nat} (O : Out o) {k x : Nat} (hk : k < o.length) : ∀ i, i < o.length → (if k ∈ abv o i then x else 0) + ((tb o i).map fun t => if subB o t k = true then x else 0).sum = if k < i then x else 0 := by
  intro i
  induction i using Nat.strongRecOn with
  | ind i ih =>
    intro hi
    have hlv := level_sum O (x := x) hi hk
    unfold tb
    cases hp : par o i with
    | none =>
      rw [chn_none hp, abv_none hp]
      have : tbOf o [i] = (lvl o i).filter fun k => decide (k < i) := by
        unfold tbOf
        simp
      rw [this, hlv]
      have e : (k < i ∧ ∀ p, par o i = some p → p ∈ abv o k) ↔ k < i := ⟨fun z => z.1, fun z => ⟨z, fun p q => by rw [hp] at q; cases q⟩⟩
      by_cases h : k < i
      · rw [if_pos (e.mpr h), if_pos h]; simp
      · rw [if_neg (fun z => h (e.mp z)), if_neg h]; simp
    | some p =>
      have hpi := (par_lt hp).1
      have h := ih p hpi (by omega)
      rw [chn_some hp, tbOf_snoc, List.map_append, List.sum_append, hlv, abv_some hp]
      unfold tb at h
      have e1 : (if k ∈ p :: abv o p then x else 0) = (if k = p then x else 0) + if k ∈ abv o p then x else 0 := by
        by_cases q : k = p
        · subst q
          have : k ∉ abv o k := fun z => Nat.lt_irrefl _ (abv_lt _ _ z)
          simp [this]
        · simp [q]
      have e2 : (k < i ∧ ∀ p', par o i = some p' → p' ∈ abv o k) ↔ (p < k ∧ k < i) := by
        constructor
        · rintro ⟨h1, h2⟩
          exact ⟨abv_lt _ _ (h2 p hp), h1⟩
        · rintro ⟨h1, h2⟩
          refine ⟨h2, fun p' hp' => ?_⟩
          rw [hp] at hp'
          cases hp'
          refine abv_of_deeper O k hk h1 fun m m1 m2 => ?_
          have := par_between O hi hp m m1 (by omega)
          have := (par_lt hp).2
          omega
      rw [e1]
      generalize ((tbOf o (chn o p)).map fun t => if subB o t k = true then x else 0).sum = T at *
      generalize (if k ∈ abv o p then x else 0) = A at *
      by_cases q1 : p < k ∧ k < i
      · have f1 : ¬ k = p := by omega
        have f2 : ¬ k < p := by omega
        rw [if_pos (e2.mpr q1), if_pos q1.2, if_neg f1]
        rw [if_neg f2] at h
        omega
      · rw [if_neg (fun z => q1 (e2.mp z))]
        by_cases q2 : k < p
        · have f1 : ¬ k = p := by omega
          have f2 : k < i := by omega
          rw [if_neg f1, if_pos f2]
          rw [if_pos q2] at h
          omega
        · rw [if_neg q2] at h
          by_cases q3 : k = p
          · have f2 : k < i := by omega
            rw [if_pos q3, if_pos f2]
            omega
          · have f2 : ¬ k < i := by omega
            rw [if_neg q3, if_neg f2]
            omega
/-- sums over what comes ahead -/
theorem ahead_sum {o : List Nat} (O : Out o) (g : Nat → Nat) {i : Nat} (hi : i < o.length) : ((List.range i).map g).sum = ((List.range o.length).map fun k => if k ∈ abv o i then g k else 0).sum + ((tb o i).map (subSum o g)).sum := by
  have e1 : ((tb o i).map (subSum o g)).sum = ((List.range o.length).map fun k => ((tb o i).map fun t => if subB o t k = true then g k else 0).sum).sum := sum_swap (fun t k => if subB o t k = true then g k else 0) (List.range o.length) (tb o i)
  rw [e1, ← sum_add, List.map_congr_left (g := fun k => if k < i then g k else 0) fun k hk => ahead O (List.mem_range.mp hk) i hi]
  have : ∀ n, i ≤ n → ((List.range n).map fun k => if k < i then g k else 0).sum = ((List.range i).map g).sum := by
    intro n hn
    induction n with
    | zero =>
      have : i = 0 := by omega
      subst this
      rfl
    | succ n ih =>
      by_cases e : i = n + 1
      · subst e
        congr 1
        exact List.map_congr_left fun k hk => by rw [if_pos (List.mem_range.mp hk)]
      · rw [List.range_succ, List.map_append, List.sum_append, ih (by omega)]
        have : ¬ n < i := by omega
        simp [this]
  exact (this o.length (by omega)).symm
/-- the trees ahead share nothing -/
theorem tb_disj {o : List Nat} (O : Out o) {i t : Nat} {cs q : List Nat} (hi : i < o.length) (h : tb o i = cs ++ t :: q) : ∀ d ∈ cs, ∀ k, k < o.length → subB o d k = true → subB o t k = false := by
  intro d hd k hk hs
  cases z : subB o t k with
  | false => rfl
  | true =>
    have a := ahead O (x := 1) hk i hi
    rw [h, List.map_append, List.sum_append, List.map_cons, List.sum_cons, if_pos z] at a
    have b : 1 ≤ (cs.map fun t => if subB o t k = true then 1 else 0).sum := by
      obtain ⟨l1, l2, rfl⟩ := List.append_of_mem hd
      rw [List.map_append, List.sum_append, List.map_cons, List.sum_cons, if_pos hs]
      omega
    split at a <;> split at a <;> omega
theorem tb_abv {o : List Nat} (O : Out o) {i t k : Nat} (hi : i < o.length) (ht : t ∈ tb o i) (hk : k ∈ abv o i) : subB o t k = false := by
  cases z : subB o t k with
  | false => rfl
  | true =>
    have hkl := abv_lt _ _ hk
    have a := ahead O (x := 1) (k := k) (by omega) i hi
    obtain ⟨l1, l2, e⟩ := List.append_of_mem ht
    rw [e, List.map_append, List.sum_append, List.map_cons, List.sum_cons, if_pos z, if_pos hk] at a
    split at a <;> omega
theorem chn_sub {o : List Nat} {i j : Nat} (h : j ∈ chn o i) : ∀ a, a ∈ abv o j → a ∈ abv o i := by
  unfold chn at h
  rcases List.mem_append.mp h with h | h
  · exact fun a ha => abv_trans _ _ _ (List.mem_reverse.mp h) ha
  · simp at h
    subst h
    exact fun a ha => ha
theorem tb_over {o : List Nat} (O : Out o) {i t : Nat} (hi : i < o.length) (ht : t ∈ tb o i) : ∀ a, a ∈ abv o t → a ∈ abv o i := by
  obtain ⟨j, hj, h⟩ := List.mem_flatMap.mp ht
  have h := (List.mem_filter.mp h).1
  have hs := chn_sub hj
  intro a ha
  refine hs a ?_
  unfold lvl at h
  cases hp : par o j with
  | none =>
    rw [hp] at h
    have : par o t = none := (par_root O (mem_rts.mp h).1).mpr (mem_rts.mp h).2
    rw [abv_none this] at ha
    cases ha
  | some p =>
    rw [hp] at h
    rw [abv_some (mem_kd.mp h).2] at ha
    rw [abv_some hp]
    exact ha
theorem vis_vt {o : List Nat} {x : List Bool} {t k : Nat} (hv : vis o x t = true) (hk : subB o t k = true) : vis o x k = vt o x t k := by
  rw [Bool.eq_iff_iff, vis_all, vt_iff]
  constructor
  · exact fun h a ha _ => h a ha
  · intro h a ha
    rcases sub_chain (subB_iff.mpr (.inr ha)) hk with rfl | q | q
    · exact h a ha (sub_self o a)
    · exact vis_all.mp hv a q
    · exact h a ha (subB_iff.mpr (.inr q))
/-- rows above an item; items above it that are shown and are not as they were -/
def rowN (o : List Nat) (x : List Bool) (i : Nat) : Nat := ((List.range i).map fun k => if vis o x k = true then 1 else 0).sum
def clkN (o : List Nat) (s x : List Bool) (i : Nat) : Nat := ((List.range i).map fun k => if vis o x k = true then dff s x k else 0).sum
/-- how many over the item are shut -/
def shutN (o : List Nat) (s : List Bool) (i : Nat) : Nat := ((abv o i).filter fun a => !sB s a).length
theorem abv_nodup {o : List Nat} : ∀ i, (abv o i).Nodup := by
  intro i
  induction i using Nat.strongRecOn with
  | ind i ih =>
    cases hp : par o i with
    | none => rw [abv_none hp]; simp
    | some p =>
      rw [abv_some hp, List.nodup_cons]
      exact ⟨fun z => Nat.lt_irrefl _ (abv_lt _ _ z), ih p (par_lt hp).1⟩
theorem sum_over (g : Nat → Nat) : ∀ (l : List Nat) (n : Nat), l.Nodup → (∀ a ∈ l, a < n) → ((List.range n).map fun k => if k ∈ l then g k else 0).sum = (l.map g).sum
  | [], n, _, _ => (sum_zero _ _).mpr fun k _ => by simp
  | a :: l, n, nd, h => by
    rw [List.nodup_cons] at nd
    have ih := sum_over g l n nd.2 fun b hb => h b (List.mem_cons_of_mem _ hb)
    have e : (List.range n).map (fun k => if k ∈ a :: l then g k else 0) = (List.range n).map fun k => (if decide (k = a) = true then g a else 0) + if k ∈ l then g k else 0 := by
      refine List.map_congr_left fun k _ => ?_
      by_cases q : k = a
      · subst q
        simp [nd.1]
      · simp [q]
    rw [e, sum_add, ih, List.map_cons, List.sum_cons]
    congr 1
    exact sum_uniq (fun k => decide (k = a)) (g a) a _ List.nodup_range (List.mem_range.mpr (h a (by simp))) (by simp) fun d _ hd => by simpa using hd
theorem rowN_eq {o : List Nat} (O : Out o) {x : List Bool} {i : Nat} (hi : i < o.length) (hv : vis o x i = true) : rowN o x i = (abv o i).length + rowsL o x (tb o i) := by
  unfold rowN
  rw [ahead_sum O _ hi]
  have hva : ∀ a ∈ abv o i, vis o x a = true := fun a ha => vis_all.mpr fun b hb => vis_all.mp hv b (abv_trans _ _ _ ha hb)
  congr 1
  · rw [sum_over _ _ _ (abv_nodup i) fun a ha => by have := abv_lt _ _ ha; omega]
    rw [List.map_congr_left (g := fun _ => 1) fun a ha => by rw [if_pos (hva a ha)]]
    generalize abv o i = l
    induction l with
    | nil => rfl
    | cons a l ih =>
      rw [List.map_cons, List.sum_cons, ih, List.length_cons]
      omega
  · unfold rowsL
    congr 1
    refine List.map_congr_left fun t ht => ?_
    have hvt : vis o x t = true := vis_all.mpr fun b hb => vis_all.mp hv b (tb_over O hi ht b hb)
    unfold gS
    exact subSum_congr fun k _ hk => by rw [vis_vt hvt hk]
theorem clkN_eq {o : List Nat} (O : Out o) {s x : List Bool} {i : Nat} (hi : i < o.length) (hv : vis o x i = true) : clkN o s x i = shutN o s i + clksL o s x (tb o i) := by
  unfold clkN
  rw [ahead_sum O _ hi]
  have hva : ∀ a ∈ abv o i, vis o x a = true := fun a ha => vis_all.mpr fun b hb => vis_all.mp hv b (abv_trans _ _ _ ha hb)
  have hx : ∀ a ∈ abv o i, sB x a = true := vis_all.mp hv
  congr 1
  · rw [sum_over _ _ _ (abv_nodup i) fun a ha => by have := abv_lt _ _ ha; omega]
    unfold shutN
    rw [List.map_congr_left (g := fun a => if sB s a = true then 0 else 1) fun a ha => by rw [if_pos (hva a ha)]; unfold dff; rw [hx a ha]]
    generalize abv o i = l
    induction l with
    | nil => rfl
    | cons a l ih =>
      rw [List.map_cons, List.sum_cons, ih, List.filter_cons]
      cases sB s a
      · simp
        omega
      · simp
  · unfold clksL
    congr 1
    refine List.map_congr_left fun t ht => ?_
    have hvt : vis o x t = true := vis_all.mpr fun b hb => vis_all.mp hv b (tb_over O hi ht b hb)
    unfold gS
    exact subSum_congr fun k _ hk => by rw [vis_vt hvt hk]
end MP

/-! Mini, part Zc: the fewest clicks to a row, to a screen. Plain Lean. -/
set_option linter.all false
set_option maxRecDepth 100000
namespace MP
open PySem (PyData Str)
theorem filter_at (p : Nat → Bool) (i : Nat) : ∀ (n r : Nat), ((List.range n).filter p)[r]? = some i ↔ i < n ∧ p i = true ∧ ((List.range i).filter p).length = r
  | 0, r => by simp
  | n + 1, r => by
    have ih := filter_at p i n r
    rw [List.range_succ, List.filter_append, List.getElem?_append]
    by_cases h : r < ((List.range n).filter p).length
    · rw [if_pos h, ih]
      constructor
      · rintro ⟨h1, h2⟩
        exact ⟨by omega, h2⟩
      · rintro ⟨h1, h2, h3⟩
        refine ⟨?_, h2, h3⟩
        by_cases e : i = n
        · subst e
          omega
        · omega
    · rw [if_neg h]
      have big : ∀ i, i < n → p i = true → ((List.range i).filter p).length < ((List.range n).filter p).length := fun i hi hp => by
        have e : ((List.range n).filter p).length = ((List.range i).filter p).length + (((List.range n).drop i).filter p).length := by
          have h1 : List.range n = (List.range n).take i ++ (List.range n).drop i := (List.take_append_drop i _).symm
          have h2 : (List.range n).take i = List.range i := by rw [List.take_range, Nat.min_eq_left (by omega)]
          rw [h2] at h1
          conv => lhs; rw [h1]
          rw [List.filter_append, List.length_append]
        have : i ∈ ((List.range n).drop i).filter p := List.mem_filter.mpr ⟨by
          rw [List.mem_iff_getElem?]
          exact ⟨0, by rw [List.getElem?_drop, Nat.add_zero, List.getElem?_range hi]⟩, hp⟩
        have := List.length_pos_of_mem this
        omega
      constructor
      · intro q
        cases hp : p n with
        | false =>
          rw [List.filter_cons_of_neg (by simp [hp])] at q
          simp at q
        | true =>
          rw [List.filter_cons_of_pos (by simp [hp])] at q
          have : r - ((List.range n).filter p).length = 0 := by
            cases z : r - ((List.range n).filter p).length with
            | zero => rfl
            | succ m => rw [z] at q; simp at q
          rw [this] at q
          simp at q
          subst q
          exact ⟨by omega, hp, by omega⟩
      · rintro ⟨h1, h2, h3⟩
        have e : i = n := by
          by_cases e : i = n
          · exact e
          · have := big i (by omega) h2
            omega
        subst e
        rw [h3, Nat.sub_self, List.filter_cons_of_pos (by simp [h2])]
        rfl
theorem count_sum (p : Nat → Bool) : ∀ l : List Nat, (l.filter p).length = (l.map fun k => if p k = true then 1 else 0).sum
  | [] => rfl
  | a :: l => by
    rw [List.filter_cons, List.map_cons, List.sum_cons, ← count_sum p l]
    cases p a <;> simp
    omega
theorem shown_at {o : List Nat} {x : List Bool} {i r : Nat} : (shown o x)[r]? = some i ↔ i < o.length ∧ vis o x i = true ∧ rowN o x i = r := by
  unfold shown
  rw [filter_at, count_sum]
  rfl
/-- as the target where it is shown, as the start elsewhere -/
def cutS (o : List Nat) (s x : List Bool) (m : Nat) : List Bool := (List.range o.length).map fun k => if k < m ∧ vis o x k = true then sB x k else sB s k
theorem cut_len {o : List Nat} {s x : List Bool} {m : Nat} : (cutS o s x m).length = o.length := by simp [cutS]
theorem cut_get {o : List Nat} {s x : List Bool} {m k : Nat} (hk : k < o.length) : sB (cutS o s x m) k = if k < m ∧ vis o x k = true then sB x k else sB s k := by
  unfold cutS sB
  rw [List.getD_eq_getElem?_getD, List.getElem?_map, List.getElem?_range hk]
  rfl
theorem cut_good {o : List Nat} {s x : List Bool} {m : Nat} (Gs : Good o s) (Gx : Good o x) : Good o (cutS o s x m) := by
  refine ⟨cut_len, fun i hi => ?_⟩
  by_cases h : i < o.length
  · rw [cut_get h] at hi
    split at hi
    · exact Gx.br i hi
    · exact Gs.br i hi
  · rw [sB_out (by rw [cut_len]; omega)] at hi
    cases hi
theorem cut_vis {o : List Nat} {s x : List Bool} {m : Nat} : ∀ k, k < o.length → k ≤ m → vis o (cutS o s x m) k = vis o x k := by
  intro k
  induction k using Nat.strongRecOn with
  | ind k ih =>
    intro hk hm
    cases hp : par o k with
    | none => rw [vis_none hp, vis_none hp]
    | some p =>
      have hpk := (par_lt hp).1
      rw [vis_some hp, vis_some hp, ih p hpk (by omega) (by omega), cut_get (by omega)]
      cases q : vis o x p with
      | false => simp
      | true =>
        have : p < m := by omega
        simp [this]
theorem cut_row {o : List Nat} {s x : List Bool} {m : Nat} (hm : m ≤ o.length) : rowN o (cutS o s x m) m = rowN o x m := by
  unfold rowN
  congr 1
  refine List.map_congr_left fun k hk => ?_
  have hk := List.mem_range.mp hk
  rw [cut_vis k (by omega) (by omega)]
theorem cut_shown {o : List Nat} {s x : List Bool} : shown o (cutS o s x o.length) = shown o x := by
  unfold shown
  refine List.filter_congr fun k hk => ?_
  have hk := List.mem_range.mp hk
  exact cut_vis k hk (by omega)
theorem cut_cost {o : List Nat} {s x : List Bool} {m : Nat} (hm : m ≤ o.length) : cost o s (cutS o s x m) = clkN o s x m := by
  have key : ∀ k, k < o.length → cnt o s (cutS o s x m) k = if k < m then (if vis o x k = true then dff s x k else 0) else 0 := by
    intro k hk
    unfold cnt
    rw [cut_get hk]
    by_cases h : k < m ∧ vis o x k = true
    · rw [if_pos h, if_pos h.1, if_pos h.2]
      unfold dff
      by_cases e : sB s k = sB x k
      · rw [if_neg (fun z => z e), if_pos e, if_neg]
        rintro ⟨h1, h2⟩
        obtain ⟨j, hj, hkj, hne⟩ := dif_iff.mp h2
        rw [cut_get hj] at hne
        by_cases q : j < m ∧ vis o x j = true
        · have := vis_all.mp q.2 k hkj
          rw [e, this] at h1
          cases h1
        · rw [if_neg q] at hne
          exact hne rfl
      · rw [if_pos e, if_neg e]
    · rw [if_neg h, if_neg (fun z => z rfl)]
      have e2 : (if k < m then (if vis o x k = true then dff s x k else 0) else 0) = 0 := by
        by_cases a : k < m
        · rw [if_pos a, if_neg (fun z => h ⟨a, z⟩)]
        · rw [if_neg a]
      rw [e2, if_neg]
      rintro ⟨h1, h2⟩
      obtain ⟨j, hj, hkj, hne⟩ := dif_iff.mp h2
      rw [cut_get hj] at hne
      by_cases q : j < m ∧ vis o x j = true
      · refine h ⟨by have := abv_lt _ _ hkj; omega, vis_all.mpr fun a ha => vis_all.mp q.2 a (abv_trans _ _ _ hkj ha)⟩
      · rw [if_neg q] at hne
        exact hne rfl
  unfold cost clkN
  rw [List.map_congr_left fun k hk => key k (List.mem_range.mp hk)]
  have : ∀ n, m ≤ n → ((List.range n).map fun k => if k < m then (if vis o x k = true then dff s x k else 0) else 0).sum = ((List.range m).map fun k => if vis o x k = true then dff s x k else 0).sum := by
    intro n hn
    induction n with
    | zero =>
      have : m = 0 := by omega
      subst this
      rfl
    | succ n ih =>
      by_cases e : m = n + 1
      · subst e
        congr 1
        exact List.map_congr_left fun k hk => by rw [if_pos (List.mem_range.mp hk)]
      · rw [List.range_succ, List.map_append, List.sum_append, ih (by omega)]
        have : ¬ n < m := by omega
        simp [this]
  exact this _ hm
theorem sum_mono (f g : Nat → Nat) : ∀ l : List Nat, (∀ k ∈ l, f k ≤ g k) → (l.map f).sum ≤ (l.map g).sum
  | [], _ => by simp
  | a :: l, h => by
    rw [List.map_cons, List.map_cons, List.sum_cons, List.sum_cons]
    have h1 := h a (by simp)
    have h2 := sum_mono f g l fun k hk => h k (List.mem_cons_of_mem _ hk)
    omega
theorem clk_le {o : List Nat} {s x : List Bool} {m : Nat} (hm : m ≤ o.length) : clkN o s x m ≤ cost o s x := by
  have h1 : clkN o s x m ≤ ((List.range m).map (cnt o s x)).sum := by
    unfold clkN
    refine sum_mono _ _ _ fun k _ => ?_
    unfold dff cnt
    by_cases e : sB s k = sB x k
    · rw [if_pos e]
      split <;> omega
    · rw [if_neg e, if_pos e]
      split <;> omega
  have h2 : ∀ n, m ≤ n → ((List.range m).map (cnt o s x)).sum ≤ ((List.range n).map (cnt o s x)).sum := by
    intro n hn
    induction n with
    | zero =>
      have : m = 0 := by omega
      rw [this]
      exact Nat.le_refl _
    | succ n ih =>
      by_cases e : m = n + 1
      · rw [e]
        exact Nat.le_refl _
      · rw [List.range_succ, List.map_append, List.sum_append]
        have := ih (by omega)
        omega
  have := h2 _ hm
  unfold cost
  omega
/-- the items of a screen that are not as the start has them -/
def dscr (o : List Nat) (s : List Bool) (scr : List Nat) : List Nat := (List.range o.length).filter fun k => decide (k ∈ brs o) && decide (k ∈ scr) && !(sB s k == decide (k + 1 ∈ scr))
theorem seen_br {o : List Nat} (O : Out o) {x : List Bool} (Gx : Good o x) {k : Nat} (hk : k < o.length) (hv : vis o x k = true) : sB x k = (decide (k ∈ brs o) && decide (k + 1 ∈ shown o x)) := by
  by_cases hb : k ∈ brs o
  · obtain ⟨h1, h2⟩ := br_child O hb
    have e : k + 1 ∈ shown o x ↔ sB x k = true := by
      rw [mem_shown, vis_some h2, hv, Bool.and_true]
      exact ⟨fun z => z.2, fun z => ⟨h1, z⟩⟩
    cases q : sB x k with
    | false =>
      have : k + 1 ∉ shown o x := fun z => by rw [e.mp z] at q; cases q
      simp [this]
    | true => simp [hb, e.mpr q]
  · have : sB x k = false := by
      cases q : sB x k with
      | false => rfl
      | true => exact absurd (Gx.br k q) hb
    simp [this, hb]
theorem dscr_len {o : List Nat} (O : Out o) {s x : List Bool} (Gs : Good o s) (Gx : Good o x) : (dscr o s (shown o x)).length = clkN o s x o.length := by
  unfold dscr clkN
  rw [count_sum]
  congr 1
  refine List.map_congr_left fun k hk => ?_
  have hk := List.mem_range.mp hk
  by_cases hv : vis o x k = true
  · have hm : k ∈ shown o x := mem_shown.mpr ⟨hk, hv⟩
    rw [if_pos hv]
    unfold dff
    rw [seen_br O Gx hk hv]
    by_cases hb : k ∈ brs o
    · simp [hm, hb]
    · have : sB s k = false := by
        cases q : sB s k with
        | false => rfl
        | true => exact absurd (Gs.br k q) hb
      simp [hb, this]
  · have hm : k ∉ shown o x := fun z => hv (mem_shown.mp z).2
    rw [if_neg hv]
    simp [hm]
/-- the least of a set -/
structure LeastO (a : Option Nat) (S : Nat → Prop) : Prop where
  real : ∀ c, a = some c → S c
  least : ∀ c, S c → ∃ m, a = some m ∧ m ≤ c
theorem LeastO.eq {a b : Option Nat} {S T : Nat → Prop} (ha : LeastO a S) (hb : LeastO b T) (h1 : ∀ c, S c → ∃ d, d ≤ c ∧ T d) (h2 : ∀ d, T d → ∃ c, c ≤ d ∧ S c) : a = b := by
  cases a with
  | none =>
    cases b with
    | none => rfl
    | some d =>
      obtain ⟨c, _, hc⟩ := h2 d (hb.real d rfl)
      obtain ⟨m, hm, _⟩ := ha.least c hc
      cases hm
  | some c =>
    obtain ⟨d, hd, hT⟩ := h1 c (ha.real c rfl)
    obtain ⟨m, hm, hmd⟩ := hb.least d hT
    obtain ⟨c', hc', hS⟩ := h2 m (hb.real m hm)
    obtain ⟨m', hm', hmc⟩ := ha.least c' hS
    cases hm'
    rw [hm]
    congr 1
    omega
/-- rows of an item, and clicks to bring it there -/
def SR (o : List Nat) (s : List Bool) (i r c : Nat) : Prop := ∃ x, Good o x ∧ vis o x i = true ∧ rowN o x i = r ∧ clkN o s x i = c
theorem sr_iff {o : List Nat} (O : Out o) {s : List Bool} {i : Nat} (hi : i < o.length) (r c : Nat) : SM o s (fun x => vis o x i = true) (abv o i).length (shutN o s i) (tb o i) r c ↔ SR o s i r c := by
  constructor
  · rintro ⟨x, Gx, hv, h1, h2⟩
    exact ⟨x, Gx, hv, by rw [rowN_eq O hi hv, h1], by rw [clkN_eq O hi hv, h2]⟩
  · rintro ⟨x, Gx, hv, h1, h2⟩
    exact ⟨x, Gx, hv, by rw [← h1, rowN_eq O hi hv], by rw [← h2, clkN_eq O hi hv]⟩
theorem abv_br {o : List Nat} (O : Out o) {i a : Nat} (hi : i < o.length) (ha : a ∈ abv o i) : a ∈ brs o := by
  obtain ⟨c, h1, h2⟩ := child_on i ha
  refine par_br O ?_ h1
  rcases h2 with rfl | h2
  · exact hi
  · have := abv_lt _ _ h2; omega
theorem sm_base {o : List Nat} (O : Out o) {s : List Bool} (Gs : Good o s) {i : Nat} (hi : i < o.length) (r0 c0 r c : Nat) : (r = r0 ∧ c = c0) ↔ SM o s (fun x => vis o x i = true) r0 c0 [] r c := by
  have hg : ∀ k, k < o.length → sB ((List.range o.length).map fun k => decide (k ∈ abv o i) || sB s k) k = (decide (k ∈ abv o i) || sB s k) := fun k hk => by
    show List.getD _ _ _ = _
    rw [List.getD_eq_getElem?_getD, List.getElem?_map, List.getElem?_range hk]
    rfl
  constructor
  · rintro ⟨rfl, rfl⟩
    refine ⟨(List.range o.length).map fun k => decide (k ∈ abv o i) || sB s k, ⟨by simp, fun k hk => ?_⟩, ?_, rfl, rfl⟩
    · by_cases h : k < o.length
      · rw [hg k h] at hk
        rw [Bool.or_eq_true, decide_eq_true_eq] at hk
        rcases hk with hk | hk
        · exact abv_br O hi hk
        · exact Gs.br k hk
      · rw [sB_out (by simp; omega)] at hk
        cases hk
    · show vis o _ i = true
      exact vis_all.mpr fun a ha => by
        rw [hg a (by have := abv_lt _ _ ha; omega)]
        simp [ha]
  · rintro ⟨x, _, _, h1, h2⟩
    exact ⟨h1, h2⟩
theorem sm_step {o : List Nat} (O : Out o) {s : List Bool} {i r0 c0 t : Nat} {cs q : List Nat} (hi : i < o.length) (h : tb o i = cs ++ t :: q) (r c : Nat) : (∃ r1 c1 r2 c2, SM o s (fun x => vis o x i = true) r0 c0 cs r1 c1 ∧ SZ o s t r2 c2 ∧ r = r1 + r2 ∧ c = c1 + c2) ↔ SM o s (fun x => vis o x i = true) r0 c0 (cs ++ [t]) r c := by
  refine sm_snoc (fun d hd k hs => ?_) (fun x y Gx hv => ?_) r c
  · by_cases hk : k < o.length
    · exact tb_disj O hi h d hd k hk hs
    · cases z : subB o t k with
      | false => rfl
      | true =>
        -- out of the outline: nothing lies over it
        have h1 : par o k = none := by
          cases hp : par o k with
          | none => rfl
          | some p =>
            exfalso
            have e := (par_lt hp).2
            have : gN o k = 0 := by
              unfold gN
              rw [List.getD_eq_getElem?_getD, List.getElem?_eq_none (by omega)]
              rfl
            omega
        have ht : t < o.length := tb_lt (o := o) (ch := chn o i) (by show t ∈ tb o i; rw [h]; simp)
        rcases subB_iff.mp z with e | e
        · omega
        · rw [abv_none h1] at e
          cases e
  · have ht : t ∈ tb o i := by rw [h]; simp
    show vis o _ i = true
    rw [← hv]
    exact vis_same fun k hk => mix_keep (by have := abv_lt _ _ hk; omega) (tb_abv O hi ht hk)
/-- a row of the item, over all states -/
theorem row_least {o : List Nat} (O : Out o) {s : List Bool} (Gs : Good o s) {i r : Nat} (hi : i < o.length) {a b : Option Nat} (ha : LeastO a (SR o s i r)) (hb : LeastO b fun c => ∃ x, Good o x ∧ (shown o x)[r]? = some i ∧ cost o s x = c) : a = b := by
  refine ha.eq hb ?_ ?_
  · rintro c ⟨x, Gx, hv, h1, h2⟩
    refine ⟨c, Nat.le_refl _, cutS o s x i, cut_good Gs Gx, shown_at.mpr ⟨hi, ?_, ?_⟩, ?_⟩
    · rw [cut_vis i hi (Nat.le_refl _)]; exact hv
    · rw [cut_row (by omega)]; exact h1
    · rw [cut_cost (by omega)]; exact h2
  · rintro d ⟨x, Gx, h1, h2⟩
    obtain ⟨_, hv, hr⟩ := shown_at.mp h1
    exact ⟨clkN o s x i, by rw [← h2]; exact clk_le (by omega), x, Gx, hv, hr, rfl⟩
/-- a screen, over all states -/
theorem scr_least {o : List Nat} (O : Out o) {s : List Bool} (Gs : Good o s) {x : List Bool} (Gx : Good o x) {b : Option Nat} (hb : LeastO b fun c => ∃ y, Good o y ∧ shown o y = shown o x ∧ cost o s y = c) : b = some (dscr o s (shown o x)).length := by
  have ha : LeastO (some (dscr o s (shown o x)).length) fun c => c = (dscr o s (shown o x)).length := ⟨fun c h => by cases h; rfl, fun c h => ⟨c, by rw [h], Nat.le_refl _⟩⟩
  refine (ha.eq hb ?_ ?_).symm
  · rintro c rfl
    exact ⟨_, Nat.le_refl _, cutS o s x o.length, cut_good Gs Gx, cut_shown, by rw [cut_cost (Nat.le_refl _), dscr_len O Gs Gx]⟩
  · rintro d ⟨y, Gy, h1, h2⟩
    refine ⟨_, ?_, rfl⟩
    rw [← h1, dscr_len O Gs Gy, ← h2]
    exact clk_le (Nat.le_refl _)
end MP
namespace MP
open PySem (PyData Str)
theorem chn_last {o : List Nat} (i : Nat) : ∃ q, chn o i = q ++ [i] := ⟨_, rfl⟩
theorem chn_first {o : List Nat} : ∀ (i j : Nat) (q : List Nat), chn o i = j :: q → par o j = none := by
  intro i
  induction i using Nat.strongRecOn with
  | ind i ih =>
    intro j q h
    cases hp : par o i with
    | none =>
      rw [chn_none hp] at h
      cases h
      exact hp
    | some p =>
      rw [chn_some hp] at h
      cases hc : chn o p with
      | nil =>
        obtain ⟨q, e⟩ := chn_last (o := o) p
        rw [hc] at e
        cases q <;> cases e
      | cons a l =>
        rw [hc] at h
        cases h
        exact ih p (par_lt hp).1 _ _ hc
theorem snoc_cases {α : Type} (q : List α) : q = [] ∨ ∃ q' x, q = q' ++ [x] := by
  cases q with
  | nil => exact .inl rfl
  | cons a l => exact .inr ⟨(a :: l).dropLast, (a :: l).getLast (by simp), (List.dropLast_concat_getLast (by simp)).symm⟩
theorem chn_next {o : List Nat} : ∀ (i a b : Nat) (p q : List Nat), chn o i = p ++ a :: b :: q → par o b = some a := by
  intro i
  induction i using Nat.strongRecOn with
  | ind i ih =>
    intro a b p q h
    cases hp : par o i with
    | none =>
      rw [chn_none hp] at h
      have := congrArg List.length h
      simp at this
      omega
    | some p0 =>
      rw [chn_some hp] at h
      rcases snoc_cases q with rfl | ⟨q', x, rfl⟩
      · have h2 : chn o p0 ++ [i] = (p ++ [a]) ++ [b] := by rw [h]; simp
        obtain ⟨h3, h4⟩ := List.append_inj' h2 rfl
        cases h4
        obtain ⟨q0, e0⟩ := chn_last (o := o) p0
        rw [e0] at h3
        obtain ⟨_, h5⟩ := List.append_inj' h3 rfl
        cases h5
        exact hp
      · have h2 : chn o p0 ++ [i] = (p ++ a :: b :: q') ++ [x] := by rw [h]; simp
        obtain ⟨h3, _⟩ := List.append_inj' h2 rfl
        exact ih p0 (par_lt hp).1 a b p q' h3
theorem tb_len {o : List Nat} (O : Out o) {i : Nat} (hi : i < o.length) : (tb o i).length ≤ 16 := by
  have h := ahead_sum O (fun _ => 1) hi
  have h1 : ((List.range i).map fun _ => 1).sum = i := by
    clear h hi
    induction i with
    | zero => rfl
    | succ i ih => rw [List.range_succ, List.map_append, List.sum_append, ih]; rfl
  have h2 : (tb o i).length ≤ ((tb o i).map (subSum o fun _ => 1)).sum := by
    have hl : ∀ t ∈ tb o i, t < o.length := fun t ht => tb_lt (ch := chn o i) ht
    generalize tb o i = l at *
    clear h
    induction l with
    | nil => simp
    | cons t l ih =>
      have := ih fun t ht => hl t (List.mem_cons_of_mem _ ht)
      have h3 : 1 ≤ subSum o (fun _ => 1) t := by
        rw [sub_split _ (hl t (by simp))]
        omega
      rw [List.map_cons, List.sum_cons, List.length_cons]
      omega
  have := O.le
  omega
end MP

/-! Mini, part Zd: dicts that keep the least. Plain Lean. -/
set_option linter.all false
set_option maxRecDepth 100000
namespace MP
open PySem (PyData Str)
def stepL (f : CT) (p : List Nat × Nat) : CT := putC f p.1 (min p.2 ((lookC f p.1).getD 99))
theorem stepL_len (f : CT) : ∀ ps : CT, (ps.foldl stepL f).length ≤ f.length + ps.length
  | [] => by simp
  | p :: ps => by
    have h : (stepL f p).length ≤ f.length + 1 := putC_len _ _ f
    have := stepL_len (stepL f p) ps
    rw [List.foldl_cons]
    simp
    omega
theorem stepL_look (f : CT) (p : List Nat × Nat) (k : List Nat) : lookC (stepL f p) k = if k = p.1 then some (min p.2 ((lookC f p.1).getD 99)) else lookC f k := look_put _ _ _ _
theorem stepL_sound : ∀ (ps f : CT) (k : List Nat) (m : Nat), (∀ p ∈ ps, p.2 ≤ 99) → lookC (ps.foldl stepL f) k = some m → lookC f k = some m ∨ (k, m) ∈ ps
  | [], f, k, m, _, h => .inl h
  | p :: ps, f, k, m, hb, h => by
    have hp := hb p (by simp)
    rcases stepL_sound ps (stepL f p) k m (fun q hq => hb q (List.mem_cons_of_mem _ hq)) h with h | h
    · rw [stepL_look] at h
      by_cases e : k = p.1
      · rw [if_pos e] at h
        cases q : lookC f p.1 with
        | none =>
          rw [q] at h
          simp at h
          refine .inr ?_
          rw [e, ← h, Nat.min_eq_left hp]
          simp
        | some v =>
          rw [q] at h
          simp at h
          by_cases c : v ≤ p.2
          · refine .inl ?_
            rw [e, q, ← h, Nat.min_eq_right c]
          · refine .inr ?_
            rw [e, ← h, Nat.min_eq_left (by omega)]
            simp
      · rw [if_neg e] at h
        exact .inl h
    · exact .inr (List.mem_cons_of_mem _ h)
theorem stepL_keep : ∀ (ps f : CT) (k : List Nat) (m : Nat), lookC f k = some m → ∃ m', lookC (ps.foldl stepL f) k = some m' ∧ m' ≤ m
  | [], f, k, m, h => ⟨m, h, Nat.le_refl m⟩
  | p :: ps, f, k, m, h => by
    by_cases e : k = p.1
    · obtain ⟨m', h1, h2⟩ := stepL_keep ps (stepL f p) k (min p.2 m) (by rw [stepL_look, if_pos e, ← e, h]; rfl)
      exact ⟨m', h1, by omega⟩
    · exact stepL_keep ps (stepL f p) k m (by rw [stepL_look, if_neg e]; exact h)
theorem stepL_least : ∀ (ps f : CT) (k : List Nat) (v : Nat), (k, v) ∈ ps → ∃ m, lookC (ps.foldl stepL f) k = some m ∧ m ≤ v
  | p :: ps, f, k, v, h => by
    rcases List.mem_cons.mp h with e | e
    · subst e
      obtain ⟨m', h1, h2⟩ := stepL_keep ps (stepL f (k, v)) k (min v ((lookC f k).getD 99)) (by rw [stepL_look, if_pos rfl])
      exact ⟨m', h1, by omega⟩
    · exact stepL_least ps (stepL f p) k v e
theorem leastL (ps : CT) (hb : ∀ p ∈ ps, p.2 ≤ 99) (k : List Nat) : LeastO (lookC (ps.foldl stepL []) k) fun c => (k, c) ∈ ps :=
  ⟨fun c h => by
    rcases stepL_sound ps [] k c hb h with h | h
    · cases h
    · exact h, fun c h => stepL_least ps [] k c h⟩
/-- screens and places of some states, with the clicks to them -/
def scrL (o : List Nat) (s : List Bool) (xs : List (List Bool)) : CT := xs.map fun x => (shown o x, cost o s x)
def plcX (o : List Nat) (s x : List Bool) : CT := (shown o x).zipIdx.map fun p => ([p.1, p.2], cost o s x)
def plcL (o : List Nat) (s : List Bool) (xs : List (List Bool)) : CT := xs.flatMap (plcX o s)
theorem mem_scrL {o : List Nat} {s : List Bool} {xs : List (List Bool)} {k : List Nat} {c : Nat} : (k, c) ∈ scrL o s xs ↔ ∃ x ∈ xs, shown o x = k ∧ cost o s x = c := by
  unfold scrL
  rw [List.mem_map]
  constructor
  · rintro ⟨x, hx, h⟩
    cases h
    exact ⟨x, hx, rfl, rfl⟩
  · rintro ⟨x, hx, rfl, rfl⟩
    exact ⟨x, hx, rfl⟩
theorem mem_plcL {o : List Nat} {s : List Bool} {xs : List (List Bool)} {i r : Nat} {c : Nat} : ([i, r], c) ∈ plcL o s xs ↔ ∃ x ∈ xs, (shown o x)[r]? = some i ∧ cost o s x = c := by
  unfold plcL plcX
  rw [List.mem_flatMap]
  constructor
  · rintro ⟨x, hx, h⟩
    obtain ⟨p, hp, h⟩ := List.mem_map.mp h
    cases h
    exact ⟨x, hx, List.mem_zipIdx_iff_getElem?.mp hp, rfl⟩
  · rintro ⟨x, hx, h, rfl⟩
    exact ⟨x, hx, List.mem_map.mpr ⟨(i, r), List.mem_zipIdx_iff_getElem?.mpr h, rfl⟩⟩
theorem scrL_le {o : List Nat} (O : Out o) {s : List Bool} {xs : List (List Bool)} : ∀ p ∈ scrL o s xs, p.2 ≤ 99 := fun ⟨k, c⟩ hp => by
  obtain ⟨x, _, _, h⟩ := mem_scrL.mp hp
  have := cost_le o s x
  have := O.le
  show c ≤ 99
  omega
theorem plcL_le {o : List Nat} (O : Out o) {s : List Bool} {xs : List (List Bool)} : ∀ p ∈ plcL o s xs, p.2 ≤ 99 := fun p hp => by
  obtain ⟨x, _, h⟩ := List.mem_flatMap.mp hp
  obtain ⟨q, _, rfl⟩ := List.mem_map.mp h
  have := cost_le o s x
  have := O.le
  show cost o s x ≤ 99
  omega
theorem shown_short {o : List Nat} (x : List Bool) : (shown o x).length ≤ o.length := by
  have := List.length_filter_le (vis o x) (List.range o.length)
  rw [List.length_range] at this
  exact this
theorem plcX_len {o : List Nat} (O : Out o) (s x : List Bool) : (plcX o s x).length ≤ 16 := by
  unfold plcX
  rw [List.length_map, List.length_zipIdx]
  have := shown_short (o := o) x
  have := O.le
  omega
theorem plcL_len {o : List Nat} (O : Out o) (s : List Bool) (xs : List (List Bool)) : (plcL o s xs).length ≤ 16 * xs.length := flat_le _ 16 xs fun x _ => plcX_len O s x
end MP

set_option linter.all false
set_option Elab.async false
set_option maxRecDepth 100000
set_option maxHeartbeats 4000000
namespace Q13
open MP
open PySem (PyData Str)
def gbs : List (Str × PyData) := [("ITEMS", (.int 16))]
def b_is_integer : Fn := ⟨3, .plain, 3,
  (.ret (.and (.isi (.peek 0) .int) (.and (.not (.isi (.peek 0) .bool)) (.chn .le .le (.peek 1) (.peek 0) (.peek 2)))))⟩
def b_is_outline : Fn := ⟨4, .plain, 1,
  (.seq (.iff (.or (.not (.isi (.peek 0) .tuple)) (.not (.chn .le .le (.cst (.int 1)) (.bi .len (.cons (.peek 0) .nil)) (.glob 0))))
  (.ret (.cst (.bool false)))
  .pass)
  (.seq (.iff (.or (.not (.bi .all (.cons (.comp [3] (.name 3) .seq (.var 0) .no (.call 0 (.cons (.var 3) (.cons (.cst (.int 0)) (.cons (.glob 0) .nil))))) .nil))) (.cmp .ne (.idx (.peek 0) (.cst (.int 0))) (.cst (.int 0))))
  (.ret (.cst (.bool false)))
  .pass)
  (.ret (.bi .all (.cons (.comp [1, 2] (.tup [1, 2]) .zip (.cons (.var 0) (.cons (.slc (.peek 0) (.cst (.int 1)) .no) .nil)) .no (.cmp .le (.peek 2) (.bin .add (.peek 1) (.cst (.int 1))))) .nil)))))⟩
def b_require_outline : Fn := ⟨1, .plain, 1,
  (.iff (.not (.call 1 (.cons (.var 0) .nil)))
  (.raise 0)
  .pass)⟩
def b_require_item : Fn := ⟨2, .plain, 2,
  (.iff (.not (.call 0 (.cons (.var 1) (.cons (.cst (.int 0)) (.cons (.bin .sub (.bi .len (.cons (.peek 0) .nil)) (.cst (.int 1))) .nil)))))
  (.raise 1)
  .pass)⟩
def b_parents_of : Fn := ⟨6, .plain, 1,
  (.seq (.asg 1 (.lst .nil))
  (.seq (.for_ (.tup [2, 3]) .enum (.cons (.var 0) .nil)
  (.seq (.asg 4 (.comp [5] (.name 5) .rng (.cons (.peek 2) .nil) (.cmp .eq (.idx (.peek 0) (.peek 5)) (.bin .sub (.peek 3) (.cst (.int 1)))) (.var 5)))
  (.app 1 (.ite (.peek 4) (.idx (.peek 4) (.neg (.cst (.int 1)))) (.cst .none)))))
  (.retv 1)))⟩
def b_branches_of : Fn := ⟨2, .plain, 1,
  (.ret (.comp [1] (.name 1) .rng (.cons (.bin .sub (.bi .len (.cons (.peek 0) .nil)) (.cst (.int 1))) .nil) (.cmp .gt (.idx (.peek 0) (.bin .add (.peek 1) (.cst (.int 1)))) (.idx (.peek 0) (.peek 1))) (.var 1)))⟩
def b_children : Fn := ⟨4, .plain, 1,
  (.kids 1 2 3 0 4
  (.retv 1))⟩
def b_roots : Fn := ⟨3, .plain, 1,
  (.ret (.comp [1, 2] (.tup [1, 2]) .enum (.cons (.var 0) .nil) (.cmp .eq (.peek 2) (.cst (.int 0))) (.var 1)))⟩
def b_ancestors : Fn := ⟨4, .plain, 2,
  (.seq (.asg2 2 3 (.lst .nil) (.call 4 (.cons (.var 0) .nil)))
  (.seq (.while_ (.cmp .isnot (.idx (.peek 3) (.peek 1)) (.cst .none))
  (.seq (.asg 1 (.idx (.peek 3) (.peek 1)))
  (.ins 2 (.cst (.int 0)) (.var 1))))
  (.retv 2)))⟩
def b_good_state : Fn := ⟨5, .plain, 2,
  (.seq (.iff (.or (.not (.isi (.peek 1) .tuple)) (.or (.cmp .ne (.bi .len (.cons (.peek 1) .nil)) (.bi .len (.cons (.peek 0) .nil))) (.not (.bi .all (.cons (.comp [4] (.name 4) .seq (.var 1) .no (.call 0 (.cons (.var 4) (.cons (.cst (.int 0)) (.cons (.cst (.int 1)) .nil))))) .nil)))))
  (.ret (.cst (.bool false)))
  .pass)
  (.seq (.asg 2 (.call 5 (.cons (.var 0) .nil)))
  (.ret (.bi .all (.cons (.comp [3, 4] (.tup [3, 4]) .enum (.cons (.var 1) .nil) .no (.or (.cmp .eq (.peek 4) (.cst (.int 0))) (.cmp .in_ (.peek 3) (.peek 2)))) .nil)))))⟩
def b_require_state : Fn := ⟨2, .plain, 2,
  (.iff (.not (.call 9 (.cons (.var 0) (.cons (.var 1) .nil))))
  (.raise 2)
  .pass)⟩
def b_rows_shown : Fn := ⟨6, .plain, 2,
  (.seq (.asg2 3 4 (.call 4 (.cons (.var 0) .nil)) (.lst .nil))
  (.seq (.for_ (.name 2) .rng (.cons (.bi .len (.cons (.peek 0) .nil)) .nil)
  (.seq (.asg 5 (.idx (.peek 3) (.peek 2)))
  (.iff (.or (.cmp .is_ (.peek 5) (.cst .none)) (.and (.cmp .in_ (.peek 5) (.peek 4)) (.cmp .eq (.idx (.peek 1) (.peek 5)) (.cst (.int 1)))))
  (.app 4 (.var 2))
  .pass)))
  (.ret (.bi .tuple (.cons (.peek 4) .nil)))))⟩
def b_state_on : Fn := ⟨6, .plain, 2,
  (.seq (.asg 2 (.call 5 (.cons (.var 0) .nil)))
  (.seq (.asg 3 (.lst .nil))
  (.seq (.for_ (.name 4) .rng (.cons (.bi .len (.cons (.peek 0) .nil)) .nil)
  (.seq (.asg 5 (.ite (.cmp .in_ (.peek 4) (.peek 1)) (.bi .int (.cons (.cmp .in_ (.bin .add (.peek 4) (.cst (.int 1))) (.peek 1)) .nil)) (.cst .none)))
  (.app 3 (.ite (.cmp .in_ (.peek 4) (.peek 2)) (.var 5) (.cst (.int 0))))))
  (.retv 3))))⟩
def b_good_screen : Fn := ⟨4, .plain, 2,
  (.seq (.iff (.or (.not (.isi (.peek 1) .tuple)) (.not (.bi .all (.cons (.comp [3] (.name 3) .seq (.var 1) .no (.call 0 (.cons (.var 3) (.cons (.cst (.int 0)) (.cons (.bin .sub (.bi .len (.cons (.peek 0) .nil)) (.cst (.int 1))) .nil))))) .nil))))
  (.ret (.cst (.bool false)))
  .pass)
  (.ret (.cmp .eq (.call 11 (.cons (.var 0) (.cons (.comp [2] (.name 2) .seq (.call 12 (.cons (.var 0) (.cons (.var 1) .nil))) .no (.orV (.peek 2) (.cst (.int 0)))) .nil))) (.peek 1))))⟩
def b_require_screen : Fn := ⟨2, .plain, 2,
  (.iff (.not (.call 13 (.cons (.var 0) (.cons (.var 1) .nil))))
  (.raise 3)
  .pass)⟩
def b_differences : Fn := ⟨5, .plain, 3,
  (.seq (.asg 3 (.call 12 (.cons (.var 0) (.cons (.var 2) .nil))))
  (.ret (.comp [4] (.name 4) .rng (.cons (.bi .len (.cons (.peek 0) .nil)) .nil) (.and (.cmp .isnot (.idx (.peek 3) (.peek 4)) (.cst .none)) (.cmp .ne (.idx (.peek 3) (.peek 4)) (.idx (.peek 1) (.peek 4)))) (.var 4))))⟩
def b_fewest_to_screen : Fn := ⟨3, .plain, 3,
  (.seq (.drop (.call 2 (.cons (.var 0) .nil)))
  (.seq (.drop (.call 10 (.cons (.var 0) (.cons (.var 1) .nil))))
  (.seq (.drop (.call 14 (.cons (.var 0) (.cons (.var 2) .nil))))
  (.ret (.bi .len (.cons (.call 15 (.cons (.var 0) (.cons (.var 1) (.cons (.var 2) .nil)))) .nil))))))⟩
def b_added : Fn := ⟨8, .plain, 2,
  (.seq (.asg 2 (.dct0 false))
  (.seq (.for_ (.tup [3, 4]) .items (.var 0)
  (.for_ (.tup [5, 6]) .items (.var 1)
  (.seq (.asg 7 (.bin .add (.peek 4) (.peek 6)))
  (.setIx 2 (.bin .add (.peek 3) (.peek 5)) (.bi .min2 (.cons (.meth .get2 (.peek 2) (.cons (.bin .add (.peek 3) (.peek 5)) (.cons (.var 7) .nil))) (.cons (.peek 7) .nil)))))))
  (.retv 2)))⟩
def b_sizes : Fn := ⟨5, .plain, 3,
  (.seq (.iff (.not (.idx (.peek 0) (.peek 2)))
  (.ret (.dct1 false (.cst (.int 1)) (.cst (.int 0))))
  .pass)
  (.seq (.asg 3 (.dct1 false (.cst (.int 1)) (.bin .sub (.cst (.int 1)) (.idx (.peek 1) (.peek 2)))))
  (.seq (.for_ (.name 4) .seq (.idx (.peek 0) (.peek 2))
  (.asg 3 (.call 17 (.cons (.var 3) (.cons (.frzd (.call 18 (.cons (.var 0) (.cons (.var 1) (.cons (.var 4) .nil))))) .nil)))))
  (.seq (.setIx 3 (.cst (.int 1)) (.idx (.peek 1) (.peek 2)))
  (.retv 3)))))⟩
def b_trees_before : Fn := ⟨7, .plain, 2,
  (.seq (.asg3 3 4 5 (.call 6 (.cons (.var 0) .nil)) (.lst .nil) (.call 7 (.cons (.var 0) .nil)))
  (.seq (.for_ (.name 2) .seq (.bin .add (.call 8 (.cons (.var 0) (.cons (.var 1) .nil))) (.lst (.cons (.var 1) .nil)))
  (.seq (.aug 4 .add (.comp [6] (.name 6) .seq (.var 5) (.cmp .lt (.peek 6) (.peek 2)) (.var 6)))
  (.asg 5 (.idx (.peek 3) (.peek 2)))))
  (.retv 4)))⟩
def b_require_row : Fn := ⟨1, .plain, 1,
  (.iff (.not (.call 0 (.cons (.var 0) (.cons (.cst (.int 0)) (.cons (.bin .sub (.glob 0) (.cst (.int 1))) .nil)))))
  (.raise 4)
  .pass)⟩
def b_fewest_to_row : Fn := ⟨9, .plain, 4,
  (.seq (.drop (.call 2 (.cons (.var 0) .nil)))
  (.seq (.drop (.call 10 (.cons (.var 0) (.cons (.var 1) .nil))))
  (.seq (.drop (.call 3 (.cons (.var 0) (.cons (.var 2) .nil))))
  (.seq (.drop (.call 20 (.cons (.var 3) .nil)))
  (.seq (.asg2 6 7 (.call 8 (.cons (.var 0) (.cons (.var 2) .nil))) (.call 6 (.cons (.var 0) .nil)))
  (.seq (.asg 4 (.dct1 false (.bi .len (.cons (.peek 6) .nil)) (.bi .len (.cons (.comp [8] (.name 8) .seq (.var 6) (.cmp .eq (.idx (.peek 1) (.peek 8)) (.cst (.int 0))) (.var 8)) .nil))))
  (.seq (.for_ (.name 5) .seq (.call 19 (.cons (.var 0) (.cons (.var 2) .nil)))
  (.asg 4 (.call 17 (.cons (.var 4) (.cons (.frzd (.call 18 (.cons (.var 7) (.cons (.var 1) (.cons (.var 5) .nil))))) .nil)))))
  (.ret (.meth .get1 (.peek 4) (.cons (.var 3) .nil))))))))))⟩
def b_rows_of : Fn := ⟨5, .plain, 2,
  (.seq (.drop (.call 2 (.cons (.var 0) .nil)))
  (.seq (.drop (.call 3 (.cons (.var 0) (.cons (.var 1) .nil))))
  (.seq (.asg2 3 4 (.call 6 (.cons (.var 0) .nil)) (.dct1 false (.bi .len (.cons (.call 8 (.cons (.var 0) (.cons (.var 1) .nil))) .nil)) (.cst (.int 0))))
  (.seq (.for_ (.name 2) .seq (.call 19 (.cons (.var 0) (.cons (.var 1) .nil)))
  (.asg 4 (.call 17 (.cons (.var 4) (.cons (.frzd (.call 18 (.cons (.var 3) (.cons (.bin .mul (.lst (.cons (.cst (.int 0)) .nil)) (.bi .len (.cons (.peek 0) .nil))) (.cons (.var 2) .nil))))) .nil)))))
  (.ret (.bi .sorted (.cons (.peek 4) .nil)))))))⟩
def b__law_bag : Fn := ⟨4, .scr, 2,
  (.seq (.asg 2 (.cst (.int 0)))
  (.seq (.iff (.cmp .lt (.peek 1) (.lenScr 0))
  (.asg 2 (.bin .mod (.idxScr 0 (.peek 1)) (.bin .pow (.cst (.int 10)) (.cst (.int 60)))))
  .pass)
  (.seq (.asg 3 (.bin .add (.cst (.int 1)) (.bin .mod (.bin .add (.bin .add (.bin .add (.bin .mul (.bin .mod (.peek 2) (.cst (.int 2147483629))) (.cst (.int 16807))) (.bin .mul (.bin .mul (.cst (.int 40009)) (.peek 1)) (.peek 1))) (.bin .mul (.cst (.int 7919)) (.peek 1))) (.cst (.int 1009))) (.cst (.int 2147483645)))))
  (.seq (.iff (.cmp .lt (.peek 2) (.bin .pow (.cst (.int 10)) (.cst (.int 18))))
  (.ret (.lst (.cons (.cst (.int 0)) (.cons (.var 3) .nil))))
  .pass)
  (.ret (.lst (.cons (.var 2) (.cons (.var 3) .nil))))))))⟩
def b__law_take : Fn := ⟨3, .io, 2,
  (.seq (.iff (.cmp .gt (.idx (.peek 0) (.cst (.int 0))) (.cst (.int 0)))
  (.seq (.asg 2 (.bin .mod (.idx (.peek 0) (.cst (.int 0))) (.peek 1)))
  (.seq (.setIx 0 (.cst (.int 0)) (.bin .fdiv (.idx (.peek 0) (.cst (.int 0))) (.peek 1)))
  (.retv 2)))
  .pass)
  (.seq (.setIx 0 (.cst (.int 1)) (.bin .mod (.bin .mul (.idx (.peek 0) (.cst (.int 1))) (.cst (.int 48271))) (.cst (.int 2147483647))))
  (.ret (.bin .mod (.bin .fdiv (.bin .mod (.bin .mul (.bin .fdiv (.idx (.peek 0) (.cst (.int 1))) (.cst (.int 13))) (.bin .add (.bin .mod (.idx (.peek 0) (.cst (.int 1))) (.cst (.int 32749))) (.cst (.int 17)))) (.cst (.int 2147483629))) (.cst (.int 32))) (.peek 1)))))⟩
def b__law_of : Fn := ⟨2, .io, 2,
  (.ret (.idx (.peek 1) (.callIo 24 0 (.cons (.bi .len (.cons (.peek 1) .nil)) .nil))))⟩
def b__law_outline : Fn := ⟨6, .io, 2,
  (.seq (.asg2 3 4 (.lst (.cons (.cst (.int 0)) .nil)) (.callIo 24 0 (.cons (.cst (.int 3)) .nil)))
  (.seq (.for_ (.name 2) .rng (.cons (.callIo 24 0 (.cons (.var 1) .nil)) .nil)
  (.seq (.asg 5 (.callIo 24 0 (.cons (.bin .add (.idx (.peek 3) (.neg (.cst (.int 1)))) (.cst (.int 2))) .nil)))
  (.app 3 (.ite (.cmp .eq (.peek 4) (.cst (.int 0))) (.bi .max2 (.cons (.peek 5) (.cons (.idx (.peek 3) (.neg (.cst (.int 1)))) .nil))) (.var 5)))))
  (.ret (.bi .tuple (.cons (.peek 3) .nil)))))⟩
def b__law_branches : Fn := ⟨2, .plain, 1,
  (.ret (.comp [1] (.name 1) .rng (.cons (.bin .sub (.bi .len (.cons (.peek 0) .nil)) (.cst (.int 1))) .nil) (.cmp .gt (.idx (.peek 0) (.bin .add (.peek 1) (.cst (.int 1)))) (.idx (.peek 0) (.peek 1))) (.var 1)))⟩
def b__law_parent : Fn := ⟨4, .plain, 2,
  (.seq (.asg 2 (.comp [3] (.name 3) .rng (.cons (.peek 1) .nil) (.cmp .eq (.idx (.peek 0) (.peek 3)) (.bin .sub (.idx (.peek 0) (.peek 1)) (.cst (.int 1)))) (.var 3)))
  (.ret (.ite (.cmp .ne (.peek 2) (.lst .nil)) (.idx (.peek 2) (.neg (.cst (.int 1)))) (.cst .none))))⟩
def b__law_above : Fn := ⟨4, .plain, 2,
  (.seq (.asg2 2 3 (.lst .nil) (.call 28 (.cons (.var 0) (.cons (.var 1) .nil))))
  (.seq (.while_ (.cmp .isnot (.peek 3) (.cst .none))
  (.seq (.app 2 (.var 3))
  (.asg 3 (.call 28 (.cons (.var 0) (.cons (.var 3) .nil))))))
  (.retv 2)))⟩
def b__law_below : Fn := ⟨3, .plain, 2,
  (.ret (.bin .add (.lst (.cons (.var 1) .nil)) (.comp [2] (.name 2) .rng (.cons (.bi .len (.cons (.peek 0) .nil)) .nil) (.cmp .in_ (.peek 1) (.call 29 (.cons (.var 0) (.cons (.var 2) .nil)))) (.var 2))))⟩
def b__law_shown : Fn := ⟨5, .plain, 2,
  (.seq (.asg 2 (.lst .nil))
  (.seq (.for_ (.name 3) .rng (.cons (.bi .len (.cons (.peek 0) .nil)) .nil)
  (.iff (.cmp .eq (.comp [4] (.name 4) .seq (.call 29 (.cons (.var 0) (.cons (.var 3) .nil))) (.cmp .eq (.idx (.peek 1) (.peek 4)) (.cst (.int 0))) (.var 4)) (.lst .nil))
  (.app 2 (.var 3))
  .pass))
  (.ret (.bi .tuple (.cons (.peek 2) .nil)))))⟩
def b__law_state : Fn := ⟨7, .io, 2,
  (.seq (.asg2 3 4 (.call 27 (.cons (.var 1) .nil)) (.callIo 24 0 (.cons (.cst (.int 4)) .nil)))
  (.seq (.asg2 5 6 (.idx (.lst (.cons (.lst (.cons (.cst (.int 0)) (.cons (.cst (.int 1)) .nil))) (.cons (.lst (.cons (.cst (.int 0)) (.cons (.cst (.int 0)) (.cons (.cst (.int 1)) .nil)))) (.cons (.lst (.cons (.cst (.int 0)) (.cons (.cst (.int 1)) (.cons (.cst (.int 1)) .nil)))) (.cons (.lst (.cons (.cst (.int 0)) (.cons (.cst (.int 1)) .nil))) .nil))))) (.peek 4)) (.lst .nil))
  (.seq (.for_ (.name 2) .rng (.cons (.bi .len (.cons (.peek 1) .nil)) .nil)
  (.app 6 (.ite (.cmp .in_ (.peek 2) (.peek 3)) (.callIo 25 0 (.cons (.var 5) .nil)) (.cst (.int 0)))))
  (.ret (.bi .tuple (.cons (.peek 6) .nil))))))⟩
def b__law_after : Fn := ⟨9, .plain, 3,
  (.seq (.unpack [4, 5] (.var 2))
  (.seq (.asg 3 (.call 27 (.cons (.var 0) .nil)))
  (.seq (.iff (.or (.cmp .notin (.peek 5) (.peek 3)) (.cmp .notin (.peek 5) (.call 31 (.cons (.var 0) (.cons (.var 1) .nil)))))
  (.ret (.cst .none))
  .pass)
  (.seq (.asg2 6 7 (.bi .list (.cons (.peek 1) .nil)) (.bin .sub (.cst (.int 1)) (.idx (.peek 1) (.peek 5))))
  (.seq (.setIx 6 (.peek 5) (.var 7))
  (.seq (.iff (.cmp .eq (.peek 4) (.cst (.str "deep")))
  (.for_ (.name 8) .seq (.call 30 (.cons (.var 0) (.cons (.var 5) .nil)))
  (.setIx 6 (.peek 8) (.ite (.cmp .in_ (.peek 8) (.peek 3)) (.var 7) (.cst (.int 0)))))
  .pass)
  (.ret (.bi .tuple (.cons (.peek 6) .nil)))))))))⟩
def b__law_after_all : Fn := ⟨4, .plain, 3,
  (.seq (.for_ (.name 3) .seq (.var 2)
  (.seq (.asg 1 (.call 33 (.cons (.var 0) (.cons (.var 1) (.cons (.var 3) .nil)))))
  (.iff (.cmp .is_ (.peek 1) (.cst .none))
  (.ret (.cst .none))
  .pass)))
  (.retv 1))⟩
def b__law_all_states : Fn := ⟨6, .plain, 1,
  (.seq (.asg2 2 3 (.lst (.cons (.tup .nil) .nil)) (.call 27 (.cons (.var 0) .nil)))
  (.seq (.for_ (.name 1) .rng (.cons (.bi .len (.cons (.peek 0) .nil)) .nil)
  (.seq (.asg 4 (.lst .nil))
  (.seq (.for_ (.name 5) .seq (.var 2)
  (.seq (.app 4 (.bin .add (.peek 5) (.tup (.cons (.cst (.int 0)) .nil))))
  (.iff (.cmp .in_ (.peek 1) (.peek 3))
  (.app 4 (.bin .add (.peek 5) (.tup (.cons (.cst (.int 1)) .nil))))
  .pass)))
  (.asg 2 (.var 4)))))
  (.retv 2)))⟩
def b__law_moves : Fn := ⟨8, .plain, 2,
  (.seq (.asg 2 (.dct0 true))
  (.seq (.for_ (.name 3) .seq (.call 35 (.cons (.var 0) .nil))
  (.seq (.asg 4 (.lst .nil))
  (.seq (.for_ (.name 5) .seq (.var 1)
  (.for_ (.name 6) .rng (.cons (.bi .len (.cons (.peek 0) .nil)) .nil)
  (.seq (.asg 7 (.call 33 (.cons (.var 0) (.cons (.var 3) (.cons (.tup (.cons (.var 5) (.cons (.var 6) .nil))) .nil)))))
  (.iff (.cmp .isnot (.peek 7) (.cst .none))
  (.app 4 (.tup (.cons (.tup (.cons (.var 5) (.cons (.var 6) .nil))) (.cons (.var 7) .nil))))
  .pass))))
  (.setIx 2 (.peek 3) (.var 4)))))
  (.retv 2)))⟩
def b__law_distances : Fn := ⟨8, .plain, 2,
  (.seq (.asg2 2 3 (.dct1 true (.var 1) (.cst (.int 0))) (.lst (.cons (.var 1) .nil)))
  (.seq (.while_ (.cmp .ne (.peek 3) (.lst .nil))
  (.seq (.asg 4 (.lst .nil))
  (.seq (.for_ (.name 5) .seq (.var 3)
  (.for_ (.tup [6, 7]) .seq (.idx (.peek 0) (.peek 5))
  (.iff (.cmp .notin (.peek 7) (.peek 2))
  (.seq (.setIx 2 (.peek 7) (.bin .add (.idx (.peek 2) (.peek 5)) (.cst (.int 1))))
  (.app 4 (.var 7)))
  .pass)))
  (.asg 3 (.var 4)))))
  (.retv 2)))⟩
def b__law_right : Fn := ⟨10, .plain, 3,
  (.seq (.asg3 6 7 8 (.call 37 (.cons (.var 1) (.cons (.var 2) .nil))) (.dct0 true) (.dct0 true))
  (.seq (.for_ (.name 3) .seq (.var 6)
  (.seq (.asg 4 (.call 31 (.cons (.var 0) (.cons (.var 3) .nil))))
  (.seq (.setIx 7 (.peek 4) (.bi .min2 (.cons (.idx (.peek 6) (.peek 3)) (.cons (.meth .get2 (.peek 7) (.cons (.var 4) (.cons (.cst (.int 99)) .nil))) .nil))))
  (.for_ (.tup [9, 5]) .enum (.cons (.var 4) .nil)
  (.setIx 8 (.tup (.cons (.var 5) (.cons (.var 9) .nil))) (.bi .min2 (.cons (.idx (.peek 6) (.peek 3)) (.cons (.meth .get2 (.peek 8) (.cons (.tup (.cons (.var 5) (.cons (.var 9) .nil))) (.cons (.cst (.int 99)) .nil))) .nil))))))))
  (.seq (.for_ (.name 4) .seq (.var 7)
  (.iff (.cmp .ne (.call 16 (.cons (.var 0) (.cons (.var 2) (.cons (.var 4) .nil)))) (.idx (.peek 7) (.peek 4)))
  (.ret (.cst (.bool false)))
  .pass))
  (.seq (.for_ (.name 5) .rng (.cons (.bi .len (.cons (.peek 0) .nil)) .nil)
  (.seq (.iff (.cmp .ne (.call 22 (.cons (.var 0) (.cons (.var 5) .nil))) (.comp [9] (.name 9) .rng (.cons (.cst (.int 16)) .nil) (.cmp .in_ (.tup (.cons (.var 5) (.cons (.var 9) .nil))) (.peek 8)) (.var 9)))
  (.ret (.cst (.bool false)))
  .pass)
  (.for_ (.name 9) .rng (.cons (.bin .add (.bi .len (.cons (.peek 0) .nil)) (.cst (.int 2))) .nil)
  (.iff (.cmp .ne (.call 21 (.cons (.var 0) (.cons (.var 2) (.cons (.var 5) (.cons (.var 9) .nil))))) (.meth .get1 (.peek 8) (.cons (.tup (.cons (.var 5) (.cons (.var 9) .nil))) .nil)))
  (.ret (.cst (.bool false)))
  .pass))))
  (.ret (.cst (.bool true)))))))⟩
def b_law : Fn := ⟨7, .scr, 1,
  (.seq (.for_ (.name 1) .rng (.cons (.bin .add (.bi .min2 (.cons (.lenScr 0) (.cons (.cst (.int 5)) .nil))) (.cst (.int 2))) .nil)
  (.seq (.asg 2 (.callScr 23 0 (.cons (.var 1) .nil)))
  (.seq (.asg 3 (.callIo 26 2 (.cons (.cst (.int 8)) .nil)))
  (.seq (.asg 4 (.call 36 (.cons (.var 3) (.cons (.lst (.cons (.cst (.str "plain")) .nil)) .nil))))
  (.seq (.for_ (.name 5) .rng (.cons (.cst (.int 3)) .nil)
  (.iff (.not (.call 38 (.cons (.var 3) (.cons (.var 4) (.cons (.callIo 32 2 (.cons (.var 3) .nil)) .nil)))))
  (.ret (.cst (.bool false)))
  .pass))
  (.seq (.asg 6 (.call 22 (.cons (.var 3) (.cons (.cst (.int 0)) .nil))))
  (.seq (.app 6 (.cst .none))
  (.iff (.cmp .ne (.call 22 (.cons (.var 3) (.cons (.cst (.int 0)) .nil))) (.lst (.cons (.cst (.int 0)) .nil)))
  (.ret (.cst (.bool false)))
  .pass))))))))
  (.ret (.cst (.bool true))))⟩
def defs : List Def := (([.fn b_is_integer, .fn b_is_outline, .fn b_require_outline, .fn b_require_item, .fn b_parents_of, .fn b_branches_of, .fn b_children, .fn b_roots, .fn b_ancestors, .fn b_good_state, .fn b_require_state, .fn b_rows_shown, .fn b_state_on, .fn b_good_screen, .fn b_require_screen, .fn b_differences, .fn b_fewest_to_screen, .fn b_added, .fn b_sizes, .fn b_trees_before, .fn b_require_row, .fn b_fewest_to_row, .fn b_rows_of, .fn b__law_bag, .fn b__law_take] : List Def) ++ ([.fn b__law_of, .fn b__law_outline, .fn b__law_branches, .fn b__law_parent, .fn b__law_above, .fn b__law_below, .fn b__law_shown, .fn b__law_state, .fn b__law_after, .fn b__law_after_all, .fn b__law_all_states, .fn b__law_moves, .fn b__law_distances, .fn b__law_right, .fn b_law] : List Def))
def pg : Pl := ⟨defs, fun g => (gbs[g]?).map (·.2)⟩
abbrev cl (n : Nat) : Cl := MP.run pg.defs pg.gb n
theorem r_is_integer (n : Nat) : cl (n + 1) 0 = runF (cl n) pg.gb b_is_integer := rfl
theorem r_is_outline (n : Nat) : cl (n + 1) 1 = runF (cl n) pg.gb b_is_outline := rfl
theorem r_require_outline (n : Nat) : cl (n + 1) 2 = runF (cl n) pg.gb b_require_outline := rfl
theorem r_require_item (n : Nat) : cl (n + 1) 3 = runF (cl n) pg.gb b_require_item := rfl
theorem r_parents_of (n : Nat) : cl (n + 1) 4 = runF (cl n) pg.gb b_parents_of := rfl
theorem r_branches_of (n : Nat) : cl (n + 1) 5 = runF (cl n) pg.gb b_branches_of := rfl
theorem r_children (n : Nat) : cl (n + 1) 6 = runF (cl n) pg.gb b_children := rfl
theorem r_roots (n : Nat) : cl (n + 1) 7 = runF (cl n) pg.gb b_roots := rfl
theorem r_ancestors (n : Nat) : cl (n + 1) 8 = runF (cl n) pg.gb b_ancestors := rfl
theorem r_good_state (n : Nat) : cl (n + 1) 9 = runF (cl n) pg.gb b_good_state := rfl
theorem r_require_state (n : Nat) : cl (n + 1) 10 = runF (cl n) pg.gb b_require_state := rfl
theorem r_rows_shown (n : Nat) : cl (n + 1) 11 = runF (cl n) pg.gb b_rows_shown := rfl
theorem r_state_on (n : Nat) : cl (n + 1) 12 = runF (cl n) pg.gb b_state_on := rfl
theorem r_good_screen (n : Nat) : cl (n + 1) 13 = runF (cl n) pg.gb b_good_screen := rfl
theorem r_require_screen (n : Nat) : cl (n + 1) 14 = runF (cl n) pg.gb b_require_screen := rfl
theorem r_differences (n : Nat) : cl (n + 1) 15 = runF (cl n) pg.gb b_differences := rfl
theorem r_fewest_to_screen (n : Nat) : cl (n + 1) 16 = runF (cl n) pg.gb b_fewest_to_screen := rfl
theorem r_added (n : Nat) : cl (n + 1) 17 = runF (cl n) pg.gb b_added := rfl
theorem r_sizes (n : Nat) : cl (n + 1) 18 = runF (cl n) pg.gb b_sizes := rfl
theorem r_trees_before (n : Nat) : cl (n + 1) 19 = runF (cl n) pg.gb b_trees_before := rfl
theorem r_require_row (n : Nat) : cl (n + 1) 20 = runF (cl n) pg.gb b_require_row := rfl
theorem r_fewest_to_row (n : Nat) : cl (n + 1) 21 = runF (cl n) pg.gb b_fewest_to_row := rfl
theorem r_rows_of (n : Nat) : cl (n + 1) 22 = runF (cl n) pg.gb b_rows_of := rfl
theorem r__law_bag (n : Nat) : cl (n + 1) 23 = runF (cl n) pg.gb b__law_bag := rfl
theorem r__law_take (n : Nat) : cl (n + 1) 24 = runF (cl n) pg.gb b__law_take := rfl
theorem r__law_of (n : Nat) : cl (n + 1) 25 = runF (cl n) pg.gb b__law_of := rfl
theorem r__law_outline (n : Nat) : cl (n + 1) 26 = runF (cl n) pg.gb b__law_outline := rfl
theorem r__law_branches (n : Nat) : cl (n + 1) 27 = runF (cl n) pg.gb b__law_branches := rfl
theorem r__law_parent (n : Nat) : cl (n + 1) 28 = runF (cl n) pg.gb b__law_parent := rfl
theorem r__law_above (n : Nat) : cl (n + 1) 29 = runF (cl n) pg.gb b__law_above := rfl
theorem r__law_below (n : Nat) : cl (n + 1) 30 = runF (cl n) pg.gb b__law_below := rfl
theorem r__law_shown (n : Nat) : cl (n + 1) 31 = runF (cl n) pg.gb b__law_shown := rfl
theorem r__law_state (n : Nat) : cl (n + 1) 32 = runF (cl n) pg.gb b__law_state := rfl
theorem r__law_after (n : Nat) : cl (n + 1) 33 = runF (cl n) pg.gb b__law_after := rfl
theorem r__law_after_all (n : Nat) : cl (n + 1) 34 = runF (cl n) pg.gb b__law_after_all := rfl
theorem r__law_all_states (n : Nat) : cl (n + 1) 35 = runF (cl n) pg.gb b__law_all_states := rfl
theorem r__law_moves (n : Nat) : cl (n + 1) 36 = runF (cl n) pg.gb b__law_moves := rfl
theorem r__law_distances (n : Nat) : cl (n + 1) 37 = runF (cl n) pg.gb b__law_distances := rfl
theorem r__law_right (n : Nat) : cl (n + 1) 38 = runF (cl n) pg.gb b__law_right := rfl
theorem r_law (n : Nat) : cl (n + 1) 39 = runF (cl n) pg.gb b_law := rfl
@[simp] theorem g_ITEMS : pg.gb 0 = some (.int 16) := rfl
end Q13

set_option linter.all false
set_option Elab.async false
set_option maxRecDepth 100000
set_option maxHeartbeats 4000000
namespace Q13
open MP
open PySem (PyData Str)
/-! ### checks -/
theorem is_integer_int (n : Nat) (v lo hi : Int) : cl (n + 1) 0 .non [.int v, .int lo, .int hi] = .ok (.fz (.bool (decide (lo ≤ v) && decide (v ≤ hi))), []) := by
  rw [r_is_integer, runF_plain _ _ rfl rfl (by decide)]
  simp [b_is_integer, evAndV_eq, evChn_eq, isTy]
  by_cases h : lo ≤ v <;> simp [h]
theorem branches_of_ok (n : Nat) {o : List Nat} (O : Out o) : cl (n + 1) 5 .non [tN o] = .ok (.fr ((brs o).map encN), []) := by
  have h1 := O.pos
  have h2 := O.le
  rw [r_branches_of, runF_plain _ _ rfl rfl (by decide)]
  have e1 : ((o.length : Int) - 1) = ((o.length - 1 : Nat) : Int) := by omega
  simp [b_branches_of, e1, itm_rng (j := o.length - 1) (by omega)]
  rw [if_pos (by omega), comp_map encN (fun i => decide (gN o i < gN o (i + 1))) encN]
  · rfl
  · intro i hi
    have hi := List.mem_range.mp hi
    refine ⟨_, rfl, ?_, fun _ => ⟨_, rfl, rfl⟩, rfl⟩
    simp [idx_tN (o := o) (i := i) (by omega), idx_tN1 (o := o) (i := i) (by omega)]
theorem is_outline_ok (n : Nat) {o : List Nat} (O : Out o) : cl (n + 2) 1 .non [tN o] = .ok (.fz (.bool true), []) := by
  rw [r_is_outline, runF_plain _ _ rfl rfl (by decide)]
  have h1 := O.pos
  have h2 := O.le
  have f1 : (1 : Int) ≤ (o.length : Int) := by omega
  have f2 : ¬ (16 : Int) < (o.length : Int) := by omega
  have f3 : o.length ≤ 100000 := by omega
  simp [b_is_outline, exS_seq', evOrV_eq, tOrE_eq, evChn_eq, isTy, f1, f2, f3]
  rw [comp_map encN (fun _ => true) (fun _ => .bool true) o (fun x hx => ⟨_, rfl, rfl, fun _ => ⟨.fz (.bool true), by
    obtain ⟨i, hi, rfl⟩ := mem_gN hx
    have := all_lt O i hi
    have q1 : (gN o i : Int) ≤ 16 := by omega
    have q0 : (0 : Int) ≤ (gN o i : Int) := by omega
    simp [is_integer_int n, q1, q0], rfl⟩, rfl⟩)]
  have e0 : gN o 0 = 0 := O.zero
  simp [bi_all_map (fun _ => true), idx_tN0 (o := o) h1, e0, cut_from_one]
  rw [if_pos (by omega), ← List.map_tail, zip_enc, comp_map (fun p : Nat × Nat => .tuple [encN p.1, encN p.2]) (fun _ => true) (fun _ => .bool true) _ (fun p hp => ⟨_, rfl, rfl, fun _ => ⟨.fz (.bool true), by
    rw [← List.drop_one] at hp
    obtain ⟨i, hi, h1, h2⟩ := mem_zip_tail hp
    have := O.step i hi
    have q1 : (p.2 : Int) ≤ (p.1 : Int) + 1 := by omega
    simp [q1], rfl⟩, rfl⟩)]
  simp [bi_all_map (fun _ => true)]
theorem require_outline_ok (n : Nat) {o : List Nat} (O : Out o) : cl (n + 3) 2 .non [tN o] = .ok (.fz .none, []) := by
  rw [r_require_outline, runF_plain _ _ rfl rfl (by decide)]
  simp [b_require_outline, is_outline_ok n O]
theorem parents_of_ok (n : Nat) {o : List Nat} (O : Out o) : cl (n + 1) 4 .non [tN o] = .ok (.fr ((List.range o.length).map fun i => encO (par o i)), []) := by
  rw [r_parents_of, runF_plain _ _ rfl rfl (by decide)]
  have h1 := O.pos
  have h2 := O.le
  have f3 : o.length ≤ 100000 := by omega
  simp [b_parents_of, exS_seq', f3, enum_enc]
  refine for_then o.zipIdx (fun p : Nat × Nat => .tuple [encN p.2, encN p.1]) (fun pre e => ∃ s2 s3 s4, soft (some s2) = true ∧ soft (some s3) = true ∧ soft (some s4) = true ∧ e = [.val (tN o), .own ((List.range pre.length).map fun i => encO (par o i)), s2, s3, s4, .un]) ⟨.un, .un, .un, rfl, rfl, rfl, rfl⟩ ?_ ?_
  · rintro p ⟨d, i⟩ q e hp ⟨s2, s3, s4, g2, g3, g4, rfl⟩
    obtain ⟨hi, hd⟩ := split_zipIdx hp
    have hi : i = p.length := hi
    subst hi
    have hl : p.length < o.length := (List.getElem?_eq_some_iff.mp hd).1
    rw [gN_get hl] at hd
    have hd : d = gN o p.length := by cases hd; rfl
    subst hd
    refine ⟨[.val (tN o), .own ((List.range p.length).map fun i => encO (par o i)), .val (encN p.length), .val (encN (gN o p.length)), s4, .un], [.val (tN o), .own ((List.range (p.length + 1)).map fun i => encO (par o i)), .val (encN p.length), .val (encN (gN o p.length)), .own (((List.range p.length).filter fun k => decide (gN o k + 1 = gN o p.length)).map encN), .un], ?_, ?_, .val (encN p.length), .val (encN (gN o p.length)), .own (((List.range p.length).filter fun k => decide (gN o k + 1 = gN o p.length)).map encN), rfl, rfl, rfl, ?_⟩
    · simp [g2, g3]
    · have f4 : p.length ≤ 100000 := by omega
      have f5 : p.length < 100000 := by omega
      simp [exS_seq', itm_rng (j := p.length) (by omega), f4]
      rw [comp_map encN (fun k => decide (gN o k + 1 = gN o p.length)) encN]
      · cases hpar : par o p.length with
        | none =>
          have hL := hpar
          unfold par at hL
          rw [List.getLast?_eq_none_iff] at hL
          simp [g4, f5, evIte_eq, hL, List.range_succ, hpar, encO]
        | some r =>
          have hL := hpar
          unfold par at hL
          have hne : ((List.range p.length).filter fun k => decide (gN o k + 1 = gN o p.length)) ≠ [] := by
            intro z
            rw [z] at hL
            cases hL
          simp [g4, f5, evIte_eq, hne, idx_last hL, List.range_succ, hpar, encO]
      · intro k hk
        have hk := List.mem_range.mp hk
        refine ⟨_, rfl, ?_, fun _ => ⟨_, rfl, rfl⟩, rfl⟩
        simp [idx_tN (o := o) (i := k) (by omega), beq_sub_one]
    · simp
  · rintro e' ⟨s2, s3, s4, g2, g3, g4, rfl⟩
    simp
theorem good_state_ok (n : Nat) {o : List Nat} (O : Out o) {s : List Bool} (G : Good o s) : cl (n + 2) 9 .non [tN o, tS s] = .ok (.fz (.bool true), []) := by
  rw [r_good_state, runF_plain _ _ rfl rfl (by decide)]
  have h1 := O.pos
  have h2 := O.le
  have h3 := G.len
  have f3 : o.length ≤ 100000 := by omega
  simp [b_good_state, exS_seq', evOrV_eq, tOrE_eq, isTy, h3, f3]
  rw [comp_map encB (fun _ => true) (fun _ => .bool true) s (fun b _ => ⟨_, rfl, rfl, fun _ => ⟨.fz (.bool true), by cases b <;> simp [encB, is_integer_int n], rfl⟩, rfl⟩)]
  simp [bi_all_map (fun _ => true), branches_of_ok n O, enum_enc, h3, f3]
  rw [comp_map (fun p : Bool × Nat => .tuple [encN p.2, encB p.1]) (fun _ => true) (fun _ => .bool true) _ (fun p hp => ⟨_, rfl, rfl, fun _ => ⟨.fz (.bool true), by
    obtain ⟨b, i⟩ := p
    cases b with
    | false => simp [evOrV_eq, in_list_nat]
    | true =>
      have hm : i ∈ brs o := by
        refine G.br i ?_
        have e := List.mem_zipIdx_iff_getElem?.mp hp
        unfold sB
        rw [List.getD_eq_getElem?_getD, e]
        rfl
      simp [evOrV_eq, in_list_nat, hm], rfl⟩, rfl⟩)]
  simp [bi_all_map (fun _ => true)]
theorem require_state_ok (n : Nat) {o : List Nat} (O : Out o) {s : List Bool} (G : Good o s) : cl (n + 3) 10 .non [tN o, tS s] = .ok (.fz .none, []) := by
  rw [r_require_state, runF_plain _ _ rfl rfl (by decide)]
  simp [b_require_state, good_state_ok n O G]
theorem rows_shown_any (n : Nat) {o : List Nat} (O : Out o) {s : List Bool} {D : PyData} (hD : ∀ i, i < o.length → idxD D (.int (i : Int)) = .ok (.fz (encB (sB s i)))) : cl (n + 2) 11 .non [tN o, D] = .ok (.fz (tN (shown o s)), []) := by
  rw [r_rows_shown, runF_plain _ _ rfl rfl (by decide)]
  have h1 := O.pos
  have h2 := O.le
  have f3 : o.length ≤ 100000 := by omega
  simp [b_rows_shown, exS_seq', parents_of_ok n O, itm_rng (j := o.length) (by omega), f3]
  refine for_then (List.range o.length) encN (fun pre e => ∃ s2 s5, soft (some s2) = true ∧ soft (some s5) = true ∧ e = [.val (tN o), .val D, s2, .own ((List.range o.length).map fun i => encO (par o i)), .own ((pre.filter (vis o s)).map encN), s5]) ⟨.un, .un, rfl, rfl, rfl⟩ ?_ ?_
  · rintro p i q e hp ⟨s2, s5, g2, g5, rfl⟩
    obtain ⟨rfl, hi⟩ := split_range hp
    have f4 : ((List.range i).filter (vis o s)).length < 100000 := by
      have := List.length_filter_le (vis o s) (List.range i)
      simp at this
      omega
    refine ⟨[.val (tN o), .val D, .val (encN i), .own ((List.range o.length).map fun i => encO (par o i)), .own (((List.range i).filter (vis o s)).map encN), s5], [.val (tN o), .val D, .val (encN i), .own ((List.range o.length).map fun i => encO (par o i)), .own (((List.range i ++ [i]).filter (vis o s)).map encN), .val (encO (par o i))], ?_, ?_, .val (encN i), .val (encO (par o i)), rfl, rfl, rfl⟩
    · simp [g2]
    · have hx : idxD (.list ((List.range o.length).map fun i => encO (par o i))) (.int (i : Int)) = .ok (.fz (encO (par o i))) := idx_opt (f := fun i => encO (par o i)) (by simp [hi])
      simp [exS_seq', tOrE_eq, tAndE_eq, hx, g5]
      cases hpar : par o i with
      | none => simp [f4, vis_none hpar, encO]
      | some r =>
        have hr := (par_lt hpar).1
        have hm : decide (r ∈ (List.range i).filter (vis o s)) = vis o s r := by
          rw [Bool.eq_iff_iff]
          simp [hr]
        have hin : cmpD .in_ (encO (some r)) (.list (((List.range i).filter (vis o s)).map encN)) = .ok (vis o s r) := by
          rw [← hm]
          exact in_list_nat r _
        have hd : idxD D (encO (some r)) = .ok (.fz (encB (sB s r))) := hD r (by omega)
        simp [hin, hd]
        cases hv : vis o s r with
        | false => simp [vis_some hpar, hv]
        | true =>
          cases hs : sB s r with
          | false => simp [vis_some hpar, hv, hs]
          | true => simp [f4, vis_some hpar, hv, hs]
  · rintro e' ⟨s2, s5, g2, g5, rfl⟩
    simp [shown]
theorem rows_shown_ok (n : Nat) {o : List Nat} (O : Out o) {s : List Bool} (h : s.length = o.length) : cl (n + 2) 11 .non [tN o, tS s] = .ok (.fz (tN (shown o s)), []) := rows_shown_any n O fun i hi => idx_tS (by omega)
end Q13

set_option linter.all false
set_option Elab.async false
set_option maxRecDepth 100000
set_option maxHeartbeats 4000000
namespace Q13
open MP
open PySem (PyData Str)
/-! ### screens -/
theorem state_on_ok (n : Nat) {o : List Nat} (O : Out o) (scr : List Nat) : cl (n + 2) 12 .non [tN o, tN scr] = .ok (.fr ((List.range o.length).map fun i => if i ∈ brs o then (if i ∈ scr then encB (decide (i + 1 ∈ scr)) else .none) else .int 0), []) := by
  rw [r_state_on, runF_plain _ _ rfl rfl (by decide)]
  have h1 := O.pos
  have h2 := O.le
  have f3 : o.length ≤ 100000 := by omega
  simp [b_state_on, exS_seq', branches_of_ok (n + 0) O, branches_of_ok n O, itm_rng (j := o.length) (by omega), f3]
  refine for_then (List.range o.length) encN (fun pre e => ∃ s4 s5, soft (some s4) = true ∧ soft (some s5) = true ∧ e = [.val (tN o), .val (tN scr), .own ((brs o).map encN), .own (pre.map fun i => if i ∈ brs o then (if i ∈ scr then encB (decide (i + 1 ∈ scr)) else .none) else .int 0), s4, s5]) ⟨.un, .un, rfl, rfl, rfl⟩ ?_ ?_
  · rintro p i q e hp ⟨s4, s5, g4, g5, rfl⟩
    obtain ⟨rfl, hi⟩ := split_range hp
    have f5 : i < 100000 := by omega
    refine ⟨_, _, by simp [g4]; rfl, ?_, .val (encN i), .val (if i ∈ scr then encB (decide (i + 1 ∈ scr)) else .none), rfl, rfl, rfl⟩
    by_cases m1 : i ∈ scr <;> by_cases m2 : i ∈ brs o <;> simp [exS_seq', evIte_eq, in_tuple_nat, in_tuple_nat1, in_list_nat, g5, m1, m2, f5]
  · rintro e' ⟨s4, s5, g4, g5, rfl⟩
    simp
theorem good_screen_ok (n : Nat) {o : List Nat} (O : Out o) {s : List Bool} : cl (n + 3) 13 .non [tN o, tN (shown o s)] = .ok (.fz (.bool true), []) := by
  rw [r_good_screen, runF_plain _ _ rfl rfl (by decide)]
  have h1 := O.pos
  have h2 := O.le
  have f3 : (shown o s).length ≤ 100000 := by
    have := List.length_filter_le (vis o s) (List.range o.length)
    simp at this
    unfold shown
    omega
  have f4 : o.length ≤ 100000 := by omega
  simp [b_good_screen, exS_seq', evOrV_eq, tOrE_eq, isTy, f3]
  rw [comp_map encN (fun _ => true) (fun _ => .bool true) _ (fun i hi => ⟨_, rfl, rfl, fun _ => ⟨.fz (.bool true), by
    have hi := (mem_shown.mp hi).1
    have q1 : (i : Int) ≤ (o.length : Int) - 1 := by omega
    have q0 : (0 : Int) ≤ (i : Int) := by omega
    simp [is_integer_int (n + 1), q1, q0], rfl⟩, rfl⟩)]
  simp [bi_all_map (fun _ => true), state_on_ok n O, f4]
  rw [comp_map (fun i => if i ∈ brs o then (if i ∈ shown o s then encB (decide (i + 1 ∈ shown o s)) else .none) else .int 0) (fun _ => true) (fun i => encB (decide (i ∈ brs o) && (decide (i ∈ shown o s) && decide (i + 1 ∈ shown o s)))) _ (fun i hi => ⟨_, rfl, rfl, fun _ => by
    by_cases m1 : i ∈ shown o s <;> by_cases m2 : i ∈ brs o <;> by_cases m3 : i + 1 ∈ shown o s <;> exact ⟨.fz (encB (decide (i ∈ brs o) && (decide (i ∈ shown o s) && decide (i + 1 ∈ shown o s)))), by simp [evOrT_eq, m1, m2, m3, encB], rfl⟩, rfl⟩)]
  have e : ((List.range o.length).map fun i => encB (decide (i ∈ brs o) && (decide (i ∈ shown o s) && decide (i + 1 ∈ shown o s)))) = (scrState o (shown o s)).map encB := by
    unfold scrState
    rw [List.map_map]
    rfl
  have hD : ∀ i, i < o.length → idxD (.list ((scrState o (shown o s)).map encB)) (.int (i : Int)) = .ok (.fz (encB (sB (scrState o (shown o s)) i))) := fun i hi => idx_lS (by unfold scrState; simpa using hi)
  simp [e, rows_shown_any n O hD, shown_screen O, eq_tN]
theorem require_screen_ok (n : Nat) {o : List Nat} (O : Out o) {s : List Bool} : cl (n + 4) 14 .non [tN o, tN (shown o s)] = .ok (.fz .none, []) := by
  rw [r_require_screen, runF_plain _ _ rfl rfl (by decide)]
  simp [b_require_screen, good_screen_ok n O]
end Q13

set_option linter.all false
set_option Elab.async false
set_option maxRecDepth 100000
set_option maxHeartbeats 4000000
namespace Q13
open MP
open PySem (PyData Str)
theorem require_item_ok (n : Nat) {o : List Nat} (O : Out o) {i : Nat} (hi : i < o.length) : cl (n + 2) 3 .non [tN o, encN i] = .ok (.fz .none, []) := by
  rw [r_require_item, runF_plain _ _ rfl rfl (by decide)]
  have q1 : (i : Int) ≤ (o.length : Int) - 1 := by omega
  have q0 : (0 : Int) ≤ (i : Int) := by omega
  simp [b_require_item, is_integer_int n, q1, q0]
theorem good_screen_any (n : Nat) {o : List Nat} (O : Out o) (l : List Nat) (hl : l.length ≤ 1000) : cl (n + 3) 13 .non [tN o, tN l] = .ok (.fz (.bool (scrB o l)), []) := by
  rw [r_good_screen, runF_plain _ _ rfl rfl (by decide)]
  have h2 := O.le
  have f3 : l.length ≤ 100000 := by omega
  have f4 : o.length ≤ 100000 := by omega
  simp [b_good_screen, exS_seq', evOrV_eq, tOrE_eq, isTy, f3]
  rw [comp_map encN (fun _ => true) (fun x => .bool (decide (x < o.length))) _ (fun i hi => ⟨_, rfl, rfl, fun _ => ⟨.fz (.bool (decide (i < o.length))), by
    have q0 : (0 : Int) ≤ (i : Int) := by omega
    have q1 : decide ((i : Int) ≤ (o.length : Int) - 1) = decide (i < o.length) := by
      rw [Bool.eq_iff_iff]
      simp
      omega
    simp [is_integer_int (n + 1), q1, q0], rfl⟩, rfl⟩)]
  have hall := bi_all_map (fun x => decide (x < o.length)) l
  unfold scrB
  generalize hbb : l.all (fun x => decide (x < o.length)) = bb at hall ⊢
  simp only [filt_true, R.noexc, R.bind_ok, bindI_ok]
  cases bb with
  | true =>
    simp [hall, state_on_ok n O, f4]
    rw [comp_map (fun i => if i ∈ brs o then (if i ∈ l then encB (decide (i + 1 ∈ l)) else .none) else .int 0) (fun _ => true) (fun i => encB (decide (i ∈ brs o) && (decide (i ∈ l) && decide (i + 1 ∈ l)))) _ (fun i hi => ⟨_, rfl, rfl, fun _ => by
      by_cases m1 : i ∈ l <;> by_cases m2 : i ∈ brs o <;> by_cases m3 : i + 1 ∈ l <;> exact ⟨.fz (encB (decide (i ∈ brs o) && (decide (i ∈ l) && decide (i + 1 ∈ l)))), by simp [evOrT_eq, m1, m2, m3, encB], rfl⟩, rfl⟩)]
    have e : ((List.range o.length).map fun i => encB (decide (i ∈ brs o) && (decide (i ∈ l) && decide (i + 1 ∈ l)))) = (scrState o l).map encB := by
      unfold scrState
      rw [List.map_map]
      rfl
    have hD : ∀ i, i < o.length → idxD (.list ((scrState o l).map encB)) (.int (i : Int)) = .ok (.fz (encB (sB (scrState o l) i))) := fun i hi => idx_lS (by unfold scrState; simpa using hi)
    simp [e, rows_shown_any n O hD, eq_tN]
  | false => simp [hall]
theorem good_screen_odd (n : Nat) {o : List Nat} (v : PyData) (hd : ∀ kvs, v ≠ .dict kvs) (h : isTy .tuple v = false) : cl (n + 3) 13 .non [tN o, v] = .ok (.fz (.bool false), []) := by
  rw [r_good_screen, runF_plain _ _ rfl rfl (by decide)]
  simp [b_good_screen, h, isiD_nd _ _ hd]
theorem good_screen_tup (n : Nat) {o : List Nat} (ds : List PyData) (bs : List Bool) (hl : ds.length ≤ 1000) (e : ∃ (zs : List (PyData × Bool)), ds = zs.map (·.1) ∧ bs = zs.map (·.2) ∧ ∀ z ∈ zs, cl (n + 2) 0 .non [z.1, .int 0, .int ((o.length : Int) - 1)] = .ok (.fz (.bool z.2), [])) (h : bs.all id = false) : cl (n + 3) 13 .non [tN o, .tuple ds] = .ok (.fz (.bool false), []) := by
  obtain ⟨zs, rfl, rfl, hz⟩ := e
  rw [r_good_screen, runF_plain _ _ rfl rfl (by decide)]
  have f3 : zs.length ≤ 100000 := by simp at hl; omega
  simp [b_good_screen, exS_seq', evOrV_eq, tOrE_eq, isTy, f3]
  rw [comp_map (fun z : PyData × Bool => z.1) (fun _ => true) (fun z => .bool z.2) _ (fun z hm => ⟨_, rfl, rfl, fun _ => ⟨.fz (.bool z.2), by
    simp [hz z hm], rfl⟩, rfl⟩)]
  have h' : zs.all (fun z => z.2) = false := by
    rw [List.all_map] at h
    exact h
  simp [bi_all_map (fun z : PyData × Bool => z.2), h']
theorem aug_two (i : Nat) (y : Int) (e : MP.Env) (h : e[i]? = some (.val (.int y))) : augD i .mul (.fz (.int 2)) e = .ok (e.set i (.val (.int (y * 2)))) := by
  unfold augD
  rw [h]
  exact if_pos (.inr ⟨by decide, by decide⟩)
end Q13

set_option linter.all false
set_option Elab.async false
set_option maxRecDepth 100000
set_option maxHeartbeats 4000000
namespace Q13
open MP
open PySem (PyData Str)
/-! ### what is drawn -/
theorem take_ok (n : Nat) (a b c : Int) (h0 : 0 < c) (h1 : c < 1073741824) : ∃ (r : Nat) (a' b' : Int), cl (n + 1) 24 (.io [.int a, .int b]) [.int c] = .ok (.fz (.int (r : Int)), [.int a', .int b']) ∧ (r : Int) < c := by
  rw [r__law_take, runF_io _ _ _ rfl rfl (by decide)]
  by_cases ha : 0 < a
  · have hm := Int.emod_nonneg a (show c ≠ 0 by omega)
    have hl := Int.emod_lt_of_pos a h0
    refine ⟨(a % c).toNat, a / c, b, ?_, by omega⟩
    rw [Int.toNat_of_nonneg hm]
    simp [b__law_take, exS_seq', ha, arith_mod_int h0, arith_fdiv_int (a := a) ⟨h0, h1⟩, setIxD]
  · have z0 : (0 : Int) < 2147483647 := by decide
    have hb0 := Int.emod_nonneg (b * 48271) (show (2147483647 : Int) ≠ 0 by decide)
    have hb2 := Int.emod_lt_of_pos (b * 48271 % 2147483647) (show (0 : Int) < 32749 by decide)
    have hb3 := Int.emod_nonneg (b * 48271 % 2147483647) (show (32749 : Int) ≠ 0 by decide)
    have hm := Int.emod_nonneg (((b * 48271 % 2147483647) / 13 * ((b * 48271 % 2147483647) % 32749 + 17)) % 2147483629 / 32) (show c ≠ 0 by omega)
    have hl := Int.emod_lt_of_pos (((b * 48271 % 2147483647) / 13 * ((b * 48271 % 2147483647) % 32749 + 17)) % 2147483629 / 32) h0
    refine ⟨((((b * 48271 % 2147483647) / 13 * ((b * 48271 % 2147483647) % 32749 + 17)) % 2147483629 / 32) % c).toNat, a, b * 48271 % 2147483647, ?_, by omega⟩
    rw [Int.toNat_of_nonneg hm]
    simp [b__law_take, exS_seq', ha, arith_mod_int h0, setIxD, arith_mul_int (a := b) (b := 48271) (.inr (by decide)), arith_mod_int (b := 2147483647) (by decide), arith_fdiv_int (b := 13) (by decide), arith_mod_int (b := 32749) (by decide),
      arith_mul_int (a := (b * 48271 % 2147483647) / 13) (b := (b * 48271 % 2147483647) % 32749 + 17) (.inr (by omega)), arith_mod_int (b := 2147483629) (by decide), arith_fdiv_int (b := 32) (by decide)]
theorem of_ok (n : Nat) (a b : Int) (xs : List PyData) (h0 : 0 < xs.length) (h1 : xs.length ≤ 1000) : ∃ (r : Nat) (a' b' : Int), cl (n + 2) 25 (.io [.int a, .int b]) [.list xs] = .ok (.fz (xs.getD r .none), [.int a', .int b']) ∧ r < xs.length := by
  obtain ⟨r, a', b', h, hr⟩ := take_ok n a b (xs.length : Int) (by omega) (by omega)
  have hr : r < xs.length := by omega
  refine ⟨r, a', b', ?_, hr⟩
  rw [r__law_of, runF_io _ _ _ rfl rfl (by decide)]
  simp [b__law_of, h, idx_list xs (r : Int) (xs.getD r .none) (by rw [atD_nat]; exact getq hr _)]
theorem seed_ok (n : Nat) (e : MP.Env) {kk c y1 y2 y3 y4 y5 y7 : Int} (h1 : e[1]? = some (.val (.int kk))) (h2 : e[2]? = some (.val (.int c))) (g1 : arith .mod (.int c) (.int 2147483629) = .ok (.fz (.int y1))) (g2 : arith .mul (.int y1) (.int 16807) = .ok (.fz (.int y2)))
    (g3 : arith .mul (.int 40009) (.int kk) = .ok (.fz (.int y3))) (g4 : arith .mul (.int y3) (.int kk) = .ok (.fz (.int y4))) (g5 : arith .mul (.int 7919) (.int kk) = .ok (.fz (.int y5))) (g7 : arith .mod (.int (y2 + y4 + y5 + 1009)) (.int 2147483645) = .ok (.fz (.int y7))) :
    (ev (cl n) pg.gb (.bin .add (.cst (.int 1)) (.bin .mod (.bin .add (.bin .add (.bin .add (.bin .mul (.bin .mod (.peek 2) (.cst (.int 2147483629))) (.cst (.int 16807))) (.bin .mul (.bin .mul (.cst (.int 40009)) (.peek 1)) (.peek 1))) (.bin .mul (.cst (.int 7919)) (.peek 1))) (.cst (.int 1009))) (.cst (.int 2147483645))))).v e = .ok (.fz (.int (1 + y7)), e) := by
  simp [h1, h2, g1, g2, g3, g4, g5, g7]
theorem bag_ok (n : Nat) (ns : List Int) (k : Nat) (hk : k ≤ 100) : ∃ (a b : Int), cl (n + 1) 23 (.scr ns) [encN k] = .ok (.fr [.int a, .int b], []) := by
  rw [r__law_bag, runF_scr _ _ _ rfl rfl (by decide)]
  obtain ⟨P, hP, hp⟩ : ∃ P : Int, 0 < P ∧ arith .pow (.int 10) (.int 60) = .ok (.fz (.int P)) := ⟨10 ^ 60, Int.pow_pos (by decide), arith_pow_int ⟨by decide, by decide, by decide⟩⟩
  obtain ⟨Q, hq⟩ : ∃ Q : Int, arith .pow (.int 10) (.int 18) = .ok (.fz (.int Q)) := ⟨_, arith_pow_int ⟨by decide, by decide, by decide⟩⟩
  have m7 := fun c : Int => arith_mod_int (a := c) hP
  have cell : ∃ c : Int, exS (cl n) pg.gb (.seq (.asg 2 (.cst (.int 0))) (.iff (.cmp .lt (.peek 1) (.lenScr 0)) (.asg 2 (.bin .mod (.idxScr 0 (.peek 1)) (.bin .pow (.cst (.int 10)) (.cst (.int 60))))) .pass)) [.scr ns, .val (encN k), .un, .un] = .ok (.next, [.scr ns, .val (encN k), .val (.int c), .un]) := by
    by_cases hl : k < ns.length
    · have hx : atD ns (k : Int) = some (ns.getD k 0) := by rw [atD_nat]; exact getq hl 0
      refine ⟨ns.getD k 0 % P, ?_⟩
      simp [exS_seq', hl, hx, hp, m7]
    · refine ⟨0, ?_⟩
      simp [exS_seq', hl]
  obtain ⟨c, hc⟩ := cell
  have hk2 : (-(2 ^ 64) < (k : Int) ∧ (k : Int) < 2 ^ 64) := by omega
  have hke : encN k = .int (k : Int) := rfl
  generalize (k : Int) = kk at hk2 hke
  rw [hke] at hc ⊢
  obtain ⟨y1, g1⟩ : ∃ y, arith .mod (.int c) (.int 2147483629) = .ok (.fz (.int y)) := ⟨_, arith_mod_int (by decide)⟩
  obtain ⟨y2, g2⟩ : ∃ y, arith .mul (.int y1) (.int 16807) = .ok (.fz (.int y)) := ⟨_, arith_mul_int (.inr (by decide))⟩
  obtain ⟨y3, g3⟩ : ∃ y, arith .mul (.int 40009) (.int kk) = .ok (.fz (.int y)) := ⟨_, arith_mul_int (.inl (by decide))⟩
  obtain ⟨y4, g4⟩ : ∃ y, arith .mul (.int y3) (.int kk) = .ok (.fz (.int y)) := ⟨_, arith_mul_int (.inr hk2)⟩
  obtain ⟨y5, g5⟩ : ∃ y, arith .mul (.int 7919) (.int kk) = .ok (.fz (.int y)) := ⟨_, arith_mul_int (.inl (by decide))⟩
  obtain ⟨y7, g7⟩ : ∃ y, arith .mod (.int (y2 + y4 + y5 + 1009)) (.int 2147483645) = .ok (.fz (.int y)) := ⟨_, arith_mod_int (by decide)⟩
  have seed := seed_ok n [.scr ns, .val (.int kk), .val (.int c), .un] rfl rfl g1 g2 g3 g4 g5 g7
  generalize he : E.bin BOp.add (.cst (.int 1)) (.bin .mod (.bin .add (.bin .add (.bin .add (.bin .mul (.bin .mod (.peek 2) (.cst (.int 2147483629))) (.cst (.int 16807))) (.bin .mul (.bin .mul (.cst (.int 40009)) (.peek 1)) (.peek 1))) (.bin .mul (.cst (.int 7919)) (.peek 1))) (.cst (.int 1009))) (.cst (.int 2147483645))) = es at seed
  have hb : b__law_bag.body = .seq (.asg 2 (.cst (.int 0))) (.seq (.iff (.cmp .lt (.peek 1) (.lenScr 0)) (.asg 2 (.bin .mod (.idxScr 0 (.peek 1)) (.bin .pow (.cst (.int 10)) (.cst (.int 60))))) .pass) (.seq (.asg 3 es) (.seq (.iff (.cmp .lt (.peek 2) (.bin .pow (.cst (.int 10)) (.cst (.int 18)))) (.ret (.lst (.cons (.cst (.int 0)) (.cons (.var 3) .nil)))) .pass) (.ret (.lst (.cons (.var 2) (.cons (.var 3) .nil))))))) := by
    rw [← he]
    rfl
  have hs : ∀ (a b r : MP.S) (env e2 : MP.Env), exS (cl n) pg.gb (.seq a b) env = .ok (.next, e2) → exS (cl n) pg.gb (.seq a (.seq b r)) env = exS (cl n) pg.gb r e2 := fun a b r env e2 h => by
    rw [exS_seq'] at h ⊢
    cases ha : exS (cl n) pg.gb a env with
    | stuck => rw [ha] at h; cases h
    | exc _ => rw [ha] at h; cases h
    | ok p =>
      obtain ⟨fl, e1⟩ := p
      rw [ha] at h
      cases fl with
      | ret _ => cases h
      | next =>
        simp only [R.bind_ok, onF_next] at h ⊢
        rw [exS_seq', h]
        rfl
  have hn : b__law_bag.slots - b__law_bag.np = 2 := rfl
  rw [hb, hn, show (Slot.scr ns :: (List.map Slot.val [PyData.int kk] ++ List.replicate 2 Slot.un)) = [.scr ns, .val (.int kk), .un, .un] from rfl, hs _ _ _ _ _ hc]
  simp [exS_seq', seed, hq]
  by_cases hcq : c < Q <;> simp [hcq]
theorem law_branches_ok (n : Nat) {o : List Nat} (O : Out o) : cl (n + 1) 27 .non [tN o] = .ok (.fr ((brs o).map encN), []) := by
  have h1 := O.pos
  have h2 := O.le
  rw [r__law_branches, runF_plain _ _ rfl rfl (by decide)]
  have e1 : ((o.length : Int) - 1) = ((o.length - 1 : Nat) : Int) := by omega
  simp [b__law_branches, e1, itm_rng (j := o.length - 1) (by omega)]
  rw [if_pos (by omega), comp_map encN (fun i => decide (gN o i < gN o (i + 1))) encN]
  · rfl
  · intro i hi
    have hi := List.mem_range.mp hi
    refine ⟨_, rfl, ?_, fun _ => ⟨_, rfl, rfl⟩, rfl⟩
    simp [idx_tN (o := o) (i := i) (by omega), idx_tN1 (o := o) (i := i) (by omega)]
theorem law_parent_ok (n : Nat) {o : List Nat} (O : Out o) {i : Nat} (hi : i < o.length) : cl (n + 1) 28 .non [tN o, encN i] = .ok (.fz (encO (par o i)), []) := by
  have h2 := O.le
  rw [r__law_parent, runF_plain _ _ rfl rfl (by decide)]
  have f4 : i ≤ 100000 := by omega
  simp [b__law_parent, exS_seq', itm_rng (j := i) (by omega), f4]
  rw [comp_map encN (fun k => decide (gN o k + 1 = gN o i)) encN]
  · cases hpar : par o i with
    | none =>
      have hL := hpar
      unfold par at hL
      rw [List.getLast?_eq_none_iff] at hL
      have := ne_nil_nat []
      simp at this
      simp [evIte_eq, hL, this, encO]
    | some r =>
      have hL := hpar
      unfold par at hL
      have hne : ((List.range i).filter fun k => decide (gN o k + 1 = gN o i)) ≠ [] := by
        intro z
        rw [z] at hL
        cases hL
      simp [evIte_eq, hne, ne_nil_nat, idx_last hL, encO]
  · intro k hk
    have hk := List.mem_range.mp hk
    refine ⟨_, rfl, ?_, fun _ => ⟨_, rfl, rfl⟩, rfl⟩
    simp [idx_tN (o := o) (i := k) (by omega), idx_tN (o := o) (i := i) hi, beq_sub_one]
theorem law_above_ok (n : Nat) {o : List Nat} (O : Out o) {i : Nat} (hi : i < o.length) : cl (n + 2) 29 .non [tN o, encN i] = .ok (.fr ((abv o i).map encN), []) := by
  have h2 := O.le
  rw [r__law_above, runF_plain _ _ rfl rfl (by decide)]
  have key : ∀ (m : Nat) (f : List Nat) (h : Option Nat), (∀ p, h = some p → p < o.length ∧ p < m) → f.length + m ≤ 1000 →
      whileL (ev (cl (n + 1)) pg.gb (.cmp .isnot (.peek 3) (.cst .none))).t (exS (cl (n + 1)) pg.gb (.seq (.app 2 (.var 3)) (.asg 3 (.call 28 (.cons (.var 0) (.cons (.var 3) .nil)))))) (m + 1) [.val (tN o), .val (encN i), .own (f.map encN), .val (encO h)] =
      .ok (.next, [.val (tN o), .val (encN i), .own ((f ++ (match h with | none => [] | some p => p :: abv o p)).map encN), .val .none]) := by
    intro m
    induction m with
    | zero =>
      intro f h hh hf
      cases h with
      | none => rw [while_stop (e1 := [.val (tN o), .val (encN i), .own (f.map encN), .val .none]) (by simp [encO])]; simp
      | some p => exact absurd (hh p rfl).2 (by omega)
    | succ m ih =>
      intro f h hh hf
      cases h with
      | none => rw [while_stop (e1 := [.val (tN o), .val (encN i), .own (f.map encN), .val .none]) (by simp [encO])]; simp
      | some p =>
        obtain ⟨hp, hpm⟩ := hh p rfl
        have f4 : f.length < 100000 := by omega
        rw [while_step (e1 := [.val (tN o), .val (encN i), .own (f.map encN), .val (encO (some p))]) (e2 := [.val (tN o), .val (encN i), .own ((f ++ [p]).map encN), .val (encO (par o p))]) (by simp) (by
          have := law_parent_ok n O hp
          simp [exS_seq', f4, encO, this])]
        rw [ih (f ++ [p]) (par o p) (fun q hq => by
          have := (par_lt hq).1
          omega) (by simp; omega)]
        cases hpar : par o p with
        | none => simp [abv_none hpar]
        | some q => simp [abv_some hpar]
  have := key 999 [] (par o i) (fun p hp => by
    have := (par_lt hp).1
    omega) (by simp)
  simp [b__law_above, exS_seq', law_parent_ok n O hi] at this ⊢
  rw [this]
  cases hpar : par o i with
  | none => simp [abv_none hpar]
  | some q => simp [abv_some hpar]
theorem law_shown_any (n : Nat) {o : List Nat} (O : Out o) {s : List Bool} {D : PyData} (hD : ∀ i, i < o.length → idxD D (.int (i : Int)) = .ok (.fz (encB (sB s i)))) : cl (n + 3) 31 .non [tN o, D] = .ok (.fz (tN (shown o s)), []) := by
  have h1 := O.pos
  have h2 := O.le
  have f3 : o.length ≤ 100000 := by omega
  rw [r__law_shown, runF_plain _ _ rfl rfl (by decide)]
  simp [b__law_shown, exS_seq', itm_rng (j := o.length) (by omega), f3]
  refine for_then (List.range o.length) encN (fun pre e => ∃ s3, soft (some s3) = true ∧ e = [.val (tN o), .val D, .own ((pre.filter (vis o s)).map encN), s3, .un]) ⟨.un, rfl, rfl⟩ ?_ ?_
  · rintro p i q e hp ⟨s3, g3, rfl⟩
    obtain ⟨rfl, hi⟩ := split_range hp
    have f4 : ((List.range i).filter (vis o s)).length < 100000 := by
      have := List.length_filter_le (vis o s) (List.range i)
      simp at this
      omega
    have f5 : (abv o i).length ≤ 100000 := by
      have := abv_len o i
      omega
    refine ⟨_, [.val (tN o), .val D, .own (((List.range i ++ [i]).filter (vis o s)).map encN), .val (encN i), .un], by simp [g3]; rfl, ?_, .val (encN i), rfl, rfl⟩
    simp [law_above_ok n O hi, f5]
    rw [comp_map encN (fun k => !sB s k) encN _ (fun k hk => ⟨_, rfl, by
      have := abv_lt i k hk
      simp [hD k (by omega)], fun _ => ⟨_, rfl, rfl⟩, rfl⟩)]
    have hv : ((abv o i).filter fun k => !sB s k).isEmpty = vis o s i := by
      unfold vis
      rw [Bool.eq_iff_iff]
      simp
    simp [eq_nil_nat, hv]
    cases hvi : vis o s i with
    | true => simp [f4, hvi]
    | false => simp [hvi]
  · rintro e' ⟨s3, g3, rfl⟩
    simp [shown]
theorem law_shown_ok (n : Nat) {o : List Nat} (O : Out o) {s : List Bool} (h : s.length = o.length) : cl (n + 3) 31 .non [tN o, tS s] = .ok (.fz (tN (shown o s)), []) := law_shown_any n O fun i hi => idx_tS (by omega)
end Q13

set_option linter.all false
set_option Elab.async false
set_option maxRecDepth 100000
set_option maxHeartbeats 4000000
namespace Q13
open MP
open PySem (PyData Str)
/-! ### the law's outlines, states -/
structure Out0 (o : List Nat) (m : Nat) : Prop where
  len : o.length = m + 1
  zero : gN o 0 = 0
  step : ∀ i, i + 1 < o.length → gN o (i + 1) ≤ gN o i + 1
theorem law_outline_ok (n : Nat) (a b : Int) (most : Nat) (h0 : 0 < most) (h1 : most ≤ 16) : ∃ (o : List Nat) (a' b' : Int), cl (n + 2) 26 (.io [.int a, .int b]) [encN most] = .ok (.fz (tN o), [.int a', .int b']) ∧ Out o ∧ o.length ≤ most := by
  obtain ⟨deep, a1, b1, e1, _⟩ := take_ok n a b 3 (by decide) (by decide)
  obtain ⟨r, a2, b2, e2, hr⟩ := take_ok n a1 b1 (most : Int) (by omega) (by omega)
  rw [r__law_outline, runF_io _ _ _ rfl rfl (by decide)]
  refine hold_start (P := fun X : R (RV × List PyData) => ∃ (o : List Nat) (a' b' : Int), X = .ok (.fz (tN o), [.int a', .int b']) ∧ Out o ∧ o.length ≤ most) fun Q hQ => ?_
  have f1 : r ≤ 100000 := by omega
  simp [b__law_outline, exS_seq', e1, e2, itm_rng (j := r) (by omega), f1]
  refine for_thenP Q (List.range r) encN (fun pre e => ∃ (o : List Nat) (a b : Int) (s2 s5 : Slot), Out0 o pre.length ∧ soft (some s2) = true ∧ soft (some s5) = true ∧ e = [.io [.int a, .int b], .val (encN most), s2, .own (o.map encN), .val (.int (deep : Int)), s5]) ⟨[0], a2, b2, .un, .un, ⟨rfl, rfl, fun i hi => by simp at hi⟩, rfl, rfl, rfl⟩ ?_ ?_
  · rintro p i q e hp ⟨o, a, b, s2, s5, O, g2, g5, rfl⟩
    obtain ⟨rfl, hi⟩ := split_range hp
    have hlen : o.length = i + 1 := by simpa using O.len
    obtain ⟨last, hlast⟩ : ∃ d, o.getLast? = some d := by
      cases hh : o.getLast? with
      | none =>
        rw [List.getLast?_eq_none_iff] at hh
        rw [hh] at hlen
        simp at hlen
      | some d => exact ⟨d, rfl⟩
    have hg : gN o i = last := by
      rw [List.getLast?_eq_getElem?, hlen] at hlast
      unfold gN
      rw [List.getD_eq_getElem?_getD, show i + 1 - 1 = i by omega] at *
      rw [hlast]
      rfl
    have hbound : ∀ k, k < o.length → gN o k ≤ k := by
      intro k
      induction k with
      | zero => intro _; rw [O.zero]; exact Nat.le_refl 0
      | succ k ih =>
        intro hk
        have := O.step k hk
        have := ih (by omega)
        omega
    have hl16 : last ≤ 16 := by
      have := hbound i (by omega)
      omega
    obtain ⟨d, a3, b3, e3, hd⟩ := take_ok n a b ((last : Int) + 2) (by omega) (by omega)
    have f2 : o.length < 100000 := by omega
    have fin : ∀ d' : Nat, d' ≤ last + 1 → Out0 (o ++ [d']) (i + 1) := fun d' hd' => ⟨by simp [hlen], by
      unfold gN
      rw [List.getD_eq_getElem?_getD, List.getElem?_append_left (by omega), ← List.getD_eq_getElem?_getD]
      exact O.zero, fun k hk => by
        by_cases hki : k + 1 < o.length
        · have := O.step k hki
          unfold gN at this ⊢
          rw [List.getD_eq_getElem?_getD, List.getD_eq_getElem?_getD, List.getElem?_append_left hki, List.getElem?_append_left (by omega), ← List.getD_eq_getElem?_getD, ← List.getD_eq_getElem?_getD]
          exact this
        · have hk2 : k = i := by
            simp at hk
            omega
          subst hk2
          unfold gN at hg ⊢
          rw [List.getD_eq_getElem?_getD, List.getD_eq_getElem?_getD, List.getElem?_append_right (by omega), List.getElem?_append_left (by omega), hlen, ← List.getD_eq_getElem?_getD, ← List.getD_eq_getElem?_getD]
          rw [hg]
          simpa using hd'⟩
    by_cases hdeep : deep = 0
    · by_cases hm : (d : Int) < (last : Int)
      · refine ⟨_, [.io [.int a3, .int b3], .val (encN most), .val (encN i), .own ((o ++ [last]).map encN), .val (.int (deep : Int)), .val (encN d)], by simp [g2]; rfl, ?_, o ++ [last], a3, b3, _, _, by simpa using fin last (by omega), rfl, rfl, rfl⟩
        have hm' : d < last := by omega
        simp [exS_seq', evIte_eq, idx_last hlast, e3, g5, hdeep, f2, hm']
      · refine ⟨_, [.io [.int a3, .int b3], .val (encN most), .val (encN i), .own ((o ++ [d]).map encN), .val (.int (deep : Int)), .val (encN d)], by simp [g2]; rfl, ?_, o ++ [d], a3, b3, _, _, by simpa using fin d (by omega), rfl, rfl, rfl⟩
        have hm' : ¬ d < last := by omega
        simp [exS_seq', evIte_eq, idx_last hlast, e3, g5, hdeep, f2, hm']
    · refine ⟨_, [.io [.int a3, .int b3], .val (encN most), .val (encN i), .own ((o ++ [d]).map encN), .val (.int (deep : Int)), .val (encN d)], by simp [g2]; rfl, ?_, o ++ [d], a3, b3, _, _, by simpa using fin d (by omega), rfl, rfl, rfl⟩
      simp [exS_seq', evIte_eq, idx_last hlast, e3, g5, hdeep, f2]
  · rintro e' ⟨o, a, b, s2, s5, O, g2, g5, rfl⟩
    have hlen : o.length = r + 1 := by simpa using O.len
    refine hQ _ ⟨o, a, b, by simp, ⟨by omega, by omega, O.zero, O.step⟩, by omega⟩
end Q13

set_option linter.all false
set_option Elab.async false
set_option maxRecDepth 100000
set_option maxHeartbeats 4000000
namespace Q13
open MP
open PySem (PyData Str)
theorem law_state_ok (n : Nat) (a b : Int) {o : List Nat} (O : Out o) : ∃ (s : List Bool) (a' b' : Int), cl (n + 3) 32 (.io [.int a, .int b]) [tN o] = .ok (.fz (tS s), [.int a', .int b']) ∧ Good o s := by
  have h2 := O.le
  obtain ⟨way, a1, b1, e1, hway⟩ := take_ok (n + 1) a b 4 (by decide) (by decide)
  have hw : ∃ ws : List Bool, 0 < ws.length ∧ ws.length ≤ 1000 ∧ idxD (.list [.list [.int 0, .int 1], .list [.int 0, .int 0, .int 1], .list [.int 0, .int 1, .int 1], .list [.int 0, .int 1]]) (.int (way : Int)) = .ok (.fz (.list (ws.map encB))) := by
    have : way = 0 ∨ way = 1 ∨ way = 2 ∨ way = 3 := by omega
    rcases this with rfl | rfl | rfl | rfl
    · exact ⟨[false, true], by decide, by decide, rfl⟩
    · exact ⟨[false, false, true], by decide, by decide, rfl⟩
    · exact ⟨[false, true, true], by decide, by decide, rfl⟩
    · exact ⟨[false, true], by decide, by decide, rfl⟩
  obtain ⟨ws, w1, w2, w3⟩ := hw
  rw [r__law_state, runF_io _ _ _ rfl rfl (by decide)]
  refine hold_start (P := fun X : R (RV × List PyData) => ∃ (s : List Bool) (a' b' : Int), X = .ok (.fz (tS s), [.int a', .int b']) ∧ Good o s) fun Q hQ => ?_
  have f1 : o.length ≤ 100000 := by omega
  simp [b__law_state, exS_seq', e1, law_branches_ok (n + 1) O, w3, itm_rng (j := o.length) (by omega), f1]
  refine for_thenP Q (List.range o.length) encN (fun pre e => ∃ (s : List Bool) (a b : Int) (s2 : Slot), s.length = pre.length ∧ (∀ i, sB s i = true → i ∈ brs o) ∧ soft (some s2) = true ∧ e = [.io [.int a, .int b], .val (tN o), s2, .own ((brs o).map encN), .val (.int (way : Int)), .val (.list (ws.map encB)), .own (s.map encB)]) ⟨[], a1, b1, .un, rfl, fun i hi => by simp [sB] at hi, rfl, rfl⟩ ?_ ?_
  · rintro p i q e hp ⟨s, a, b, s2, hl, hs, g2, rfl⟩
    obtain ⟨rfl, hi⟩ := split_range hp
    have hl' : s.length = i := by simpa using hl
    have f2 : s.length < 100000 := by omega
    have fin : ∀ c : Bool, (c = true → i ∈ brs o) → ∀ k, sB (s ++ [c]) k = true → k ∈ brs o := fun c hc k hk => by
      by_cases hki : k < s.length
      · refine hs k ?_
        unfold sB at hk ⊢
        rwa [List.getD_eq_getElem?_getD, List.getElem?_append_left hki, ← List.getD_eq_getElem?_getD] at hk
      · unfold sB at hk
        rw [List.getD_eq_getElem?_getD, List.getElem?_append_right (by omega)] at hk
        by_cases hk2 : k - s.length = 0
        · have : k = i := by omega
          rw [this]
          rw [hk2] at hk
          exact hc (by simpa using hk)
        · rw [List.getElem?_eq_none (by simp; omega)] at hk
          cases hk
    by_cases m : i ∈ brs o
    · obtain ⟨r, a2, b2, e2, hr⟩ := of_ok n a b (ws.map encB) (by simpa using w1) (by simpa using w2)
      have hr' : r < ws.length := by simpa using hr
      have hv : (ws.map encB).getD r .none = encB (sB ws r) := by
        rw [List.getD_eq_getElem?_getD, List.getElem?_map, sB_get hr']
        rfl
      rw [hv] at e2
      refine ⟨_, [.io [.int a2, .int b2], .val (tN o), .val (encN i), .own ((brs o).map encN), .val (.int (way : Int)), .val (.list (ws.map encB)), .own ((s ++ [sB ws r]).map encB)], by simp [g2]; rfl, ?_, s ++ [sB ws r], a2, b2, _, by simp [hl'], fin _ (fun _ => m), rfl, rfl⟩
      simp [evIte_eq, in_list_nat, m, e2, f2]
    · refine ⟨_, [.io [.int a, .int b], .val (tN o), .val (encN i), .own ((brs o).map encN), .val (.int (way : Int)), .val (.list (ws.map encB)), .own ((s ++ [false]).map encB)], by simp [g2]; rfl, ?_, s ++ [false], a, b, _, by simp [hl'], fin _ (fun z => by cases z), rfl, rfl⟩
      simp [evIte_eq, in_list_nat, m, f2, encB]
  · rintro e' ⟨s, a, b, s2, hl, hs, g2, rfl⟩
    exact hQ _ ⟨s, a, b, by simp, ⟨by simpa using hl, hs⟩⟩
theorem ixOf_nat {n i : Nat} (h : i < n) : ixOf n (i : Int) = some i := by
  unfold ixOf
  rw [if_pos (by omega), if_pos (by omega)]
  rfl
theorem law_after_plain (n : Nat) {o : List Nat} (O : Out o) {s : List Bool} (hl : s.length = o.length) {i : Nat} (hi : i < o.length) : cl (n + 4) 33 .non [tN o, tS s, encC (false, i)] = .ok (.fz (encS (stepC o s (false, i))), []) := by
  rw [r__law_after, runF_plain _ _ rfl rfl (by decide)]
  have h1 := O.pos
  have h2 := O.le
  by_cases m1 : i ∈ brs o
  · by_cases m2 : i ∈ shown o s
    · have hs : stepC o s (false, i) = some (s.set i (!sB s i)) := by
        unfold stepC
        rw [if_pos ⟨m1, m2⟩]
        rfl
      rw [hs]
      simp [b__law_after, exS_seq', tOrE_eq, encC, law_branches_ok (n + 2) O, notin_list_nat, notin_tuple_nat, m1, m2, law_shown_ok n O hl, eq_plain', idx_tS (s := s) (i := i) (by omega), setIxD, ixOf_nat (n := s.length) (i := i) (by omega), encS]
    · have hs : stepC o s (false, i) = none := by
        unfold stepC
        rw [if_neg (fun z => m2 z.2)]
      rw [hs]
      simp [b__law_after, exS_seq', tOrE_eq, encC, law_branches_ok (n + 2) O, notin_list_nat, notin_tuple_nat, m1, m2, law_shown_ok n O hl, encS]
  · have hs : stepC o s (false, i) = none := by
      unfold stepC
      rw [if_neg (fun z => m1 z.1)]
    rw [hs]
    simp [b__law_after, exS_seq', tOrE_eq, encC, law_branches_ok (n + 2) O, notin_list_nat, m1, encS]
end Q13

set_option linter.all false
set_option Elab.async false
set_option maxRecDepth 100000
set_option maxHeartbeats 4000000
namespace Q13
open MP
open PySem (PyData Str)
theorem snoc0 (s : List Bool) : s.map encB ++ [PyData.int 0] = (s ++ [false]).map encB := by simp [encB]
theorem snoc1 (s : List Bool) : s.map encB ++ [PyData.int 1] = (s ++ [true]).map encB := by simp [encB]
theorem add_zero (s : List Bool) (h : s.length ≤ 1000) : arith .add (.tuple (s.map encB)) (.tuple [.int 0]) = .ok (.fz (tS (s ++ [false]))) := by
  rw [add_tuple _ _ (by simp; omega), snoc0]
theorem add_one (s : List Bool) (h : s.length ≤ 1000) : arith .add (.tuple (s.map encB)) (.tuple [.int 1]) = .ok (.fz (tS (s ++ [true]))) := by
  rw [add_tuple _ _ (by simp; omega), snoc1]
def stepG (o : List Nat) (j : Nat) (s : List Bool) : List (List Bool) := if j ∈ brs o then [s ++ [false], s ++ [true]] else [s ++ [false]]
theorem stG_succ (o : List Nat) (j : Nat) : stG o (j + 1) = (stG o j).flatMap (stepG o j) := rfl
theorem stepG_len (o : List Nat) (j : Nat) (s : List Bool) : (stepG o j s).length ≤ 2 := by
  unfold stepG
  split <;> simp
theorem inner_ok (n : Nat) {o : List Nat} (j : Nat) (hj : j < 8) (s5 : Slot) (g5 : soft (some s5) = true) : ∃ s5', soft (some s5') = true ∧
    forL (exS (cl n) pg.gb (.seq (.app 4 (.bin .add (.peek 5) (.tup (.cons (.cst (.int 0)) .nil))))
  (.iff (.cmp .in_ (.peek 1) (.peek 3))
  (.app 4 (.bin .add (.peek 5) (.tup (.cons (.cst (.int 1)) .nil))))
  .pass))) (.name 5) ((stG o j).map tS) [.val (tN o), .val (encN j), .val (.list ((stG o j).map tS)), .own ((brs o).map encN), .own [], s5] = .ok (.next, [.val (tN o), .val (encN j), .val (.list ((stG o j).map tS)), .own ((brs o).map encN), .own ((stG o (j + 1)).map tS), s5']) := by
  have hsz := stG_size (o := o) j
  have h8 : 2 ^ j ≤ 2 ^ 8 := Nat.pow_le_pow_right (by decide) (by omega)
  have h256 : (2 : Nat) ^ 8 = 256 := by decide
  obtain ⟨e', h1, s5', g5', rfl⟩ := for_inv (body := exS (cl n) pg.gb (.seq (.app 4 (.bin .add (.peek 5) (.tup (.cons (.cst (.int 0)) .nil))))
  (.iff (.cmp .in_ (.peek 1) (.peek 3))
  (.app 4 (.bin .add (.peek 5) (.tup (.cons (.cst (.int 1)) .nil))))
  .pass))) (tg := .name 5) tS (fun pre e => ∃ s5, soft (some s5) = true ∧ e = [.val (tN o), .val (encN j), .val (.list ((stG o j).map tS)), .own ((brs o).map encN), .own ((pre.flatMap (stepG o j)).map tS), s5]) (stG o j) [] [.val (tN o), .val (encN j), .val (.list ((stG o j).map tS)), .own ((brs o).map encN), .own [], s5] ⟨s5, g5, rfl⟩ (by
    rintro p s q e hp ⟨s5, g5, rfl⟩
    rw [List.nil_append] at hp
    have hs : s.length = j := stG_len j s (by rw [hp]; simp)
    have hlp : p.length < 256 := by
      have := congrArg List.length hp
      simp at this
      omega
    have f1 : (p.flatMap (stepG o j)).length ≤ 2 * p.length := flat_le _ 2 p fun x _ => stepG_len o j x
    have f2 : (p.flatMap (stepG o j)).length < 100000 := by omega
    have f3 : (p.flatMap (stepG o j)).length + 1 < 100000 := by omega
    have a0 := add_zero s (by omega)
    have a1 := add_one s (by omega)
    generalize hL : p.flatMap (stepG o j) = L at *
    refine ⟨_, _, by simp [g5]; rfl, ?_, .val (tS s), rfl, rfl⟩
    have e1 : (p ++ [s]).flatMap (stepG o j) = L ++ stepG o j s := by simp [hL]
    rw [e1]
    by_cases m : j ∈ brs o
    · simp [exS_seq', a0, a1, f2, f3, in_list_nat, m, stepG]
    · simp [exS_seq', a0, a1, f2, f3, in_list_nat, m, stepG])
  exact ⟨s5', g5', h1⟩
theorem law_all_states_ok (n : Nat) {o : List Nat} (O : Out o) (h8 : o.length ≤ 8) : cl (n + 2) 35 .non [tN o] = .ok (.fz (.list ((stG o o.length).map tS)), []) := by
  rw [r__law_all_states, runF_plain _ _ rfl rfl (by decide)]
  have h1 := O.pos
  have f3 : o.length ≤ 100000 := by omega
  simp [b__law_all_states, exS_seq', law_branches_ok n O, itm_rng (j := o.length) (by omega), f3]
  refine for_then (List.range o.length) encN (fun pre e => ∃ s1 sl s4 s5, soft (some s1) = true ∧ soft (some s4) = true ∧ soft (some s5) = true ∧ (sl = .val (.list ((stG o pre.length).map tS)) ∨ pre = [] ∧ sl = .own ((stG o 0).map tS)) ∧ e = [.val (tN o), s1, sl, .own ((brs o).map encN), s4, s5]) ⟨.un, _, .un, .un, rfl, rfl, rfl, .inr ⟨rfl, rfl⟩, rfl⟩ ?_ ?_
  · rintro p i q e hp ⟨s1, sl, s4, s5, g1, g4, g5, hsl, rfl⟩
    obtain ⟨rfl, hi⟩ := split_range hp
    have hsz := stG_size (o := o) i
    have h8 : 2 ^ i ≤ 2 ^ 8 := Nat.pow_le_pow_right (by decide) (by omega)
    have h256 : (2 : Nat) ^ 8 = 256 := by decide
    have f5 : (stG o i).length ≤ 100000 := by omega
    have fin : ∃ s4' s5', soft (some s4') = true ∧ soft (some s5') = true ∧ exS (cl (n + 1)) pg.gb (.seq (.asg 4 (.lst .nil))
  (.seq (.for_ (.name 5) .seq (.var 2)
  (.seq (.app 4 (.bin .add (.peek 5) (.tup (.cons (.cst (.int 0)) .nil))))
  (.iff (.cmp .in_ (.peek 1) (.peek 3))
  (.app 4 (.bin .add (.peek 5) (.tup (.cons (.cst (.int 1)) .nil))))
  .pass)))
  (.asg 2 (.var 4)))) [.val (tN o), .val (encN i), sl, .own ((brs o).map encN), s4, s5] = .ok (.next, [.val (tN o), .val (encN i), .val (.list ((stG o (i + 1)).map tS)), .own ((brs o).map encN), s4', s5']) := by
      rw [seq_step (e1 := [.val (tN o), .val (encN i), sl, .own ((brs o).map encN), .own [], s5]) (by simp [g4])]
      have rd : readVar 2 [.val (tN o), .val (encN i), sl, .own ((brs o).map encN), .own [], s5] = .ok (.fz (.list ((stG o i).map tS)), [.val (tN o), .val (encN i), .val (.list ((stG o i).map tS)), .own ((brs o).map encN), .own [], s5]) := by
        rw [List.length_range] at hsl
        rcases hsl with rfl | ⟨h0, rfl⟩
        · simp
        · have : i = 0 := by simpa using h0
          subst this
          simp
      rw [exS_seq', exS_for]
      have e0 : (ev (cl (n + 1)) pg.gb (.var 2)).v = readVar 2 := rfl
      rw [itE_seq, e0, rd]
      simp only [R.bind_ok, frz_fz, items_seq_list, List.length_map]
      rw [if_pos (show (stG o i).length ≤ cap from f5)]
      obtain ⟨s5', g5', e5⟩ := inner_ok (n + 1) (o := o) i (by omega) s5 g5
      rw [e5]
      exact ⟨.val (.list ((stG o (i + 1)).map tS)), s5', rfl, g5', rfl⟩
    obtain ⟨s4', s5', g4', g5', e6⟩ := fin
    refine ⟨_, _, by simp [g1], e6, .val (encN i), .val (.list ((stG o (i + 1)).map tS)), s4', s5', rfl, g4', g5', .inl (by simp), rfl⟩
  · rintro e' ⟨s1, sl, s4, s5, g1, g4, g5, hsl, rfl⟩
    rcases hsl with rfl | ⟨h0, rfl⟩
    · simp
    · rw [List.range_eq_nil] at h0
      omega
end Q13

set_option linter.all false
set_option Elab.async false
set_option maxRecDepth 100000
set_option maxHeartbeats 4000000
namespace Q13
open MP
open PySem (PyData Str)
theorem children_ok (n : Nat) {o : List Nat} (O : Out o) : cl (n + 2) 6 .non [tN o] = .ok (.fz (.list ((List.range o.length).map fun i => lN (kd o i))), []) := by
  rw [r_children, runF_plain _ _ rfl rfl (by decide)]
  have h2 := O.le
  have e1 := parents_of_ok n O
  have f1 : o.length ≤ cap := by show o.length ≤ 100000; omega
  have e2 := addK_all o
  have b : exS (cl (n + 1)) pg.gb b_children.body [.val (tN o), .un, .un, .un] = .ok (.ret (.fz (.list ((List.range o.length).map fun i => lN (kd o i)))), [.val (tN o), .val (.list ((List.range o.length).map fun i => lN (kd o i))), .un, .un]) := by
    show (match [Slot.val (tN o), .un, .un, .un][0]? with
    | some (.val (.tuple ds)) => _
    | _ => R.stuck) = _
    show (if (o.map encN).length ≤ cap ∧ soft (some Slot.un) = true ∧ calmS (some Slot.un) = true ∧ calmS (some Slot.un) = true then (cl (n + 1) 4 .non [.tuple (o.map encN)]).bind _ else R.stuck) = _
    rw [if_pos ⟨by rw [List.length_map]; exact f1, rfl, rfl, rfl⟩, e1, R.bind_ok]
    show (if ((List.range o.length).map fun i => encO (par o i)).length ≤ cap then (R.of (addK (List.replicate (o.map encN).length []) 0 ((List.range o.length).map fun i => encO (par o i)))).bind _ else R.stuck) = _
    rw [if_pos (by rw [List.length_map, List.length_range]; exact f1), List.length_map, e2, R.of_some, R.bind_ok]
    show R.ok (Fl.ret (.fz (.list (((List.range o.length).map (kd o)).map fun l => .list (l.map fun k : Nat => .int k)))), kidE [Slot.val (tN o), .un, .un, .un] 1 2 3 ((List.range o.length).map (kd o))) = _
    unfold kidE
    rw [List.map_map]
    rfl
  have b' : exS (cl (n + 1)) pg.gb b_children.body (([tN o] : List PyData).map Slot.val ++ List.replicate (b_children.slots - b_children.np) .un) = _ := b
  rw [b']
  rfl
theorem roots_ok (n : Nat) {o : List Nat} (O : Out o) : cl (n + 1) 7 .non [tN o] = .ok (.fr ((rts o).map encN), []) := by
  rw [r_roots, runF_plain _ _ rfl rfl (by decide)]
  have h2 := O.le
  have f1 : o.length ≤ 100000 := by omega
  simp [b_roots, f1]
  rw [enum_enc o encN, comp_map (fun p : Nat × Nat => .tuple [encN p.2, encN p.1]) (fun p => decide (p.1 = 0)) (fun p => encN p.2) _ (fun p hp => ⟨_, rfl, by
    have : ((p.1 : Int) == 0) = decide (p.1 = 0) := by
      rw [Bool.eq_iff_iff]
      simp
    simp [this], fun _ => ⟨.fz (encN p.2), by simp, rfl⟩, rfl⟩)]
  have e : (o.zipIdx.filter fun p => decide (p.1 = 0)).map (fun p => encN p.2) = (rts o).map encN := by
    have ez : o.zipIdx = (List.range o.length).map fun i => (gN o i, i) := by
      apply List.ext_getElem?
      intro i
      rw [List.getElem?_zipIdx, List.getElem?_map]
      by_cases hi : i < o.length
      · rw [gN_get hi, List.getElem?_range hi]
        simp
      · rw [List.getElem?_eq_none (by omega), List.getElem?_eq_none (by simpa using hi)]
        rfl
    rw [ez, List.filter_map, List.map_map]
    rfl
  rw [e]
  simp
/-- found as far as it stands -/
def stand (o : List Nat) (s e : List Bool) (i : Nat) : List PyData := (List.range o.length).map fun j => if i ≤ j then encN (cnt o s e j) else .int 0
theorem stand_get {o : List Nat} {s e : List Bool} {i j : Nat} (hj : j < o.length) (hij : i ≤ j) : idxD (.list (stand o s e i)) (.int (j : Int)) = .ok (.fz (encN (cnt o s e j))) := idx_list _ _ _ (by
  rw [atD_nat]
  unfold stand
  rw [List.getElem?_map, List.getElem?_range hj]
  show some (if i ≤ j then encN (cnt o s e j) else .int 0) = _
  rw [if_pos hij])
theorem kids_get {o : List Nat} {i : Nat} (hi : i < o.length) : idxD (.list ((List.range o.length).map fun i => lN (kd o i))) (.int (i : Int)) = .ok (.fz (lN (kd o i))) := idx_list _ _ _ (by rw [atD_nat, List.getElem?_map, List.getElem?_range hi]; rfl)
theorem kd_len (o : List Nat) (i : Nat) : (kd o i).length ≤ o.length := by
  have := List.length_filter_le (fun k => decide (par o k = some i)) (List.range o.length)
  rw [List.length_range] at this
  exact this
theorem bi_any_map {α : Type} (q : α → Bool) (xs : List α) : biD .any [.list (xs.map fun x => .bool (q x))] = .ok (.fz (.bool (xs.any q))) := by
  show (R.of (allB _)).bind _ = _
  rw [allB_map]
  simp [List.any_map]
theorem gt_zero (c : Nat) : cmpD .gt (encN c) (.int 0) = .ok (decide (0 < c)) := by
  show R.ok (decide ((0 : Int) < (c : Int))) = _
  congr 1
  rw [Bool.eq_iff_iff]
  simp
theorem itm_down (n : Nat) (h : n ≤ 1000) : itemsD .rng [.int ((n : Int) - 1), .int (-1), .int (-1)] = .ok ((List.range n).map fun k => encN (n - 1 - k)) := by
  show (if -1000000 ≤ ((n : Int) - 1) ∧ ((n : Int) - 1) ≤ 1000000 ∧ -1000000 ≤ (-1 : Int) ∧ (-1 : Int) ≤ 1000000 then R.ok ((List.range (((n : Int) - 1) - (-1)).toNat).map fun (k : Nat) => PyData.int (((n : Int) - 1) - (k : Int))) else .stuck) = _
  rw [if_pos (by omega)]
  have e : (((n : Int) - 1) - (-1)).toNat = n := by omega
  rw [e]
  congr 1
  refine List.map_congr_left fun k hk => ?_
  have := List.mem_range.mp hk
  show PyData.int _ = PyData.int _
  congr 1
  omega
theorem ne_encB (a b : Bool) : cmpD .ne (encB a) (encB b) = .ok (decide (a ≠ b)) := by cases a <;> cases b <;> rfl
theorem stand_set {o : List Nat} {s e : List Bool} {i : Nat} (hi : i < o.length) : (stand o s e (i + 1)).set i (encN (cnt o s e i)) = stand o s e i := by
  apply List.ext_getElem?
  intro j
  unfold stand
  by_cases hj : i = j
  · subst hj
    rw [List.getElem?_set_self (by simpa using hi), List.getElem?_map, List.getElem?_range hi]
    simp
  · rw [List.getElem?_set_ne hj, List.getElem?_map, List.getElem?_map]
    by_cases h : j < o.length
    · rw [List.getElem?_range h]
      have : (i + 1 ≤ j) = (i ≤ j) := by
        rw [eq_iff_iff]
        omega
      simp only [Option.map_some, this]
    · rw [List.getElem?_eq_none (by simpa using h)]
      rfl
theorem stand_same {o : List Nat} {s e : List Bool} {i : Nat} (h : cnt o s e i = 0) : stand o s e (i + 1) = stand o s e i := by
  unfold stand
  refine List.map_congr_left fun j _ => ?_
  by_cases hj : i = j
  · subst hj
    rw [if_neg (by omega), if_pos (Nat.le_refl _), h]
    rfl
  · have : (i + 1 ≤ j) = (i ≤ j) := by
      rw [eq_iff_iff]
      omega
    simp only [this]
theorem stand_mul {o : List Nat} {s e : List Bool} (h2 : o.length ≤ 16) : arith .mul (.list [.int 0]) (.int (o.length : Int)) = .ok (.fr (stand o s e o.length)) := by
  rw [mulL_one _ _ (by omega)]
  congr 2
  apply List.ext_getElem?
  intro j
  rw [List.getElem?_replicate]
  unfold stand
  rw [List.getElem?_map]
  by_cases hj : j < o.length
  · rw [if_pos hj, List.getElem?_range hj]
    show some (PyData.int 0) = some (if o.length ≤ j then encN (cnt o s e j) else .int 0)
    rw [if_neg (by omega)]
  · rw [if_neg hj, List.getElem?_eq_none (by simpa using hj)]
    rfl
theorem mul_step (n : Nat) (T : PyData) (K : Int) (Z : List PyData) (hK : biD .len [T] = .ok (.fz (.int K))) (W : PyData) (m1 : arith .mul (.list [W]) (.int K) = .ok (.fr Z)) (A B : PyData) : (ev (cl n) pg.gb (.bin .mul (.lst (.cons (.cst W) .nil)) (.bi .len (.cons (.peek 0) .nil)))).v [.val T, .val A, .val B, .un, .un, .un, .un] = .ok (.fr Z, [.val T, .val A, .val B, .un, .un, .un, .un]) := by
  simp [hK, m1]
theorem own_first (n : Nat) (T : PyData) (Z KD : List PyData) (c1 : cl n 6 .non [T] = .ok (.fz (.list KD), [])) (A B : PyData) (ee : E) (hm : (ev (cl n) pg.gb ee).v [.val T, .val A, .val B, .un, .un, .un, .un] = .ok (.fr Z, [.val T, .val A, .val B, .un, .un, .un, .un])) :
    exS (cl n) pg.gb (.asg2 4 5 (.call 6 (.cons (.var 0) .nil)) ee) [.val T, .val A, .val B, .un, .un, .un, .un] = .ok (.next, [.val T, .val A, .val B, .un, .val (.list KD), .own Z, .un]) := by
  simp [c1, hm]
end Q13

set_option linter.all false
set_option Elab.async false
set_option maxRecDepth 100000
set_option maxHeartbeats 4000000
namespace Q13
open MP
open PySem (PyData Str)
theorem moves_item (n : Nat) {o : List Nat} (O : Out o) {s : List Bool} (hl : s.length = o.length) (A B : Slot) (X : Slot) (hX : X = .val (.list [.str "plain"])) (kvs : List (PyData × PyData)) (s6 s7 : Slot) (g6 : soft (some s6) = true) (g7 : soft (some s7) = true) : ∃ s6' s7', soft (some s6') = true ∧ soft (some s7') = true ∧
    forL (exS (cl (n + 4)) pg.gb (.seq (.asg 7 (.call 33 (.cons (.var 0) (.cons (.var 3) (.cons (.tup (.cons (.var 5) (.cons (.var 6) .nil))) .nil)))))
  (.iff (.cmp .isnot (.peek 7) (.cst .none))
  (.app 4 (.tup (.cons (.tup (.cons (.var 5) (.cons (.var 6) .nil))) (.cons (.var 7) .nil))))
  .pass))) (.name 6) ((List.range o.length).map encN) [.val (tN o), X, .mdk true kvs, .val (tS s), .own [], .val (.str "plain"), s6, s7] =
    .ok (.next, [.val (tN o), X, .mdk true kvs, .val (tS s), .own ((rowG o s o.length).map encRw), .val (.str "plain"), s6', s7']) := by
  have ho := O.le
  obtain ⟨e', h1, s6', s7', g6', g7', rfl⟩ := for_inv (body := exS (cl (n + 4)) pg.gb (.seq (.asg 7 (.call 33 (.cons (.var 0) (.cons (.var 3) (.cons (.tup (.cons (.var 5) (.cons (.var 6) .nil))) .nil)))))
  (.iff (.cmp .isnot (.peek 7) (.cst .none))
  (.app 4 (.tup (.cons (.tup (.cons (.var 5) (.cons (.var 6) .nil))) (.cons (.var 7) .nil))))
  .pass))) (tg := .name 6) encN (fun pre e => ∃ s6 s7, soft (some s6) = true ∧ soft (some s7) = true ∧ e = [.val (tN o), X, .mdk true kvs, .val (tS s), .own ((rowG o s pre.length).map encRw), .val (.str "plain"), s6, s7]) (List.range o.length) [] [.val (tN o), X, .mdk true kvs, .val (tS s), .own [], .val (.str "plain"), s6, s7] ⟨s6, s7, g6, g7, rfl⟩ (by
    rintro p i q e' hp ⟨s6, s7, g6, g7, rfl⟩
    rw [List.nil_append] at hp
    obtain ⟨rfl, hi⟩ := split_range hp
    rw [List.length_range, show (List.range i ++ [i]).length = i + 1 by simp, rowG_succ]
    have c1 := law_after_plain n O hl hi
    have c1 : cl (n + 4) 33 .non [tN o, tS s, .tuple [.str "plain", encN i]] = .ok (.fz (encS (stepC o s (false, i))), []) := c1
    have fl : (rowG o s i).length < 100000 := by have := rowG_len o s i; omega
    cases hst : stepC o s (false, i) with
    | none =>
      rw [hst] at c1
      refine ⟨_, _, by simp [g6]; rfl, ?_, .val (encN i), .val .none, rfl, rfl, rfl⟩
      simp [c1, g7, encS]
    | some t =>
      rw [hst] at c1
      refine ⟨_, _, by simp [g6]; rfl, ?_, .val (encN i), .val (tS t), rfl, rfl, rfl⟩
      simp [c1, g7, encS, fl, encRw, encC])
  rw [List.nil_append, List.length_range] at h1
  exact ⟨s6', s7', g6', g7', h1⟩
end Q13

set_option linter.all false
set_option Elab.async false
set_option maxRecDepth 100000
set_option maxHeartbeats 4000000
namespace Q13
open MP
open PySem (PyData Str)
/-- the moves of all states -/
def mvG (o : List Nat) (ss : List (List Bool)) : GD := ss.map fun s => (s, .list ((rowG o s o.length).map encRw))
theorem look_mv (o : List Nat) (s : List Bool) : ∀ ss : List (List Bool), lookG (mvG o ss) s = if s ∈ ss then some (.list ((rowG o s o.length).map encRw)) else none
  | [] => rfl
  | a :: ss => by
    show (if a = s then some _ else lookG (mvG o ss) s) = _
    rw [look_mv o s ss]
    by_cases h : a = s
    · subst h
      simp
    · have : ¬ s = a := fun z => h z.symm
      simp [h, this]
theorem mvG_keys (o : List Nat) (ss : List (List Bool)) : (mvG o ss).map (·.1) = ss := by
  unfold mvG
  rw [List.map_map]
  exact List.map_id _
theorem mvG_len (o : List Nat) (ss : List (List Bool)) : (mvG o ss).length = ss.length := by simp [mvG]
theorem set_encG (kvs : GD) (l : List Bool) (v : PyData) (i : Nat) (e : MP.Env) (h : e[i]? = some (.mdk true (kvs.map encG))) (hk : kvs.length < 100000) : setIxD i (.fz (tS l)) (.fz v) e = .ok (e.set i (.mdk true ((putG kvs l v).map encG))) := by
  unfold setIxD
  rw [h]
  simp only [frz_fz]
  rw [if_pos ⟨put_tS l, by rw [List.length_map]; exact hk⟩, dputG]
theorem st256 {o : List Nat} (h8 : o.length ≤ 8) : (stG o o.length).length ≤ 256 := by
  have hsz := stG_size (o := o) o.length
  have h8 : 2 ^ o.length ≤ 2 ^ 8 := Nat.pow_le_pow_right (by decide) (by omega)
  have h256 : (2 : Nat) ^ 8 = 256 := by decide
  omega
theorem law_moves_ok (n : Nat) {o : List Nat} (O : Out o) (h8 : o.length ≤ 8) : cl (n + 5) 36 .non [tN o, .list [.str "plain"]] = .ok (.fd true ((mvG o (stG o o.length)).map encG), []) := by
  rw [r__law_moves, runF_plain _ _ rfl rfl (by decide)]
  have hsz := st256 (o := o) h8
  have ho := O.le
  have eS := law_all_states_ok (n + 2) O h8
  have f3 : (stG o o.length).length ≤ 100000 := by omega
  have body : ∃ rest, exS (cl (n + 4)) pg.gb b__law_moves.body [.val (tN o), .val (.list [.str "plain"]), .un, .un, .un, .un, .un, .un] = .ok (.ret (.fd true ((mvG o (stG o o.length)).map encG)), rest) := by
    unfold b__law_moves
    dsimp only
    generalize hX : Slot.val (.list [.str "plain"]) = X
    obtain ⟨e', h1, s3, s4, s5, s6, s7, g3, g4, g5, g6, g7, rfl⟩ := for_inv (body := exS (cl (n + 4)) pg.gb (.seq (.asg 4 (.lst .nil))
  (.seq (.for_ (.name 5) .seq (.var 1)
  (.for_ (.name 6) .rng (.cons (.bi .len (.cons (.peek 0) .nil)) .nil)
  (.seq (.asg 7 (.call 33 (.cons (.var 0) (.cons (.var 3) (.cons (.tup (.cons (.var 5) (.cons (.var 6) .nil))) .nil)))))
  (.iff (.cmp .isnot (.peek 7) (.cst .none))
  (.app 4 (.tup (.cons (.tup (.cons (.var 5) (.cons (.var 6) .nil))) (.cons (.var 7) .nil))))
  .pass))))
  (.setIx 2 (.peek 3) (.var 4))))) (tg := .name 3) tS (fun pre e => ∃ s3 s4 s5 s6 s7, soft (some s3) = true ∧ soft (some s4) = true ∧ soft (some s5) = true ∧ soft (some s6) = true ∧ soft (some s7) = true ∧ e = [.val (tN o), X, .mdk true ((mvG o pre).map encG), s3, s4, s5, s6, s7]) (stG o o.length) [] [.val (tN o), X, .mdk true [], .un, .un, .un, .un, .un] ⟨.un, .un, .un, .un, .un, rfl, rfl, rfl, rfl, rfl, rfl⟩ (by
      rintro p s q e hp ⟨s3, s4, s5, s6, s7, g3, g4, g5, g6, g7, rfl⟩
      rw [List.nil_append] at hp
      have hs : s.length = o.length := stG_len o.length s (by rw [hp]; simp)
      have hnew : s ∉ p := by
        have nd := stG_nodup (o := o) o.length
        rw [hp] at nd
        intro hm
        exact (List.nodup_append.mp nd).2.2 s hm s (by simp) rfl
      have hlp : (mvG o p).length < 100000 := by
        rw [mvG_len]
        have := congrArg List.length hp
        simp at this
        omega
      have eP : putG (mvG o p) s (.list ((rowG o s o.length).map encRw)) = mvG o (p ++ [s]) := by
        rw [putG_new _ _ _ (by rw [look_mv, if_neg hnew])]
        unfold mvG
        rw [List.map_append]
        rfl
      obtain ⟨s6', s7', g6', g7', e1⟩ := moves_item n O hs .un .un X hX.symm ((mvG o p).map encG) s6 s7 g6 g7
      refine ⟨_, _, by simp [g3]; rfl, ?_, .val (tS s), .val (.list ((rowG o s o.length).map encRw)), .val (.str "plain"), s6', s7', rfl, rfl, rfl, g6', g7', rfl⟩
      rw [seq_step (e1 := [.val (tN o), X, .mdk true ((mvG o p).map encG), .val (tS s), .own [], s5, s6, s7]) (by simp [g4])]
      have mid : forL (exS (cl (n + 4)) pg.gb (.for_ (.name 6) .rng (.cons (.bi .len (.cons (.peek 0) .nil)) .nil)
  (.seq (.asg 7 (.call 33 (.cons (.var 0) (.cons (.var 3) (.cons (.tup (.cons (.var 5) (.cons (.var 6) .nil))) .nil)))))
  (.iff (.cmp .isnot (.peek 7) (.cst .none))
  (.app 4 (.tup (.cons (.tup (.cons (.var 5) (.cons (.var 6) .nil))) (.cons (.var 7) .nil))))
  .pass)))) (.name 5) [.str "plain"] [.val (tN o), X, .mdk true ((mvG o p).map encG), .val (tS s), .own [], s5, s6, s7] = .ok (.next, [.val (tN o), X, .mdk true ((mvG o p).map encG), .val (tS s), .own ((rowG o s o.length).map encRw), .val (.str "plain"), s6', s7']) := by
        simp [forL, g5, itm_rng (j := o.length) (by omega), e1, show o.length ≤ 100000 by omega]
      rw [seq_step (for_seq (v := .fz (.list [.str "plain"])) (by rw [← hX]; simp) rfl (by simp) mid)]
      have hs2 := set_encG (mvG o p) s (.list ((rowG o s o.length).map encRw)) 2 [.val (tN o), X, .mdk true ((mvG o p).map encG), .val (tS s), .val (.list ((rowG o s o.length).map encRw)), .val (.str "plain"), s6', s7'] rfl hlp
      rw [eP] at hs2
      simp [hs2])
    rw [seq_step (e1 := [.val (tN o), X, .mdk true [], .un, .un, .un, .un, .un]) (by simp)]
    rw [seq_step (for_seq (v := .fz (.list ((stG o o.length).map tS))) (by simp [eS]) rfl (by rw [List.length_map]; exact f3) h1)]
    exact ⟨[.val (tN o), X, .un, s3, s4, s5, s6, s7], by simp⟩
  obtain ⟨rest, hb⟩ := body
  have hb' : exS (cl (n + 4)) pg.gb b__law_moves.body ([tN o, PyData.list [.str "plain"]].map Slot.val ++ List.replicate (b__law_moves.slots - b__law_moves.np) .un) = _ := hb
  rw [hb']
  rfl
end Q13

set_option linter.all false
set_option Elab.async false
set_option maxRecDepth 100000
set_option maxHeartbeats 4000000
namespace Q13
open MP
open PySem (PyData Str)
theorem notinG (kvs : GD) (l : List Bool) : cmpD .notin (tS l) (mkD true (kvs.map encG)) = .ok (!(lookG kvs l).isSome) := by
  show (if askOk true (tS l) then R.ok (!(dlook (kvs.map encG) (tS l)).isSome) else .stuck) = _
  rw [ask_tS, dlookG]
  rfl
theorem idxG (kvs : GD) (l : List Bool) (v : PyData) (h : lookG kvs l = some v) : idxD (mkD true (kvs.map encG)) (tS l) = .ok (.fz v) := by
  show (if askOk true (tS l) then (match dlook (kvs.map encG) (tS l) with
    | some v => R.ok (Val.fz v)
    | none => .stuck) else .stuck) = _
  rw [ask_tS, dlookG, h]
  rfl
theorem ne_nil_tS (ss : List (List Bool)) : cmpD .ne (.list (ss.map tS)) (.list []) = .ok (!ss.isEmpty) := by
  show (if (eqOkAll 39 (ss.map tS) && eqOkAll 39 []) then R.ok (!eqDs (ss.map tS) []) else .stuck) = _
  have h : ∀ ss : List (List Bool), eqOkAll 39 (ss.map tS) = true := by
    intro ss
    induction ss with
    | nil => rfl
    | cons s ss ih =>
      rw [List.map_cons]
      show (eqOk 39 (tS s) && eqOkAll 39 (ss.map tS)) = true
      rw [ih, Bool.and_true]
      show eqOkAll 38 (s.map encB) = true
      induction s with
      | nil => rfl
      | cons b s ih2 =>
        rw [List.map_cons]
        show (eqOk 38 (encB b) && eqOkAll 38 (s.map encB)) = true
        rw [ih2, Bool.and_true]
        cases b <;> rfl
  rw [h]
  cases ss <;> rfl
/-- one state of a level -/
theorem dist_row (n : Nat) {o : List Nat} (O : Out o) (h8 : o.length ≤ 8) {st s : List Bool} {d : Nat} (M S3 : Slot) (G : Good o s) (hc : cost o st s = d) {found : GD} {later : List (List Bool)} (I : LvI o st d found later) (s6 s7 : Slot) (g6 : soft (some s6) = true) (g7 : soft (some s7) = true) :
   ∃ found' later' s6' s7', soft (some s6') = true ∧ soft (some s7') = true ∧ LvI o st d found' later' ∧ (∀ x, x ∈ later → x ∈ later') ∧ (∀ i t, stepC o s (false, i) = some t → cost o st t ≤ d ∨ t ∈ later') ∧
   forL (exS (cl n) pg.gb (.iff (.cmp .notin (.peek 7) (.peek 2))
  (.seq (.setIx 2 (.peek 7) (.bin .add (.idx (.peek 2) (.peek 5)) (.cst (.int 1))))
  (.app 4 (.var 7)))
  .pass)) (.tup [6, 7]) ((rowG o s o.length).map encRw) [M, .val (tS st), .mdk true (found.map encG), S3, .own (later.map tS), .val (tS s), s6, s7] = .ok (.next, [M, .val (tS st), .mdk true (found'.map encG), S3, .own (later'.map tS), .val (tS s), s6', s7']) := by
  have h256 := st256 (o := o) h8
  obtain ⟨e', h1, found', later', s6', s7', g6', g7', I', hsub, hall, rfl⟩ := for_inv (body := exS (cl n) pg.gb (.iff (.cmp .notin (.peek 7) (.peek 2))
  (.seq (.setIx 2 (.peek 7) (.bin .add (.idx (.peek 2) (.peek 5)) (.cst (.int 1))))
  (.app 4 (.var 7)))
  .pass)) (tg := .tup [6, 7]) encRw (fun pre e => ∃ found' later' s6' s7', soft (some s6') = true ∧ soft (some s7') = true ∧ LvI o st d found' later' ∧ (∀ x, x ∈ later → x ∈ later') ∧ (∀ p, p ∈ pre → cost o st p.2 ≤ d ∨ p.2 ∈ later') ∧ e = [M, .val (tS st), .mdk true (found'.map encG), S3, .own (later'.map tS), .val (tS s), s6', s7']) (rowG o s o.length) [] [M, .val (tS st), .mdk true (found.map encG), S3, .own (later.map tS), .val (tS s), s6, s7] ⟨found, later, s6, s7, g6, g7, I, fun x h => h, fun p h => by simp at h, rfl⟩ (by
    rintro p ⟨i, t⟩ q e hp ⟨found, later, s6, s7, g6, g7, I, hsub, hall, rfl⟩
    rw [List.nil_append] at hp
    have hm : (i, t) ∈ rowG o s o.length := by rw [hp]; simp
    obtain ⟨hi, hs⟩ := mem_rowG.mp hm
    have Gt := stepC_good G hs
    have e1 := notinG found t
    have e2 := idxG found s (encN d) (by rw [I.look s G, if_pos (.inl (by omega)), hc])
    have hlen := I.size
    have hl2 := I.len
    have f1 : later.length < 100000 := by omega
    have f2 : found.length < 100000 := by omega
    cases hlk : lookG found t with
    | some v =>
      rw [hlk] at e1
      have hseen := I.seen Gt (by rw [hlk]; simp)
      refine ⟨_, _, by simp [encRw, g6, g7]; rfl, ?_, found, later, .val (encC (false, i)), .val (tS t), rfl, rfl, I, hsub, fun p hp => ?_, rfl⟩
      · simp [e1]
      · simp at hp
        rcases hp with hp | rfl
        · exact hall p hp
        · exact hseen
    | none =>
      rw [hlk] at e1
      have hs2 := fun (e : MP.Env) h => set_encG found t (encN (d + 1)) 2 e h f2
      have hs3 := hs2 [M, .val (tS st), .mdk true (found.map encG), S3, .own (later.map tS), .val (tS s), .val (encC (false, i)), .val (tS t)] rfl
      have ed : encN (d + 1) = .int ((d : Int) + 1) := rfl
      rw [ed] at hs3
      refine ⟨_, _, by simp [encRw, g6, g7]; rfl, ?_, putG found t (encN (d + 1)), later ++ [t], .val (encC (false, i)), .val (tS t), rfl, rfl, I.put G hc hs hlk, fun x hx => by simp [hsub x hx], fun p hp => ?_, rfl⟩
      · rw [ed]
        simp [e1, e2, hs3, f1]
      · simp at hp
        rcases hp with hp | rfl
        · exact (hall p hp).imp id fun z => by simp [z]
        · exact .inr (by simp))
  refine ⟨found', later', s6', s7', g6', g7', I', hsub, fun i t hs => ?_, h1⟩
  have hb := (stepP hs).1
  have hi : i < o.length := (mem_shown.mp (stepP hs).2.1).1
  exact hall (i, t) (by simpa using mem_rowG.mpr ⟨hi, hs⟩)
theorem dist_level (n : Nat) {o : List Nat} (O : Out o) (h8 : o.length ≤ 8) {st : List Bool} (Gst : Good o st) {d : Nat} (S3 : Slot) {found : GD} (I : LvI o st d found []) (level : List (List Bool)) (hl : ∀ x, x ∈ level ↔ Good o x ∧ cost o st x = d) (s5 s6 s7 : Slot) (g5 : soft (some s5) = true) (g6 : soft (some s6) = true) (g7 : soft (some s7) = true) :
   ∃ (found' : GD) (later' : List (List Bool)) (s5' s6' s7' : Slot), soft (some s5') = true ∧ soft (some s6') = true ∧ soft (some s7') = true ∧ LvI o st (d + 1) found' [] ∧ (∀ x, x ∈ later' ↔ Good o x ∧ cost o st x = d + 1) ∧ later'.length ≤ 256 ∧
   forL (exS (cl n) pg.gb (.for_ (.tup [6, 7]) .seq (.idx (.peek 0) (.peek 5))
  (.iff (.cmp .notin (.peek 7) (.peek 2))
  (.seq (.setIx 2 (.peek 7) (.bin .add (.idx (.peek 2) (.peek 5)) (.cst (.int 1))))
  (.app 4 (.var 7)))
  .pass))) (.name 5) (level.map tS) [.val (mkD true ((mvG o (stG o o.length)).map encG)), .val (tS st), .mdk true (found.map encG), S3, .own [], s5, s6, s7] = .ok (.next, [.val (mkD true ((mvG o (stG o o.length)).map encG)), .val (tS st), .mdk true (found'.map encG), S3, .own (later'.map tS), s5', s6', s7']) := by
  have h256 := st256 (o := o) h8
  have hix : ∀ s, Good o s → idxD (mkD true ((mvG o (stG o o.length)).map encG)) (tS s) = .ok (.fz (.list ((rowG o s o.length).map encRw))) := fun s G => idxG _ s _ (by rw [look_mv, if_pos (stG_good.mpr G)])
  have hO := O.le
  generalize hM : Slot.val (mkD true ((mvG o (stG o o.length)).map encG)) = M
  obtain ⟨e', h1, found', later', s5', s6', s7', g5', g6', g7', I', hall, rfl⟩ := for_inv (body := exS (cl n) pg.gb (.for_ (.tup [6, 7]) .seq (.idx (.peek 0) (.peek 5))
  (.iff (.cmp .notin (.peek 7) (.peek 2))
  (.seq (.setIx 2 (.peek 7) (.bin .add (.idx (.peek 2) (.peek 5)) (.cst (.int 1))))
  (.app 4 (.var 7)))
  .pass))) (tg := .name 5) tS (fun pre e => ∃ (found' : GD) (later' : List (List Bool)) (s5' s6' s7' : Slot), soft (some s5') = true ∧ soft (some s6') = true ∧ soft (some s7') = true ∧ LvI o st d found' later' ∧ (∀ s, s ∈ pre → ∀ i t, stepC o s (false, i) = some t → cost o st t ≤ d ∨ t ∈ later') ∧ e = [M, .val (tS st), .mdk true (found'.map encG), S3, .own (later'.map tS), s5', s6', s7']) level [] [M, .val (tS st), .mdk true (found.map encG), S3, .own [], s5, s6, s7] ⟨found, [], s5, s6, s7, g5, g6, g7, I, fun s h => by simp at h, rfl⟩ (by
    rintro p s q e hp ⟨found, later, s5, s6, s7, g5, g6, g7, I, hall, rfl⟩
    rw [List.nil_append] at hp
    obtain ⟨G, hc⟩ := (hl s).mp (by rw [hp]; simp)
    obtain ⟨found', later', s6', s7', g6', g7', I', hsub, hrow, e1⟩ := dist_row n O h8 M S3 G hc I s6 s7 g6 g7
    have e2 := hix s G
    have f1 : (rowG o s o.length).length ≤ 100000 := by have := rowG_len o s o.length; omega
    refine ⟨_, _, by simp [g5]; rfl, ?_, found', later', .val (tS s), s6', s7', rfl, g6', g7', I', fun s' hs' i t ht => ?_, rfl⟩
    · subst hM
      simp [e2, f1, e1]
    · simp at hs'
      rcases hs' with hs' | rfl
      · exact (hall s' hs' i t ht).imp id (hsub t)
      · exact hrow i t ht)
  obtain ⟨I2, h2⟩ := I'.next O Gst fun s G hc i t ht => hall s (by simpa using (hl s).mpr ⟨G, hc⟩) i t ht
  have hz := I'.size
  have hz2 := I'.len
  exact ⟨found', later', s5', s6', s7', g5', g6', g7', I2, h2, by omega, h1⟩
theorem law_distances_ok (n : Nat) {o : List Nat} (O : Out o) (h8 : o.length ≤ 8) {st : List Bool} (Gst : Good o st) : ∃ far : GD, FarI o st far ∧ cl (n + 1) 37 .non [mkD true ((mvG o (stG o o.length)).map encG), tS st] = .ok (.fd true (far.map encG), []) := by
  rw [r__law_distances, runF_plain _ _ rfl rfl (by decide)]
  have h256 := st256 (o := o) h8
  have key : ∀ (k m d : Nat) (found : GD) (level : List (List Bool)) (S3 s4 s5 s6 s7 : Slot), 17 ≤ d + k → k < m → LvI o st d found [] → (∀ x, x ∈ level ↔ Good o x ∧ cost o st x = d) → level.length ≤ 256 → (S3 = .own (level.map tS) ∨ S3 = .val (.list (level.map tS))) → soft (some s4) = true → soft (some s5) = true → soft (some s6) = true → soft (some s7) = true →
      ∃ far r3 r4 r5 r6 r7, FarI o st far ∧ whileL (ev (cl n) pg.gb (.cmp .ne (.peek 3) (.lst .nil))).t (exS (cl n) pg.gb (.seq (.asg 4 (.lst .nil))
  (.seq (.for_ (.name 5) .seq (.var 3)
  (.for_ (.tup [6, 7]) .seq (.idx (.peek 0) (.peek 5))
  (.iff (.cmp .notin (.peek 7) (.peek 2))
  (.seq (.setIx 2 (.peek 7) (.bin .add (.idx (.peek 2) (.peek 5)) (.cst (.int 1))))
  (.app 4 (.var 7)))
  .pass)))
  (.asg 3 (.var 4))))) m [.val (mkD true ((mvG o (stG o o.length)).map encG)), .val (tS st), .mdk true (found.map encG), S3, s4, s5, s6, s7] = .ok (.next, [.val (mkD true ((mvG o (stG o o.length)).map encG)), .val (tS st), .mdk true (far.map encG), r3, r4, r5, r6, r7]) := by
    intro k
    induction k with
    | zero =>
      intro m d found level S3 s4 s5 s6 s7 hd hm I hl hll hS g4 g5 g6 g7
      obtain ⟨m, rfl⟩ : ∃ j, m = j + 1 := ⟨m - 1, by omega⟩
      have hnil : level = [] := by
        cases level with
        | nil => rfl
        | cons x level =>
          have h1 := (hl x).mp (by simp)
          have h2 := cost_le o st x
          omega
      subst hnil
      refine ⟨found, S3, s4, s5, s6, s7, I.far O Gst fun x Gx hx => by simpa using (hl x).mpr ⟨Gx, hx⟩, ?_⟩
      unfold whileL
      have hne := ne_nil_tS []
      simp at hne
      rcases hS with rfl | rfl <;> simp [hne]
    | succ k ih =>
      intro m d found level S3 s4 s5 s6 s7 hd hm I hl hll hS g4 g5 g6 g7
      obtain ⟨m, rfl⟩ : ∃ j, m = j + 1 := ⟨m - 1, by omega⟩
      by_cases hnil : level = []
      · subst hnil
        refine ⟨found, S3, s4, s5, s6, s7, I.far O Gst fun x Gx hx => by simpa using (hl x).mpr ⟨Gx, hx⟩, ?_⟩
        unfold whileL
        have hne := ne_nil_tS []
        simp at hne
        rcases hS with rfl | rfl <;> simp [hne]
      · obtain ⟨found', later', s5', s6', s7', g5', g6', g7', I', hl', hll', e1⟩ := dist_level n O h8 Gst (.val (.list (level.map tS))) I level hl s5 s6 s7 g5 g6 g7
        obtain ⟨far, r3, r4, r5, r6, r7, F, e2⟩ := ih m (d + 1) found' later' (.val (.list (later'.map tS))) (.val (.list (later'.map tS))) s5' s6' s7' (by omega) (by omega) I' hl' hll' (.inr rfl) rfl g5' g6' g7'
        refine ⟨far, r3, r4, r5, r6, r7, F, ?_⟩
        have hne := ne_nil_tS level
        have hem : level.isEmpty = false := by
          cases level with
          | nil => exact absurd rfl hnil
          | cons => rfl
        rw [hem] at hne
        have f1 : level.length ≤ 100000 := by omega
        generalize hM : Slot.val (mkD true ((mvG o (stG o o.length)).map encG)) = M at *
        have hb : exS (cl n) pg.gb (.seq (.asg 4 (.lst .nil))
  (.seq (.for_ (.name 5) .seq (.var 3)
  (.for_ (.tup [6, 7]) .seq (.idx (.peek 0) (.peek 5))
  (.iff (.cmp .notin (.peek 7) (.peek 2))
  (.seq (.setIx 2 (.peek 7) (.bin .add (.idx (.peek 2) (.peek 5)) (.cst (.int 1))))
  (.app 4 (.var 7)))
  .pass)))
  (.asg 3 (.var 4)))) [M, .val (tS st), .mdk true (found.map encG), S3, s4, s5, s6, s7] = .ok (.next, [M, .val (tS st), .mdk true (found'.map encG), .val (.list (later'.map tS)), .val (.list (later'.map tS)), s5', s6', s7']) := by
          rw [seq_step (e1 := [M, .val (tS st), .mdk true (found.map encG), S3, .own [], s5, s6, s7]) (by simp [g4])]
          rw [seq_step (for_seq (v := .fz (.list (level.map tS))) (e1 := [M, .val (tS st), .mdk true (found.map encG), .val (.list (level.map tS)), .own [], s5, s6, s7]) (by rcases hS with rfl | rfl <;> simp) rfl (by rw [List.length_map]; exact f1) e1)]
          simp
        unfold whileL
        have hc : (ev (cl n) pg.gb (.cmp .ne (.peek 3) (.lst .nil))).t [M, .val (tS st), .mdk true (found.map encG), S3, s4, s5, s6, s7] = .ok (true, [M, .val (tS st), .mdk true (found.map encG), S3, s4, s5, s6, s7]) := by
          rcases hS with rfl | rfl <;> simp [hne]
        rw [hc, R.bind_ok]
        show ((exS (cl n) pg.gb _ _).bind _) = _
        rw [hb, R.bind_ok]
        exact e2
  obtain ⟨far, r3, r4, r5, r6, r7, F, e1⟩ := key 17 wcap 0 [(st, .int 0)] [st] (.own [tS st]) .un .un .un .un (by omega) (by decide) (LvI.start Gst) (fun x => by
    rw [List.mem_singleton]
    constructor
    · rintro rfl
      exact ⟨Gst, (cost_zero Gst.len Gst.len).mpr rfl⟩
    · rintro ⟨Gx, h⟩
      exact ((cost_zero Gst.len Gx.len).mp h).symm) (by simp) (.inl rfl) rfl rfl rfl rfl
  refine ⟨far, F, ?_⟩
  have hp := put_tS st
  have body : ∃ rest, exS (cl n) pg.gb b__law_distances.body [.val (mkD true ((mvG o (stG o o.length)).map encG)), .val (tS st), .un, .un, .un, .un, .un, .un] = .ok (.ret (.fd true (far.map encG)), rest) := by
    unfold b__law_distances
    dsimp only
    generalize hM : Slot.val (mkD true ((mvG o (stG o o.length)).map encG)) = M at *
    rw [seq_step (e1 := [M, .val (tS st), .mdk true [(tS st, .int 0)], .own [tS st], .un, .un, .un, .un]) (by simp [hp])]
    rw [seq_step (e1 := [M, .val (tS st), .mdk true (far.map encG), r3, r4, r5, r6, r7]) (by rw [exS_while]; exact e1)]
    exact ⟨[M, .val (tS st), .un, r3, r4, r5, r6, r7], by simp⟩
  obtain ⟨rest, hb⟩ := body
  have hb' : exS (cl n) pg.gb b__law_distances.body ([mkD true ((mvG o (stG o o.length)).map encG), tS st].map Slot.val ++ List.replicate (b__law_distances.slots - b__law_distances.np) .un) = _ := hb
  rw [hb']
  rfl
end Q13

set_option linter.all false
set_option Elab.async false
set_option maxRecDepth 100000
set_option maxHeartbeats 4000000
namespace Q13
open MP
open PySem (PyData Str)
theorem ins_own (i : Nat) (d : PyData) (xs : List PyData) (e : MP.Env) (h : e[i]? = some (.own xs)) (hl : xs.length < 100000) : insD i (.fz (.int 0)) (.fz d) e = .ok (e.set i (.own (d :: xs))) := by
  unfold insD
  rw [h]
  simp only [frz_fz]
  rw [if_pos ⟨hl, by decide, by decide⟩]
  rfl
theorem exS_ins (c : Cl) (gb : Nat → Option PyData) (i : Nat) (a b : E) (env : MP.Env) : exS c gb (.ins i a b) env = (evOwn i (ev c gb a).v env).bind fun p => ((ev c gb b).v p.2).bind fun q => (insD i p.1 q.1 q.2).bind fun e1 => .ok (.next, e1) := rfl
theorem pars_get {o : List Nat} {i : Nat} (hi : i < o.length) : idxD (.list ((List.range o.length).map fun i => encO (par o i))) (.int (i : Int)) = .ok (.fz (encO (par o i))) := idx_opt (f := fun i => encO (par o i)) (List.getElem?_range hi)
theorem ancestors_ok (n : Nat) {o : List Nat} (O : Out o) {i : Nat} (hi : i < o.length) : cl (n + 2) 8 .non [tN o, encN i] = .ok (.fr ((abv o i).reverse.map encN), []) := by
  have h2 := O.le
  rw [r_ancestors, runF_plain _ _ rfl rfl (by decide)]
  have e1 := parents_of_ok n O
  have key : ∀ (m j : Nat) (f : List Nat), j < o.length → j < m → f.length + m ≤ 1000 → ∃ j' : Nat, whileL (ev (cl (n + 1)) pg.gb (.cmp .isnot (.idx (.peek 3) (.peek 1)) (.cst .none))).t (exS (cl (n + 1)) pg.gb (.seq (.asg 1 (.idx (.peek 3) (.peek 1))) (.ins 2 (.cst (.int 0)) (.var 1)))) m [.val (tN o), .val (encN j), .own (f.map encN), .own ((List.range o.length).map fun i => encO (par o i))] = .ok (.next, [.val (tN o), .val (encN j'), .own (((abv o j).reverse ++ f).map encN), .own ((List.range o.length).map fun i => encO (par o i))]) := by
    intro m
    induction m with
    | zero => intro j f _ h; omega
    | succ m ih =>
      intro j f hj hm hf
      have g := pars_get (o := o) hj
      cases hp : par o j with
      | none =>
        rw [hp] at g
        refine ⟨j, ?_⟩
        rw [abv_none hp]
        generalize (List.range o.length).map (fun i => encO (par o i)) = Z at *
        rw [while_stop (e1 := [.val (tN o), .val (encN j), .own (f.map encN), .own Z]) (by simp [g])]
        rfl
      | some p =>
        rw [hp] at g
        have hpj := (par_lt hp).1
        obtain ⟨j', e⟩ := ih p (p :: f) (by omega) (by omega) (by simp; omega)
        refine ⟨j', ?_⟩
        generalize (List.range o.length).map (fun i => encO (par o i)) = Z at *
        have hin := ins_own 2 (encN p) (f.map encN) [.val (tN o), .val (encN p), .own (f.map encN), .own Z] rfl (by simp; omega)
        rw [while_step (e1 := [.val (tN o), .val (encN j), .own (f.map encN), .own Z]) (e2 := [.val (tN o), .val (encN p), .own ((p :: f).map encN), .own Z]) (by simp [g]) (by
          rw [seq_step (e1 := [.val (tN o), .val (encN p), .own (f.map encN), .own Z]) (by simp [g, encO])]
          rw [exS_ins]
          simp [hin]), e, abv_some hp, List.reverse_cons, List.append_assoc]
        rfl
  obtain ⟨j', e⟩ := key wcap i [] hi (by unfold wcap; omega) (by simp [wcap])
  have body : exS (cl (n + 1)) pg.gb b_ancestors.body [.val (tN o), .val (encN i), .un, .un] = .ok (.ret (.fr ((abv o i).reverse.map encN)), [.val (tN o), .val (encN j'), .un, .own ((List.range o.length).map fun i => encO (par o i))]) := by
    unfold b_ancestors
    dsimp only
    rw [List.append_nil] at e
    generalize (List.range o.length).map (fun i => encO (par o i)) = Z at *
    rw [seq_step (e1 := [.val (tN o), .val (encN i), .own [], .own Z]) (by simp [e1])]
    rw [seq_step (e1 := [.val (tN o), .val (encN j'), .own ((abv o i).reverse.map encN), .own Z]) (by rw [exS_while]; exact e)]
    simp
  have hb' : exS (cl (n + 1)) pg.gb b_ancestors.body (([tN o, encN i] : List PyData).map Slot.val ++ List.replicate (b_ancestors.slots - b_ancestors.np) .un) = _ := body
  rw [hb']
  rfl
def onS (o scr : List Nat) (i : Nat) : PyData := if i ∈ brs o then (if i ∈ scr then encB (decide (i + 1 ∈ scr)) else .none) else .int 0
theorem differences_ok (n : Nat) {o : List Nat} (O : Out o) {s : List Bool} (Gs : Good o s) (scr : List Nat) : cl (n + 3) 15 .non [tN o, tS s, tN scr] = .ok (.fr ((dscr o s scr).map encN), []) := by
  rw [r_differences, runF_plain _ _ rfl rfl (by decide)]
  have h2 := O.le
  have hl := Gs.len
  have e1 : cl (n + 2) 12 .non [tN o, tN scr] = .ok (.fr ((List.range o.length).map (onS o scr)), []) := state_on_ok n O scr
  have g1 : ∀ i, i < o.length → idxD (.list ((List.range o.length).map (onS o scr))) (.int (i : Int)) = .ok (.fz (onS o scr i)) := fun i hi => idx_opt (f := onS o scr) (List.getElem?_range hi)
  have g2 : ∀ i, i < o.length → idxD (tS s) (.int (i : Int)) = .ok (.fz (encB (sB s i))) := fun i hi => idx_tS (by omega)
  have f1 : o.length ≤ 100000 := by omega
  have hoff : ∀ i, i ∉ brs o → sB s i = false := fun i hb => by
    cases q : sB s i with
    | false => rfl
    | true => exact absurd (Gs.br i q) hb
  unfold b_differences
  dsimp only
  have body : exS (cl (n + 2)) pg.gb (.seq (.asg 3 (.call 12 (.cons (.var 0) (.cons (.var 2) .nil))))
  (.ret (.comp [4] (.name 4) .rng (.cons (.bi .len (.cons (.peek 0) .nil)) .nil) (.and (.cmp .isnot (.idx (.peek 3) (.peek 4)) (.cst .none)) (.cmp .ne (.idx (.peek 3) (.peek 4)) (.idx (.peek 1) (.peek 4)))) (.var 4)))) [.val (tN o), .val (tS s), .val (tN scr), .un, .un] = .ok (.ret (.fr ((dscr o s scr).map encN)), [.val (tN o), .val (tS s), .val (tN scr), .own ((List.range o.length).map (onS o scr)), .un]) := by
    generalize hZ : (List.range o.length).map (onS o scr) = Z at *
    rw [seq_step (e1 := [.val (tN o), .val (tS s), .val (tN scr), .own Z, .un]) (by simp [e1])]
    simp [itm_rng (j := o.length) (by omega), f1]
    rw [comp_map encN (fun k => decide (k ∈ brs o) && decide (k ∈ scr) && !(sB s k == decide (k + 1 ∈ scr))) encN _ (fun i hi => ⟨_, rfl, by
      have hi := List.mem_range.mp hi
      have a1 := g1 i hi
      have a2 := g2 i hi
      unfold onS at a1
      by_cases m2 : i ∈ brs o
      · by_cases m1 : i ∈ scr
        · rw [if_pos m2, if_pos m1] at a1
          have nb := ne_encB (decide (i + 1 ∈ scr)) (sB s i)
          have isn : isNone (encB (decide (i + 1 ∈ scr))) = false := by cases decide (i + 1 ∈ scr) <;> rfl
          generalize decide (i + 1 ∈ scr) = b at *
          generalize sB s i = b2 at *
          simp [tAndE_eq, a1, a2, isn, nb, m1, m2]
          cases b <;> cases b2 <;> rfl
        · rw [if_pos m2, if_neg m1] at a1
          have isn : isNone PyData.none = true := rfl
          simp [tAndE_eq, a1, a2, isn, m1, m2]
      · rw [if_neg m2] at a1
        have isn : isNone (PyData.int 0) = false := rfl
        have nb : cmpD .ne (.int 0) (encB false) = .ok false := rfl
        rw [hoff i m2] at a2
        simp [tAndE_eq, a1, a2, isn, m2, nb], fun _ => ⟨.fz (encN i), by simp, rfl⟩, rfl⟩)]
    rfl
  have hb' : exS (cl (n + 2)) pg.gb (.seq (.asg 3 (.call 12 (.cons (.var 0) (.cons (.var 2) .nil))))
  (.ret (.comp [4] (.name 4) .rng (.cons (.bi .len (.cons (.peek 0) .nil)) .nil) (.and (.cmp .isnot (.idx (.peek 3) (.peek 4)) (.cst .none)) (.cmp .ne (.idx (.peek 3) (.peek 4)) (.idx (.peek 1) (.peek 4)))) (.var 4)))) (([tN o, tS s, tN scr] : List PyData).map Slot.val ++ List.replicate (5 - 3) .un) = _ := body
  rw [hb']
  rfl
theorem fewest_to_screen_ok (n : Nat) {o : List Nat} (O : Out o) {s x : List Bool} (Gs : Good o s) : cl (n + 5) 16 .non [tN o, tS s, tN (shown o x)] = .ok (.fz (encN (dscr o s (shown o x)).length), []) := by
  rw [r_fewest_to_screen, runF_plain _ _ rfl rfl (by decide)]
  have e := differences_ok (n + 1) O Gs (shown o x)
  simp [b_fewest_to_screen, require_outline_ok (n + 1) O, require_state_ok (n + 1) O Gs, require_screen_ok n O (s := x), e]
end Q13

set_option linter.all false
set_option Elab.async false
set_option maxRecDepth 100000
set_option maxHeartbeats 4000000
namespace Q13
open MP
open PySem (PyData Str)
theorem set_encND (kvs : ND) (k v i : Nat) (e : MP.Env) (h : e[i]? = some (.mdk false (kvs.map encND))) (hk : kvs.length < 100000) : setIxD i (.fz (encN k)) (.fz (encN v)) e = .ok (e.set i (.mdk false ((putN kvs k v).map encND))) := by
  unfold setIxD
  rw [h]
  simp only [frz_fz]
  rw [if_pos ⟨rfl, by rw [List.length_map]; exact hk⟩, dputN]
theorem get2_ND (kvs : ND) (k v : Nat) : methD .get2 (mkD false (kvs.map encND)) [encN k, encN v] = .ok (.fz (encN ((lookN kvs k).getD v))) := by
  rw [methD_g2_eq, if_pos (show askOk false (encN k) = true from rfl), dlookN]
  cases lookN kvs k <;> rfl
theorem get1_ND (kvs : ND) (k : Nat) : methD .get1 (mkD false (kvs.map encND)) [encN k] = .ok (.fz (encO (lookN kvs k))) := by
  rw [methD_g1_eq, if_pos (show askOk false (encN k) = true from rfl), dlookN]
  cases lookN kvs k <;> rfl
def encP (p : Nat × Nat) : PyData := .tuple [encN p.1, encN p.2]
theorem items_ND (d : ND) : itemsD .items [mkD false (d.map encND)] = .ok (d.map encP) := by
  rw [items_items, List.map_map]
  rfl
theorem added_row (n : Nat) (S0 S1 : Slot) (r c : Nat) (f : ND) (s5 s6 s7 : Slot) (g5 : soft (some s5) = true) (g6 : soft (some s6) = true) (g7 : soft (some s7) = true) (e : ND) (hl : f.length + e.length ≤ 50000) : ∃ s5' s6' s7', soft (some s5') = true ∧ soft (some s6') = true ∧ soft (some s7') = true ∧
   forL (exS (cl n) pg.gb (.seq (.asg 7 (.bin .add (.peek 4) (.peek 6)))
  (.setIx 2 (.bin .add (.peek 3) (.peek 5)) (.bi .min2 (.cons (.meth .get2 (.peek 2) (.cons (.bin .add (.peek 3) (.peek 5)) (.cons (.var 7) .nil))) (.cons (.peek 7) .nil)))))) (.tup [5, 6]) (e.map encP) [S0, S1, .mdk false (f.map encND), .val (encN r), .val (encN c), s5, s6, s7] = .ok (.next, [S0, S1, .mdk false (((e.map fun q => (r + q.1, c + q.2)).foldl stepN f).map encND), .val (encN r), .val (encN c), s5', s6', s7']) := by
  obtain ⟨e', h1, s5', s6', s7', g5', g6', g7', rfl⟩ := for_inv (body := exS (cl n) pg.gb (.seq (.asg 7 (.bin .add (.peek 4) (.peek 6)))
  (.setIx 2 (.bin .add (.peek 3) (.peek 5)) (.bi .min2 (.cons (.meth .get2 (.peek 2) (.cons (.bin .add (.peek 3) (.peek 5)) (.cons (.var 7) .nil))) (.cons (.peek 7) .nil)))))) (tg := .tup [5, 6]) encP (fun pre e => ∃ s5 s6 s7, soft (some s5) = true ∧ soft (some s6) = true ∧ soft (some s7) = true ∧ e = [S0, S1, .mdk false (((pre.map fun q => (r + q.1, c + q.2)).foldl stepN f).map encND), .val (encN r), .val (encN c), s5, s6, s7]) e [] [S0, S1, .mdk false (f.map encND), .val (encN r), .val (encN c), s5, s6, s7] ⟨s5, s6, s7, g5, g6, g7, rfl⟩ (by
    rintro p ⟨r2, c2⟩ q e' hp ⟨s5, s6, s7, g5, g6, g7, rfl⟩
    rw [List.nil_append] at hp
    have hlen : ((p.map fun q => (r + q.1, c + q.2)).foldl stepN f).length < 100000 := by
      have h1 := step_len f (p.map fun q => (r + q.1, c + q.2))
      rw [List.length_map] at h1
      have := congrArg List.length hp
      simp at this
      omega
    rw [List.map_append, List.foldl_append]
    generalize (p.map fun q => (r + q.1, c + q.2)).foldl stepN f = F at *
    have ek : ((r : Int) + (r2 : Int)) = ((r + r2 : Nat) : Int) := by omega
    have ec : ((c : Int) + (c2 : Int)) = ((c + c2 : Nat) : Int) := by omega
    have hg := get2_ND F (r + r2) (c + c2)
    have hs := fun (v : Nat) (env : MP.Env) h => set_encND F (r + r2) v 2 env h hlen
    have est : ([(r2, c2)].map fun q : Nat × Nat => (r + q.1, c + q.2)).foldl stepN F = putN F (r + r2) (min ((lookN F (r + r2)).getD (c + c2)) (c + c2)) := rfl
    rw [est]
    refine ⟨[S0, S1, .mdk false (F.map encND), .val (encN r), .val (encN c), .val (encN r2), .val (encN c2), s7], [S0, S1, .mdk false ((putN F (r + r2) (min ((lookN F (r + r2)).getD (c + c2)) (c + c2))).map encND), .val (encN r), .val (encN c), .val (encN r2), .val (encN c2), .val (encN (c + c2))], by simp [encP, g5, g6], ?_, .val (encN r2), .val (encN c2), .val (encN (c + c2)), rfl, rfl, rfl, rfl⟩
    rw [seq_step (e1 := [S0, S1, .mdk false (F.map encND), .val (encN r), .val (encN c), .val (encN r2), .val (encN c2), .val (encN (c + c2))]) (by simp [g7])]
    have hs1 := hs (min ((lookN F (r + r2)).getD (c + c2)) (c + c2)) [S0, S1, .mdk false (F.map encND), .val (encN r), .val (encN c), .val (encN r2), .val (encN c2), .val (encN (c + c2))] rfl
    generalize (lookN F (r + r2)).getD (c + c2) = g at *
    have hm : (if c + c2 < g then ((c + c2 : Nat) : Int) else (g : Int)) = ((min g (c + c2) : Nat) : Int) := by
      split <;> omega
    generalize putN F (r + r2) (min g (c + c2)) = PF at *
    generalize min g (c + c2) = mv at *
    clear ec est hlen
    generalize hcc : c + c2 = cc at *
    generalize hkk : r + r2 = kk at *
    simp [ek, hg, hm, hs1])
  exact ⟨s5', s6', s7', g5', g6', g7', h1⟩
theorem added_ok (n : Nat) (d e : ND) (hl : d.length * e.length ≤ 40000) (hd : d.length ≤ 1000) (he : e.length ≤ 1000) : cl (n + 1) 17 .non [mkD false (d.map encND), mkD false (e.map encND)] = .ok (.fd false ((addN d e).map encND), []) := by
  rw [r_added, runF_plain _ _ rfl rfl (by decide)]
  have itd := items_ND d
  have ite := items_ND e
  have flat : ∀ p : ND, (p.flatMap fun p => e.map fun q => (p.1 + q.1, p.2 + q.2)).length = p.length * e.length := fun p => by
    induction p with
    | nil => simp
    | cons a p ih =>
      rw [List.flatMap_cons, List.length_append, ih, List.length_cons, List.length_map, Nat.succ_mul]
      omega
  have body : ∃ rest, exS (cl n) pg.gb b_added.body [.val (mkD false (d.map encND)), .val (mkD false (e.map encND)), .un, .un, .un, .un, .un, .un] = .ok (.ret (.fd false ((addN d e).map encND)), rest) := by
    unfold b_added
    dsimp only
    generalize hD : mkD false (d.map encND) = D at *
    generalize hE : mkD false (e.map encND) = E at *
    obtain ⟨e', h1, s3, s4, s5, s6, s7, g3, g4, g5, g6, g7, rfl⟩ := for_inv (body := exS (cl n) pg.gb (.for_ (.tup [5, 6]) .items (.var 1)
  (.seq (.asg 7 (.bin .add (.peek 4) (.peek 6)))
  (.setIx 2 (.bin .add (.peek 3) (.peek 5)) (.bi .min2 (.cons (.meth .get2 (.peek 2) (.cons (.bin .add (.peek 3) (.peek 5)) (.cons (.var 7) .nil))) (.cons (.peek 7) .nil))))))) (tg := .tup [3, 4]) encP (fun pre e' => ∃ s3 s4 s5 s6 s7, soft (some s3) = true ∧ soft (some s4) = true ∧ soft (some s5) = true ∧ soft (some s6) = true ∧ soft (some s7) = true ∧ e' = [.val D, .val E, .mdk false ((addN pre e).map encND), s3, s4, s5, s6, s7]) d [] [.val D, .val E, .mdk false [], .un, .un, .un, .un, .un] ⟨.un, .un, .un, .un, .un, rfl, rfl, rfl, rfl, rfl, rfl⟩ (by
      rintro p ⟨r, c⟩ q e' hp ⟨s3, s4, s5, s6, s7, g3, g4, g5, g6, g7, rfl⟩
      rw [List.nil_append] at hp
      have hpl : p.length + 1 ≤ d.length := by
        have := congrArg List.length hp
        simp at this
        omega
      have hlen : (addN p e).length + e.length ≤ 50000 := by
        have h1 : (addN p e).length ≤ ([] : ND).length + (pairN p e).length := step_len [] (pairN p e)
        have h2 : (pairN p e).length = p.length * e.length := flat p
        have h3 : p.length * e.length ≤ d.length * e.length := Nat.mul_le_mul_right _ (by omega)
        rw [h2] at h1
        simp only [List.length_nil, Nat.zero_add] at h1
        omega
      have est : addN (p ++ [(r, c)]) e = (e.map fun q => (r + q.1, c + q.2)).foldl stepN (addN p e) := by
        unfold addN pairN
        rw [List.flatMap_append, List.foldl_append]
        simp
      rw [est]
      generalize addN p e = F at *
      obtain ⟨s5', s6', s7', g5', g6', g7', e1⟩ := added_row n (.val D) (.val E) r c F s5 s6 s7 g5 g6 g7 e hlen
      refine ⟨[.val D, .val E, .mdk false (F.map encND), .val (encN r), .val (encN c), s5, s6, s7], _, by simp [encP, g3, g4], ?_, .val (encN r), .val (encN c), s5', s6', s7', rfl, rfl, g5', g6', g7', rfl⟩
      simp [ite, e1, show e.length ≤ 100000 by omega])
    rw [seq_step (e1 := [.val D, .val E, .mdk false [], .un, .un, .un, .un, .un]) (by simp)]
    rw [List.nil_append] at h1
    rw [seq_step (e1 := [.val D, .val E, .mdk false ((addN d e).map encND), s3, s4, s5, s6, s7]) (by simp [itd, show d.length ≤ 100000 by omega]; exact h1)]
    exact ⟨[.val D, .val E, .un, s3, s4, s5, s6, s7], by simp⟩
  obtain ⟨rest, hb⟩ := body
  have hb' : exS (cl n) pg.gb b_added.body ([mkD false (d.map encND), mkD false (e.map encND)].map Slot.val ++ List.replicate (b_added.slots - b_added.np) .un) = _ := hb
  rw [hb']
  rfl
end Q13

set_option linter.all false
set_option Elab.async false
set_option maxRecDepth 100000
set_option maxHeartbeats 4000000
namespace Q13
open MP
open PySem (PyData Str)
theorem truth_lN (l : List Nat) : truthD (lN l) = .ok (!l.isEmpty) := by
  cases l <;> rfl
theorem rowsL_le {o : List Nat} (O : Out o) {x : List Bool} {cs : List Nat} : rowsL o x cs ≤ 16 * cs.length := by
  unfold rowsL
  refine sum_le _ 16 _ fun c _ => ?_
  have := gS_le (o := o) (x := x) (t := c)
  have := O.le
  omega
theorem sm_len {o : List Nat} (O : Out o) {s : List Bool} {P : List Bool → Prop} {r0 c0 : Nat} {cs : List Nat} {d : ND} (h : Rep d (SM o s P r0 c0 cs)) (h0 : r0 ≤ 100) (hc : cs.length ≤ 16) : d.length ≤ 400 := by
  have := h.len 400 fun r c ⟨x, _, _, h1, _⟩ => by
    have := rowsL_le O (x := x) (cs := cs)
    omega
  exact this
theorem sz_len {o : List Nat} (O : Out o) {s : List Bool} {t : Nat} {d : ND} (h : Rep d (SZ o s t)) : d.length ≤ 17 := h.len 17 fun r c ⟨x, _, h1, _⟩ => by
  have := gS_le (o := o) (x := x) (t := t)
  have := O.le
  omega
theorem dct1_v (n : Nat) (a b : E) (env e1 e2 : MP.Env) (k v : Nat) (ha : (ev (cl n) pg.gb a).v env = .ok (.fz (encN k), e1)) (hb : (ev (cl n) pg.gb b).v e1 = .ok (.fz (encN v), e2)) : (ev (cl n) pg.gb (.dct1 false a b)).v env = .ok (.fd false ([(k, v)].map encND), e2) := by
  simp [ha, hb]
  rfl
theorem sizes_ok {o : List Nat} (O : Out o) {s : List Bool} (Gs : Good o s) (S : PyData) (hS : ∀ i, i < o.length → idxD S (.int (i : Int)) = .ok (.fz (encB (sB s i)))) : ∀ (d n t : Nat), o.length - t ≤ d → t < o.length → ∃ D : ND, cl (n + 1 + d) 18 .non [.list ((List.range o.length).map fun i => lN (kd o i)), S, encN t] = .ok (.fd false (D.map encND), []) ∧ Rep D (SZ o s t)
  | 0, n, t, h1, h2 => by omega
  | d + 1, n, t, h1, h2 => by
    have ih := sizes_ok O Gs S hS d n
    have ho := O.le
    have hkl := kd_len o t
    have kg := kids_get h2
    have hst := hS t h2
    have tr := truth_lN (kd o t)
    rw [show n + 1 + (d + 1) = (n + 1 + d) + 1 from rfl, r_sizes]
    by_cases hk : kd o t = []
    · refine ⟨[(1, 0)], ?_, (Rep.one 1 0).imp (sz_leaf O Gs h2 hk)⟩
      rw [runF_plain _ _ rfl rfl (by decide)]
      rw [hk] at tr kg
      generalize (List.range o.length).map (fun i => lN (kd o i)) = KD at *
      simp [b_sizes, kg]
      rfl
    · have hb : t ∈ brs o := by
        cases q : kd o t with
        | nil => exact absurd q hk
        | cons c _ =>
          have hc : c ∈ kd o t := by rw [q]; simp
          exact par_br O (mem_kd.mp hc).1 (mem_kd.mp hc).2
      have hem : (kd o t).isEmpty = false := by
        cases q : kd o t with
        | nil => exact absurd q hk
        | cons => rfl
      rw [hem] at tr
      generalize hKD : (List.range o.length).map (fun i => lN (kd o i)) = KD at *
      have body : ∃ (D : ND) (s3 s4 : Slot), Rep D (SZ o s t) ∧ exS (cl (n + 1 + d)) pg.gb b_sizes.body [.val (.list KD), .val S, .val (encN t), .un, .un] = .ok (.ret (.fd false (D.map encND)), [.val (.list KD), .val S, .val (encN t), s3, s4]) := by
        unfold b_sizes
        dsimp only
        have c0 : (1 : Int) - (if sB s t = true then 1 else 0) = (((if sB s t = true then 0 else 1 : Nat)) : Int) := by
          cases sB s t <;> rfl
        obtain ⟨e', h3, D, s4, g4, R, rfl⟩ := for_inv (body := exS (cl (n + 1 + d)) pg.gb (.asg 3 (.call 17 (.cons (.var 3) (.cons (.frzd (.call 18 (.cons (.var 0) (.cons (.var 1) (.cons (.var 4) .nil))))) .nil))))) (tg := .name 4) encN (fun pre e => ∃ (D : ND) (s4 : Slot), soft (some s4) = true ∧ Rep D (SM o s (fun x => sB x t = true) 1 (if sB s t = true then 0 else 1) pre) ∧ e = [.val (.list KD), .val S, .val (encN t), .mdk false (D.map encND), s4]) (kd o t) [] [.val (.list KD), .val S, .val (encN t), .mdk false ([(1, if sB s t = true then 0 else 1)].map encND), .un] ⟨_, .un, rfl, (Rep.one 1 _).imp (sm_open0 Gs h2 hb 1 _), rfl⟩ (by
          rintro p c q e hp ⟨D, s4, g4, R, rfl⟩
          rw [List.nil_append] at hp
          have hc : c ∈ kd o t := by rw [hp]; simp
          obtain ⟨m1, m2⟩ := mem_kd.mp hc
          have m3 := (par_lt m2).1
          obtain ⟨E, e1, R1⟩ := ih c (by omega) m1
          have hpl : p.length ≤ 16 := by
            have := congrArg List.length hp
            simp at this
            omega
          have l1 := sm_len O R (by omega) hpl
          have l2 := sz_len O R1
          have l3 : D.length * E.length ≤ 400 * 17 := Nat.mul_le_mul l1 l2
          have e2 := added_ok (n + d) D E (by omega) (by omega) (by omega)
          have e2 : cl (n + 1 + d) 17 .non [mkD false (D.map encND), mkD false (E.map encND)] = .ok (.fd false ((addN D E).map encND), []) := by
            rw [show n + 1 + d = n + d + 1 by omega]
            exact e2
          have R2 := (R.add R1).imp (sm_snoc (fun d' hd' k hs => by
            have hd2 : d' ∈ kd o t := by rw [hp]; simp [hd']
            refine kd_disj hc hd2 ?_ k hs
            intro z
            have nd := kd_nodup o t
            rw [hp] at nd
            exact (List.nodup_append.mp nd).2.2 d' hd' c (by simp) z.symm) (fun x y Gx hx => by
              show sB _ t = true
              rw [mix_keep h2 (by
                cases z : subB o c t with
                | false => rfl
                | true =>
                  have := sub_le z
                  omega)]
              exact hx))
          refine ⟨_, _, by simp [g4]; rfl, ?_, addN D E, .val (encN c), rfl, R2, rfl⟩
          generalize addN D E = F at *
          simp [e1, e2])
        rw [List.nil_append] at R
        have RF := (R.put 1 (if sB s t = true then 1 else 0) (fun c ⟨x, Gx, hx, h5, _⟩ => by
          cases q : kd o t with
          | nil => exact absurd q hk
          | cons c' l =>
            have hc : c' ∈ kd o t := by rw [q]; simp
            have := gS_pos (x := x) (mem_kd.mp hc).1
            rw [q] at h5
            unfold rowsL at h5
            rw [List.map_cons, List.sum_cons] at h5
            omega)).imp (sz_branch Gs h2 hb)
        have f1 : (kd o t).length ≤ 100000 := by omega
        have l1 := sm_len O R (by omega) (by omega)
        have hset := set_encND D 1 (if sB s t = true then 1 else 0) 3 [.val (.list KD), .val S, .val (encN t), .mdk false (D.map encND), s4] rfl (by omega)
        refine ⟨putN D 1 (if sB s t = true then 1 else 0), .un, s4, RF, ?_⟩
        have hst2 : encB (sB s t) = encN (if sB s t = true then 1 else 0) := by cases sB s t <;> rfl
        have hst3 : arith .sub (.int 1) (encB (sB s t)) = .ok (.fz (encN (if sB s t = true then 0 else 1))) := by cases sB s t <;> rfl
        generalize putN D 1 (if sB s t = true then 1 else 0) = PF at *
        rw [seq_step (e1 := [.val (.list KD), .val S, .val (encN t), .un, .un]) (by simp [kg, tr])]
        rw [seq_step (e1 := [.val (.list KD), .val S, .val (encN t), .mdk false ([(1, if sB s t = true then 0 else 1)].map encND), .un]) (by
          have hd := dct1_v (n + 1 + d) (.cst (.int 1)) (.bin .sub (.cst (.int 1)) (.idx (.peek 1) (.peek 2))) [.val (.list KD), .val S, .val (encN t), .un, .un] [.val (.list KD), .val S, .val (encN t), .un, .un] [.val (.list KD), .val S, .val (encN t), .un, .un] 1 (if sB s t = true then 0 else 1) (by simp) (by simp [hst, hst3])
          show ((ev (cl (n + 1 + d)) pg.gb (.dct1 false (.cst (.int 1)) (.bin .sub (.cst (.int 1)) (.idx (.peek 1) (.peek 2))))).v _).bind _ = _
          rw [hd]
          rfl)]
        rw [seq_step (for_seq (v := .fz (lN (kd o t))) (by simp [kg]) rfl (by rw [List.length_map]; exact f1) h3)]
        rw [hst2] at hst
        have hset : setIxD 3 (.fz (.int 1)) (.fz (encN (if sB s t = true then 1 else 0))) [.val (.list KD), .val S, .val (encN t), .mdk false (D.map encND), s4] = .ok [.val (.list KD), .val S, .val (encN t), .mdk false (PF.map encND), s4] := hset
        generalize encN (if sB s t = true then 1 else 0) = V at *
        rw [seq_step (e1 := [.val (.list KD), .val S, .val (encN t), .mdk false (PF.map encND), s4]) (by simp [hst, hset])]
        simp
      obtain ⟨D, s3, s4, R, hb⟩ := body
      refine ⟨D, ?_, R⟩
      rw [runF_plain _ _ rfl rfl (by decide)]
      have hb' : exS (cl (n + 1 + d)) pg.gb b_sizes.body (([.list KD, S, encN t] : List PyData).map Slot.val ++ List.replicate (b_sizes.slots - b_sizes.np) .un) = _ := hb
      rw [hb']
      rfl
end Q13

set_option linter.all false
set_option Elab.async false
set_option maxRecDepth 100000
set_option maxHeartbeats 4000000
namespace Q13
open MP
open PySem (PyData Str)
theorem trees_before_ok (n : Nat) {o : List Nat} (O : Out o) {i : Nat} (hi : i < o.length) : cl (n + 3) 19 .non [tN o, encN i] = .ok (.fr ((tb o i).map encN), []) := by
  rw [r_trees_before, runF_plain _ _ rfl rfl (by decide)]
  have ho := O.le
  have e1 := children_ok n O
  have e2 := roots_ok (n + 1) O
  have e3 := ancestors_ok n O hi
  have hlen : ∀ p q : List Nat, chn o i = p ++ q → (tbOf o p).length ≤ 16 := fun p q h => by
    have := tb_len O hi
    unfold tb tbOf at this
    rw [h, List.flatMap_append, List.length_append] at this
    unfold tbOf
    omega
  have hcl : ∀ j ∈ chn o i, j < o.length := fun j hj => by
    unfold chn at hj
    rcases List.mem_append.mp hj with h | h
    · have := abv_lt _ _ (List.mem_reverse.mp h); omega
    · simp at h; omega
  have hchl : (chn o i).length ≤ 100 := by
    unfold chn
    rw [List.length_append, List.length_reverse]
    have := sub_len (abv o i) (List.range i) (abv_nodup i) fun a ha => List.mem_range.mpr (abv_lt _ _ ha)
    simp at this ⊢
    omega
  have hlv : ∀ j, (lvl o j).length ≤ 16 := fun j => by
    unfold lvl
    split
    · have := List.length_filter_le (fun i => decide (gN o i = 0)) (List.range o.length)
      simp at this
      unfold rts
      omega
    · have := kd_len o ‹Nat›
      omega
  have kg : ∀ j, j < o.length → idxD (.list ((List.range o.length).map fun i => lN (kd o i))) (.int (j : Int)) = .ok (.fz (lN (kd o j))) := fun j hj => kids_get hj
  have body : ∃ rest, exS (cl (n + 2)) pg.gb b_trees_before.body [.val (tN o), .val (encN i), .un, .un, .un, .un, .un] = .ok (.ret (.fr ((tb o i).map encN)), rest) := by
    unfold b_trees_before
    dsimp only
    generalize (List.range o.length).map (fun i => lN (kd o i)) = KD at *
    obtain ⟨e', h1, s2, s5, s6, L, g2, g5, g6, hL, rfl⟩ := for_inv (body := exS (cl (n + 2)) pg.gb (.seq (.aug 4 .add (.comp [6] (.name 6) .seq (.var 5) (.cmp .lt (.peek 6) (.peek 2)) (.var 6)))
  (.asg 5 (.idx (.peek 3) (.peek 2))))) (tg := .name 2) encN (fun pre e => ∃ (s2 s5 s6 : Slot) (L : List Nat), soft (some s2) = true ∧ (s5 = .own (L.map encN) ∨ s5 = .val (lN L)) ∧ calmS (some s6) = true ∧ (∀ j q, chn o i = pre ++ j :: q → L = lvl o j) ∧ e = [.val (tN o), .val (encN i), s2, .val (.list KD), .own ((tbOf o pre).map encN), s5, s6]) (chn o i) [] [.val (tN o), .val (encN i), .un, .val (.list KD), .own [], .own ((rts o).map encN), .un] ⟨.un, _, .un, rts o, rfl, .inl rfl, rfl, fun j q h => by
        have := chn_first i j q (by simpa using h)
        unfold lvl
        rw [this], rfl⟩ (by
      rintro p j q e hp ⟨s2, s5, s6, L, g2, g5, g6, hL, rfl⟩
      rw [List.nil_append] at hp
      have hj := hcl j (by rw [hp]; simp)
      have hLj := hL j q hp
      have kj := kg j hj
      have f1 : L.length ≤ 100000 := by rw [hLj]; have := hlv j; omega
      have f2 : (tbOf o p).length + ((lvl o j).filter fun k => decide (k < j)).length ≤ 100000 := by
        have a1 := hlen p (j :: q) hp
        have a2 := hlv j
        have a3 := List.length_filter_le (fun k => decide (k < j)) (lvl o j)
        omega
      refine ⟨[.val (tN o), .val (encN i), .val (encN j), .val (.list KD), .own ((tbOf o p).map encN), s5, s6], [.val (tN o), .val (encN i), .val (encN j), .val (.list KD), .own ((tbOf o (p ++ [j])).map encN), .val (lN (kd o j)), s6], by simp [g2], ?_, .val (encN j), .val (lN (kd o j)), s6, kd o j, rfl, .inr rfl, g6, fun b q' h => ?_, rfl⟩
      · have hcomp : (ev (cl (n + 2)) pg.gb (.comp [6] (.name 6) .seq (.var 5) (.cmp .lt (.peek 6) (.peek 2)) (.var 6))).v [.val (tN o), .val (encN i), .val (encN j), .val (.list KD), .own ((tbOf o p).map encN), s5, s6] = .ok (.fr ((L.filter fun k => decide (k < j)).map encN), [.val (tN o), .val (encN i), .val (encN j), .val (.list KD), .own ((tbOf o p).map encN), .val (lN L), s6]) := by
          have gs := calm_soft g6
          rcases g5 with rfl | rfl
          · simp [f1, g6]
            rw [comp_map encN (fun k => decide (k < j)) encN _ (fun k hk => ⟨_, by simp [gs]; rfl, by simp, fun _ => ⟨.fz (encN k), by simp, rfl⟩, rfl⟩)]
            simp
          · simp [f1, g6]
            rw [comp_map encN (fun k => decide (k < j)) encN _ (fun k hk => ⟨_, by simp [gs]; rfl, by simp, fun _ => ⟨.fz (encN k), by simp, rfl⟩, rfl⟩)]
            simp
        rw [tbOf_snoc, ← hLj]
        rw [← hLj] at f2
        have haug : augD 4 .add (.fr ((L.filter fun k => decide (k < j)).map encN)) [.val (tN o), .val (encN i), .val (encN j), .val (.list KD), .own ((tbOf o p).map encN), .val (lN L), s6] = .ok [.val (tN o), .val (encN i), .val (encN j), .val (.list KD), .own ((tbOf o p ++ L.filter fun k => decide (k < j)).map encN), .val (lN L), s6] := by
          show (if ((tbOf o p).map encN).length + ((L.filter fun k => decide (k < j)).map encN).length ≤ cap then _ else _) = _
          rw [List.length_map, List.length_map, if_pos f2, List.map_append]
          rfl
        rw [seq_step (e1 := [.val (tN o), .val (encN i), .val (encN j), .val (.list KD), .own ((tbOf o p ++ L.filter fun k => decide (k < j)).map encN), .val (lN L), s6]) (by
          rw [exS_aug]
          show (evBd 4 _ _).bind _ = _
          show ((ev (cl (n + 2)) pg.gb (.comp [6] (.name 6) .seq (.var 5) (.cmp .lt (.peek 6) (.peek 2)) (.var 6))).v _).bind _ = _
          rw [hcomp, R.bind_ok, haug, R.bind_ok])]
        simp [kj]
      · have := chn_next i j b p q' (by rw [h]; simp)
        unfold lvl
        rw [this])
    rw [seq_step (e1 := [.val (tN o), .val (encN i), .un, .val (.list KD), .own [], .own ((rts o).map encN), .un]) (by simp [e1, e2])]
    rw [List.nil_append] at h1
    have hadd : arith .add (.list ((abv o i).map encN).reverse) (.list [encN i]) = .ok (.fr ((chn o i).map encN)) := by
      show (if (((abv o i).map encN).reverse).length + 1 ≤ 100000 then R.ok (Val.fr (((abv o i).map encN).reverse ++ [encN i])) else .stuck) = _
      have := hchl
      unfold chn at this
      simp at this
      rw [if_pos (by simp; omega)]
      unfold chn
      simp
    rw [seq_step (for_seq (v := .fr ((chn o i).map encN)) (e1 := [.val (tN o), .val (encN i), .un, .val (.list KD), .own [], .own ((rts o).map encN), .un]) (by simp [e3, hadd]) rfl (by rw [List.length_map]; omega) h1)]
    exact ⟨[.val (tN o), .val (encN i), s2, .val (.list KD), .un, s5, s6], by simp [tb]⟩
  obtain ⟨rest, hb⟩ := body
  have hb' : exS (cl (n + 2)) pg.gb b_trees_before.body (([tN o, encN i] : List PyData).map Slot.val ++ List.replicate (b_trees_before.slots - b_trees_before.np) .un) = _ := hb
  rw [hb']
  rfl
end Q13

set_option linter.all false
set_option Elab.async false
set_option maxRecDepth 100000
set_option maxHeartbeats 4000000
namespace Q13
open MP
open PySem (PyData Str)
theorem require_row_ok (n : Nat) {r : Nat} (hr : r ≤ 15) : cl (n + 2) 20 .non [encN r] = .ok (.fz .none, []) := by
  rw [r_require_row, runF_plain _ _ rfl rfl (by decide)]
  have q1 : (r : Int) ≤ 15 := by omega
  have q0 : (0 : Int) ≤ (r : Int) := by omega
  simp [b_require_row, is_integer_int n, q1, q0]
theorem eq_encB0 (b : Bool) : cmpD .eq (encB b) (.int 0) = .ok (!b) := by cases b <;> rfl
theorem row_loop (m : Nat) {o : List Nat} (O : Out o) {s : List Bool} (Gs : Good o s) {i : Nat} (hi : i < o.length) (KD : PyData) (S0 S2 S3 s6 s8 : Slot) (S1 : PyData)
    (e8 : ∀ t, t < o.length → ∃ D : ND, cl m 18 .non [KD, S1, encN t] = .ok (.fd false (D.map encND), []) ∧ Rep D (SZ o s t))
    (e9 : ∀ (d e : ND), d.length * e.length ≤ 40000 → d.length ≤ 1000 → e.length ≤ 1000 → cl m 17 .non [mkD false (d.map encND), mkD false (e.map encND)] = .ok (.fd false ((addN d e).map encND), [])) :
    ∃ (D : ND) (s5 : Slot), Rep D (SR o s i) ∧ forL (exS (cl m) pg.gb (.asg 4 (.call 17 (.cons (.var 4) (.cons (.frzd (.call 18 (.cons (.var 7) (.cons (.var 1) (.cons (.var 5) .nil))))) .nil))))) (.name 5) ((tb o i).map encN) [S0, .val S1, S2, S3, .mdk false ([((abv o i).length, shutN o s i)].map encND), .un, s6, .val KD, s8] = .ok (.next, [S0, .val S1, S2, S3, .mdk false (D.map encND), s5, s6, .val KD, s8]) := by
  have ho := O.le
  have hal : (abv o i).length ≤ 100 := by
    have := sub_len (abv o i) (List.range i) (abv_nodup i) fun a ha => List.mem_range.mpr (abv_lt _ _ ha)
    simp at this
    omega
  have htl := tb_len O hi
  have htb : ∀ t ∈ tb o i, t < o.length := fun t ht => tb_lt (ch := chn o i) ht
  obtain ⟨e', h1, D, s5, g5, R, rfl⟩ := for_inv (body := exS (cl m) pg.gb (.asg 4 (.call 17 (.cons (.var 4) (.cons (.frzd (.call 18 (.cons (.var 7) (.cons (.var 1) (.cons (.var 5) .nil))))) .nil))))) (tg := .name 5) encN (fun pre e => ∃ (D : ND) (s5 : Slot), soft (some s5) = true ∧ Rep D (SM o s (fun x => vis o x i = true) (abv o i).length (shutN o s i) pre) ∧ e = [S0, .val S1, S2, S3, .mdk false (D.map encND), s5, s6, .val KD, s8]) (tb o i) [] [S0, .val S1, S2, S3, .mdk false ([((abv o i).length, shutN o s i)].map encND), .un, s6, .val KD, s8] ⟨_, .un, rfl, (Rep.one _ _).imp (sm_base O Gs hi _ _), rfl⟩ (by
      rintro p t q e hp ⟨D, s5, g5, R, rfl⟩
      rw [List.nil_append] at hp
      have ht := htb t (by rw [hp]; simp)
      obtain ⟨E, f1, R1⟩ := e8 t ht
      have hpl : p.length ≤ 16 := by
        have := congrArg List.length hp
        simp at this
        omega
      have l1 := sm_len O R hal hpl
      have l2 := sz_len O R1
      have l3 : D.length * E.length ≤ 400 * 17 := Nat.mul_le_mul l1 l2
      have f2 := e9 D E (by omega) (by omega) (by omega)
      have R2 := (R.add R1).imp (sm_step O hi hp)
      refine ⟨_, _, by simp [g5]; rfl, ?_, addN D E, .val (encN t), rfl, R2, rfl⟩
      generalize addN D E = F at *
      simp [f1, f2])
  exact ⟨D, s5, R.imp (sr_iff O hi), h1⟩
theorem row_first (m : Nat) (A : List Nat) (T S1 S2 S3 KD : PyData) (s : List Bool) (k v : Nat) (hk : A.length = k) (hv : (A.filter fun a => !sB s a).length = v) (hA : ∀ a ∈ A, idxD S1 (.int (a : Int)) = .ok (.fz (encB (sB s a)))) (fA : A.length ≤ 100000) :
    exS (cl m) pg.gb (.asg 4 (.dct1 false (.bi .len (.cons (.peek 6) .nil)) (.bi .len (.cons (.comp [8] (.name 8) .seq (.var 6) (.cmp .eq (.idx (.peek 1) (.peek 8)) (.cst (.int 0))) (.var 8)) .nil)))) [.val T, .val S1, .val S2, .val S3, .un, .un, .own (A.map encN), .val KD, .un] = .ok (.next, [.val T, .val S1, .val S2, .val S3, .mdk false ([(k, v)].map encND), .un, .val (lN A), .val KD, .un]) := by
  have hD := dct1_v m (.bi .len (.cons (.peek 6) .nil)) (.bi .len (.cons (.comp [8] (.name 8) .seq (.var 6) (.cmp .eq (.idx (.peek 1) (.peek 8)) (.cst (.int 0))) (.var 8)) .nil)) [.val T, .val S1, .val S2, .val S3, .un, .un, .own (A.map encN), .val KD, .un] [.val T, .val S1, .val S2, .val S3, .un, .un, .own (A.map encN), .val KD, .un] [.val T, .val S1, .val S2, .val S3, .un, .un, .val (lN A), .val KD, .un] k v (by simp [hk]) (by
      simp [fA]
      rw [comp_map encN (fun a => !sB s a) encN _ (fun a ha => ⟨_, rfl, by
        have := hA a ha
        simp [this, eq_encB0], fun _ => ⟨.fz (encN a), by simp, rfl⟩, rfl⟩)]
      simp [hv])
  show ((ev (cl m) pg.gb (.dct1 false (.bi .len (.cons (.peek 6) .nil)) (.bi .len (.cons (.comp [8] (.name 8) .seq (.var 6) (.cmp .eq (.idx (.peek 1) (.peek 8)) (.cst (.int 0))) (.var 8)) .nil)))).v _).bind _ = _
  rw [hD]
  rfl
theorem fewest_to_row_ok (n : Nat) {o : List Nat} (O : Out o) {s : List Bool} (Gs : Good o s) {i r : Nat} (hi : i < o.length) (hr : r ≤ 15) : ∃ D : ND, Rep D (SR o s i) ∧ cl (n + 18) 21 .non [tN o, tS s, encN i, encN r] = .ok (.fz (encO (lookN D r)), []) := by
  have ho := O.le
  have hl := Gs.len
  have e1 := require_outline_ok (n + 14) O
  have e1 : cl (n + 17) 2 .non [tN o] = .ok (.fz .none, []) := e1
  have e2 := require_state_ok (n + 14) O Gs
  have e2 : cl (n + 17) 10 .non [tN o, tS s] = .ok (.fz .none, []) := e2
  have e3 := require_item_ok (n + 15) O hi
  have e3 : cl (n + 17) 3 .non [tN o, encN i] = .ok (.fz .none, []) := e3
  have e4 := require_row_ok (n + 15) hr
  have e4 : cl (n + 17) 20 .non [encN r] = .ok (.fz .none, []) := e4
  have e5 := ancestors_ok (n + 15) O hi
  have e5 : cl (n + 17) 8 .non [tN o, encN i] = .ok (.fr ((abv o i).reverse.map encN), []) := e5
  have e6 := children_ok (n + 15) O
  have e6 : cl (n + 17) 6 .non [tN o] = .ok (.fz (.list ((List.range o.length).map fun i => lN (kd o i))), []) := e6
  have e7 := trees_before_ok (n + 14) O hi
  have e7 : cl (n + 17) 19 .non [tN o, encN i] = .ok (.fr ((tb o i).map encN), []) := e7
  have hS : ∀ k, k < o.length → idxD (tS s) (.int (k : Int)) = .ok (.fz (encB (sB s k))) := fun k hk => idx_tS (by omega)
  have e8 : ∀ t, t < o.length → ∃ D : ND, cl (n + 17) 18 .non [.list ((List.range o.length).map fun i => lN (kd o i)), tS s, encN t] = .ok (.fd false (D.map encND), []) ∧ Rep D (SZ o s t) := fun t ht => sizes_ok O Gs (tS s) hS 16 n t (by omega) ht
  have e9 : ∀ (d e : ND), d.length * e.length ≤ 40000 → d.length ≤ 1000 → e.length ≤ 1000 → cl (n + 17) 17 .non [mkD false (d.map encND), mkD false (e.map encND)] = .ok (.fd false ((addN d e).map encND), []) := fun d e => added_ok (n + 16) d e
  have hal : (abv o i).length ≤ 100 := by
    have := sub_len (abv o i) (List.range i) (abv_nodup i) fun a ha => List.mem_range.mpr (abv_lt _ _ ha)
    simp at this
    omega
  have htl := tb_len O hi
  have hsh : ((abv o i).reverse.filter fun a => !sB s a).length = shutN o s i := by
    unfold shutN
    rw [List.filter_reverse, List.length_reverse]
  have htb : ∀ t ∈ tb o i, t < o.length := fun t ht => tb_lt (ch := chn o i) ht
  have hmem : ∀ a ∈ (abv o i).reverse, a < o.length := fun a ha => by have := abv_lt _ _ (List.mem_reverse.mp ha); omega
  have hlr : (abv o i).reverse.length = (abv o i).length := List.length_reverse
  generalize hKD : (List.range o.length).map (fun i => lN (kd o i)) = KD at *
  rw [r_fewest_to_row, runF_plain _ _ rfl rfl (by decide)]
  have body : ∃ (D : ND) (rest : MP.Env), Rep D (SR o s i) ∧ exS (cl (n + 17)) pg.gb b_fewest_to_row.body [.val (tN o), .val (tS s), .val (encN i), .val (encN r), .un, .un, .un, .un, .un] = .ok (.ret (.fz (encO (lookN D r))), rest) := by
    unfold b_fewest_to_row
    dsimp only
    generalize hA : (abv o i).reverse = A at *
    obtain ⟨D, s5, RF, h1⟩ := row_loop (n + 17) O Gs hi (.list KD) (.val (tN o)) (.val (encN i)) (.val (encN r)) (.val (lN A)) .un (tS s) e8 e9
    refine ⟨D, [.val (tN o), .val (tS s), .val (encN i), .val (encN r), .mdk false (D.map encND), s5, .val (lN A), .val (.list KD), .un], RF, ?_⟩
    have hF := row_first (n + 17) A (tN o) (tS s) (encN i) (encN r) (.list KD) s (abv o i).length (shutN o s i) hlr hsh (fun a ha => hS a (hmem a ha)) (by omega)
    have g1 := get1_ND D r
    rw [seq_step (e1 := [.val (tN o), .val (tS s), .val (encN i), .val (encN r), .un, .un, .un, .un, .un]) (by simp [e1])]
    rw [seq_step (e1 := [.val (tN o), .val (tS s), .val (encN i), .val (encN r), .un, .un, .un, .un, .un]) (by simp [e2])]
    rw [seq_step (e1 := [.val (tN o), .val (tS s), .val (encN i), .val (encN r), .un, .un, .un, .un, .un]) (by simp [e3])]
    rw [seq_step (e1 := [.val (tN o), .val (tS s), .val (encN i), .val (encN r), .un, .un, .un, .un, .un]) (by simp [e4])]
    rw [seq_step (e1 := [.val (tN o), .val (tS s), .val (encN i), .val (encN r), .un, .un, .own (A.map encN), .val (.list KD), .un]) (by simp [e5, e6])]
    rw [seq_step (e1 := [.val (tN o), .val (tS s), .val (encN i), .val (encN r), .mdk false ([((abv o i).length, shutN o s i)].map encND), .un, .val (lN A), .val (.list KD), .un]) hF]
    rw [seq_step (for_seq (v := .fr ((tb o i).map encN)) (by simp [e7]) rfl (by rw [List.length_map]; omega) h1)]
    simp [g1]
  obtain ⟨D, rest, R, hb⟩ := body
  refine ⟨D, R, ?_⟩
  have hb' : exS (cl (n + 17)) pg.gb b_fewest_to_row.body (([tN o, tS s, encN i, encN r] : List PyData).map Slot.val ++ List.replicate (b_fewest_to_row.slots - b_fewest_to_row.np) .un) = _ := hb
  rw [hb']
  rfl
end Q13

set_option linter.all false
set_option Elab.async false
set_option maxRecDepth 100000
set_option maxHeartbeats 4000000
namespace Q13
open MP
open PySem (PyData Str)
theorem insI_sorted (x : Int) : ∀ ys : List Int, ys.Pairwise (· ≤ ·) → (insI x ys).Pairwise (· ≤ ·) ∧ (insI x ys).Perm (x :: ys)
  | [], _ => ⟨by simp [insI], List.Perm.refl _⟩
  | y :: ys, h => by
    rw [List.pairwise_cons] at h
    obtain ⟨h1, h2⟩ := insI_sorted x ys h.2
    unfold insI
    by_cases c : x ≤ y
    · rw [if_pos c]
      refine ⟨List.pairwise_cons.mpr ⟨fun z hz => ?_, List.pairwise_cons.mpr h⟩, List.Perm.refl _⟩
      rcases List.mem_cons.mp hz with rfl | hz
      · exact c
      · have := h.1 z hz
        omega
    · rw [if_neg c]
      refine ⟨List.pairwise_cons.mpr ⟨fun z hz => ?_, h1⟩, (h2.cons y).trans (List.Perm.swap x y ys)⟩
      rcases List.mem_cons.mp (h2.mem_iff.mp hz) with rfl | hz
      · omega
      · exact h.1 z hz
theorem sortI_sorted : ∀ xs : List Int, (sortI xs).Pairwise (· ≤ ·) ∧ (sortI xs).Perm xs
  | [] => ⟨List.Pairwise.nil, List.Perm.refl _⟩
  | x :: xs => by
    obtain ⟨h1, h2⟩ := sortI_sorted xs
    obtain ⟨h3, h4⟩ := insI_sorted x (sortI xs) h1
    exact ⟨h3, h4.trans (h2.cons x)⟩
theorem sorted_ND (d : ND) (nd : (d.map (·.1)).Nodup) (hk : ∀ k ∈ d.map (·.1), k < 16) : biD .sorted [mkD false (d.map encND)] = .ok (.fr (((List.range 16).filter fun r => (lookN d r).isSome).map encN)) := by
  have hl : d.length ≤ 16 := by
    have := sub_len _ (List.range 16) nd fun k h => List.mem_range.mpr (hk k h)
    simpa using this
  show (R.of (allI ((d.map encND).map (·.1)))).bind (fun ns => if ns.length < 64 then R.ok (Val.fr ((sortI ns).map PyData.int)) else .stuck) = _
  have e : (d.map encND).map (·.1) = (d.map (·.1)).map encN := by
    rw [List.map_map, List.map_map]
    rfl
  rw [e, allI_enc, R.of_some, R.bind_ok, if_pos (by simp; omega)]
  have key : sortI ((d.map (·.1)).map fun k : Nat => (k : Int)) = ((List.range 16).filter fun r => (lookN d r).isSome).map fun k : Nat => (k : Int) := by
    obtain ⟨h1, h2⟩ := sortI_sorted ((d.map (·.1)).map fun k : Nat => (k : Int))
    refine List.Perm.eq_of_pairwise (le := (· ≤ ·)) (fun a b _ _ x y => by omega) h1 ?_ ?_
    · rw [List.pairwise_map]
      refine List.Pairwise.imp (fun {a b} h => ?_) (List.Pairwise.filter _ (List.pairwise_lt_range (n := 16)))
      have h : a < b := h
      omega
    · refine h2.trans (List.Perm.map _ ?_)
      refine (List.perm_ext_iff_of_nodup nd (List.Pairwise.filter _ List.nodup_range)).mpr fun k => ?_
      rw [List.mem_filter, List.mem_range, keysN]
      constructor
      · intro h
        refine ⟨hk k ((keysN k d).mpr h), ?_⟩
        cases q : lookN d k with
        | none => exact absurd q h
        | some _ => rfl
      · rintro ⟨_, h⟩ z
        rw [z] at h
        cases h
  rw [key, List.map_map]
  rfl
theorem rows_loop (m : Nat) {o : List Nat} (O : Out o) {s : List Bool} (Gs : Good o s) {i : Nat} (hi : i < o.length) (KD T : PyData) (S1 : Slot) (Z : List PyData) (K : Int) (hK : biD .len [T] = .ok (.fz (.int K))) (hm : arith .mul (.list [.int 0]) (.int K) = .ok (.fr Z))
    (e8 : ∀ t, t < o.length → ∃ D : ND, cl m 18 .non [KD, .list Z, encN t] = .ok (.fd false (D.map encND), []) ∧ Rep D (SZ o s t))
    (e9 : ∀ (d e : ND), d.length * e.length ≤ 40000 → d.length ≤ 1000 → e.length ≤ 1000 → cl m 17 .non [mkD false (d.map encND), mkD false (e.map encND)] = .ok (.fd false ((addN d e).map encND), [])) (c0 : Nat) :
    ∃ (D : ND) (s2 : Slot), (Rep D fun r c => ∃ c', SR o s i r c' ∧ c + shutN o s i = c' + c0) ∧ forL (exS (cl m) pg.gb (.asg 4 (.call 17 (.cons (.var 4) (.cons (.frzd (.call 18 (.cons (.var 3) (.cons (.bin .mul (.lst (.cons (.cst (.int 0)) .nil)) (.bi .len (.cons (.peek 0) .nil))) (.cons (.var 2) .nil))))) .nil))))) (.name 2) ((tb o i).map encN) [.val T, S1, .un, .val KD, .mdk false ([((abv o i).length, c0)].map encND)] = .ok (.next, [.val T, S1, s2, .val KD, .mdk false (D.map encND)]) := by
  have ho := O.le
  have hal : (abv o i).length ≤ 100 := by
    have := sub_len (abv o i) (List.range i) (abv_nodup i) fun a ha => List.mem_range.mpr (abv_lt _ _ ha)
    simp at this
    omega
  have htl := tb_len O hi
  have htb : ∀ t ∈ tb o i, t < o.length := fun t ht => tb_lt (ch := chn o i) ht
  obtain ⟨e', h1, D, s5, g5, R, rfl⟩ := for_inv (body := exS (cl m) pg.gb (.asg 4 (.call 17 (.cons (.var 4) (.cons (.frzd (.call 18 (.cons (.var 3) (.cons (.bin .mul (.lst (.cons (.cst (.int 0)) .nil)) (.bi .len (.cons (.peek 0) .nil))) (.cons (.var 2) .nil))))) .nil))))) (tg := .name 2) encN (fun pre e => ∃ (D : ND) (s2 : Slot), soft (some s2) = true ∧ Rep D (SM o s (fun x => vis o x i = true) (abv o i).length c0 pre) ∧ e = [.val T, S1, s2, .val KD, .mdk false (D.map encND)]) (tb o i) [] [.val T, S1, .un, .val KD, .mdk false ([((abv o i).length, c0)].map encND)] ⟨_, .un, rfl, (Rep.one _ _).imp (sm_base O Gs hi _ _), rfl⟩ (by
      rintro p t q e hp ⟨D, s5, g5, R, rfl⟩
      rw [List.nil_append] at hp
      have ht := htb t (by rw [hp]; simp)
      obtain ⟨E, f1, R1⟩ := e8 t ht
      have hpl : p.length ≤ 16 := by
        have := congrArg List.length hp
        simp at this
        omega
      have l1 := sm_len O R hal hpl
      have l2 := sz_len O R1
      have l3 : D.length * E.length ≤ 400 * 17 := Nat.mul_le_mul l1 l2
      have f2 := e9 D E (by omega) (by omega) (by omega)
      have R2 := (R.add R1).imp (sm_step O hi hp)
      refine ⟨_, _, by simp [g5]; rfl, ?_, addN D E, .val (encN t), rfl, R2, rfl⟩
      generalize addN D E = F at *
      simp [hK, hm, f1, f2])
  refine ⟨D, s5, R.imp fun r c => ?_, h1⟩
  rw [List.nil_append]
  constructor
  · rintro ⟨x, Gx, hv, a1, a2⟩
    exact ⟨clkN o s x i, ⟨x, Gx, hv, by rw [rowN_eq O hi hv, a1], rfl⟩, by rw [clkN_eq O hi hv]; omega⟩
  · rintro ⟨c', ⟨x, Gx, hv, a1, a2⟩, a3⟩
    refine ⟨x, Gx, hv, by rw [← a1, rowN_eq O hi hv], ?_⟩
    rw [clkN_eq O hi hv] at a2
    omega
theorem rows_of_ok (n : Nat) {o : List Nat} (O : Out o) {i : Nat} (hi : i < o.length) : ∃ D : ND, (∀ r, (lookN D r).isSome = true ↔ ∃ x, Good o x ∧ (shown o x)[r]? = some i) ∧ cl (n + 18) 22 .non [tN o, encN i] = .ok (.fr (((List.range 16).filter fun r => (lookN D r).isSome).map encN), []) := by
  have ho := O.le
  have e1 := require_outline_ok (n + 14) O
  have e1 : cl (n + 17) 2 .non [tN o] = .ok (.fz .none, []) := e1
  have e3 := require_item_ok (n + 15) O hi
  have e3 : cl (n + 17) 3 .non [tN o, encN i] = .ok (.fz .none, []) := e3
  have e5 := ancestors_ok (n + 15) O hi
  have e5 : cl (n + 17) 8 .non [tN o, encN i] = .ok (.fr ((abv o i).reverse.map encN), []) := e5
  have e6 := children_ok (n + 15) O
  have e6 : cl (n + 17) 6 .non [tN o] = .ok (.fz (.list ((List.range o.length).map fun i => lN (kd o i))), []) := e6
  have e7 := trees_before_ok (n + 14) O hi
  have e7 : cl (n + 17) 19 .non [tN o, encN i] = .ok (.fr ((tb o i).map encN), []) := e7
  have G0 : Good o (List.replicate o.length false) := ⟨by simp, fun k hk => by
    unfold sB at hk
    rw [List.getD_eq_getElem?_getD, List.getElem?_replicate] at hk
    split at hk <;> cases hk⟩
  have hS : ∀ k, k < o.length → idxD (.list (List.replicate o.length (.int 0))) (.int (k : Int)) = .ok (.fz (encB (sB (List.replicate o.length false) k))) := fun k hk => by
    have h1 : sB (List.replicate o.length false) k = false := by
      unfold sB
      rw [List.getD_eq_getElem?_getD, List.getElem?_replicate]
      split <;> rfl
    rw [h1]
    exact idx_list _ _ _ (by rw [atD_nat, List.getElem?_replicate, if_pos hk]; rfl)
  have e8 : ∀ t, t < o.length → ∃ D : ND, cl (n + 17) 18 .non [.list ((List.range o.length).map fun i => lN (kd o i)), .list (List.replicate o.length (.int 0)), encN t] = .ok (.fd false (D.map encND), []) ∧ Rep D (SZ o (List.replicate o.length false) t) := fun t ht => sizes_ok O G0 (.list (List.replicate o.length (.int 0))) hS 16 n t (by omega) ht
  have e9 : ∀ (d e : ND), d.length * e.length ≤ 40000 → d.length ≤ 1000 → e.length ≤ 1000 → cl (n + 17) 17 .non [mkD false (d.map encND), mkD false (e.map encND)] = .ok (.fd false ((addN d e).map encND), []) := fun d e => added_ok (n + 16) d e
  have hm := mulL_one (.int 0) o.length (by omega)
  have hK : biD .len [tN o] = .ok (.fz (.int (o.length : Int))) := by
    show R.ok (Val.fz (.int ((o.map encN).length : Int))) = _
    rw [List.length_map]
  have hlr : (abv o i).reverse.length = (abv o i).length := List.length_reverse
  have htl := tb_len O hi
  generalize hKD : (List.range o.length).map (fun i => lN (kd o i)) = KD at *
  have body : ∃ (D : ND) (rest : MP.Env), (∀ r, (lookN D r).isSome = true ↔ ∃ x, Good o x ∧ (shown o x)[r]? = some i) ∧ exS (cl (n + 17)) pg.gb b_rows_of.body [.val (tN o), .val (encN i), .un, .un, .un] = .ok (.ret (.fr (((List.range 16).filter fun r => (lookN D r).isSome).map encN)), rest) := by
    unfold b_rows_of
    dsimp only
    obtain ⟨D, s2, R, h1⟩ := rows_loop (n + 17) O G0 hi (.list KD) (tN o) (.val (encN i)) (List.replicate o.length (.int 0)) (o.length : Int) hK hm e8 e9 0
    have hD : ∀ r, (lookN D r).isSome = true ↔ ∃ x, Good o x ∧ (shown o x)[r]? = some i := fun r => by
      constructor
      · intro h
        cases q : lookN D r with
        | none => rw [q] at h; cases h
        | some c =>
          obtain ⟨c', ⟨x, Gx, hv, hr, _⟩, _⟩ := R.real r c q
          exact ⟨x, Gx, shown_at.mpr ⟨hi, hv, hr⟩⟩
      · rintro ⟨x, Gx, h⟩
        obtain ⟨_, hv, hr⟩ := shown_at.mp h
        have hc := clkN_eq O (s := List.replicate o.length false) hi hv
        obtain ⟨m, hm, _⟩ := R.least r (clkN o (List.replicate o.length false) x i - shutN o (List.replicate o.length false) i) ⟨_, ⟨x, Gx, hv, hr, rfl⟩, by omega⟩
        rw [hm]
        rfl
    have hk : ∀ k ∈ D.map (·.1), k < 16 := fun k hk => by
      have h := (keysN k D).mp hk
      cases q : lookN D k with
      | none => exact absurd q h
      | some c =>
        obtain ⟨x, Gx, h⟩ := (hD k).mp (by rw [q]; rfl)
        have h1 : k < (shown o x).length := (List.getElem?_eq_some_iff.mp h).1
        have h2 := List.length_filter_le (vis o x) (List.range o.length)
        rw [List.length_range] at h2
        unfold shown at h1
        omega
    have hso := sorted_ND D R.nd hk
    refine ⟨D, [.val (tN o), .val (encN i), s2, .val (.list KD), .mdk false (D.map encND)], hD, ?_⟩
    generalize (List.range 16).filter (fun r => (lookN D r).isSome) = L at *
    have hF : exS (cl (n + 17)) pg.gb (.asg2 3 4 (.call 6 (.cons (.var 0) .nil)) (.dct1 false (.bi .len (.cons (.call 8 (.cons (.var 0) (.cons (.var 1) .nil))) .nil)) (.cst (.int 0)))) [.val (tN o), .val (encN i), .un, .un, .un] = .ok (.next, [.val (tN o), .val (encN i), .un, .val (.list KD), .mdk false ([((abv o i).length, 0)].map encND)]) := by
      have hd := dct1_v (n + 17) (.bi .len (.cons (.call 8 (.cons (.var 0) (.cons (.var 1) .nil))) .nil)) (.cst (.int 0)) [.val (tN o), .val (encN i), .un, .un, .un] [.val (tN o), .val (encN i), .un, .un, .un] [.val (tN o), .val (encN i), .un, .un, .un] (abv o i).length 0 (by simp [e5, hlr]) (by simp)
      show ((ev (cl (n + 17)) pg.gb (.call 6 (.cons (.var 0) .nil))).v _).bind _ = _
      have hc : (ev (cl (n + 17)) pg.gb (.call 6 (.cons (.var 0) .nil))).v [.val (tN o), .val (encN i), .un, .un, .un] = .ok (.fz (.list KD), [.val (tN o), .val (encN i), .un, .un, .un]) := by simp [e6]
      rw [hc, MP.R.bind_ok]
      show ((ev (cl (n + 17)) pg.gb (.dct1 false (.bi .len (.cons (.call 8 (.cons (.var 0) (.cons (.var 1) .nil))) .nil)) (.cst (.int 0)))).v _).bind _ = _
      rw [hd]
      rfl
    rw [seq_step (e1 := [.val (tN o), .val (encN i), .un, .un, .un]) (by simp [e1])]
    rw [seq_step (e1 := [.val (tN o), .val (encN i), .un, .un, .un]) (by simp [e3])]
    rw [seq_step hF]
    rw [seq_step (for_seq (v := .fr ((tb o i).map encN)) (by simp [e7]) rfl (by rw [List.length_map]; omega) h1)]
    simp [hso]
  obtain ⟨D, rest, hD, hb⟩ := body
  refine ⟨D, hD, ?_⟩
  rw [r_rows_of, runF_plain _ _ rfl rfl (by decide)]
  have hb' : exS (cl (n + 17)) pg.gb b_rows_of.body (([tN o, encN i] : List PyData).map Slot.val ++ List.replicate (b_rows_of.slots - b_rows_of.np) .un) = _ := hb
  rw [hb']
  rfl
end Q13

set_option linter.all false
set_option Elab.async false
set_option maxRecDepth 100000
set_option maxHeartbeats 4000000
namespace Q13
open MP
open PySem (PyData Str)
theorem ask_tN (l : List Nat) : askOk true (tN l) = true := by
  show (l.map encN).all keyI = true
  simp [keyI]
theorem put_tN (l : List Nat) : putOk true (tN l) = true := by
  show (l.map encN).all intD = true
  simp [intD]
theorem set_CT (kvs : CT) (l : List Nat) (v i : Nat) (e : MP.Env) (h : e[i]? = some (.mdk true (kvs.map encCT))) (hk : kvs.length < 100000) : setIxD i (.fz (tN l)) (.fz (encN v)) e = .ok (e.set i (.mdk true ((putC kvs l v).map encCT))) := by
  unfold setIxD
  rw [h]
  simp only [frz_fz]
  rw [if_pos ⟨put_tN l, by rw [List.length_map]; exact hk⟩, dput_enc]
theorem get99_CT (kvs : CT) (l : List Nat) : methD .get2 (mkD true (kvs.map encCT)) [tN l, .int 99] = .ok (.fz (encN ((lookC kvs l).getD 99))) := by
  rw [methD_g2_eq, if_pos (ask_tN l), dlook_enc]
  cases lookC kvs l <;> rfl
theorem get1_CT (kvs : CT) (l : List Nat) : methD .get1 (mkD true (kvs.map encCT)) [tN l] = .ok (.fz (encO (lookC kvs l))) := by
  rw [methD_g1_eq, if_pos (ask_tN l), dlook_enc]
  cases lookC kvs l <;> rfl
theorem in_CT (kvs : CT) (l : List Nat) : cmpD .in_ (tN l) (mkD true (kvs.map encCT)) = .ok (lookC kvs l).isSome := by
  show (if askOk true (tN l) then R.ok (dlook (kvs.map encCT) (tN l)).isSome else .stuck) = _
  rw [ask_tN, dlook_enc]
  cases lookC kvs l <;> rfl
theorem idx_CT (kvs : CT) (l : List Nat) (v : Nat) (h : lookC kvs l = some v) : idxD (mkD true (kvs.map encCT)) (tN l) = .ok (.fz (encN v)) := by
  show (if askOk true (tN l) then (match dlook (kvs.map encCT) (tN l) with
    | some v => R.ok (Val.fz v)
    | none => .stuck) else .stuck) = _
  rw [ask_tN, dlook_enc, h]
  rfl
def encZ (p : Nat × Nat) : PyData := .tuple [encN p.2, encN p.1]
theorem min_ints (a b : Nat) : (if (b : Int) < (a : Int) then (b : Int) else (a : Int)) = ((min a b : Nat) : Int) := by
  split <;> omega
/-- the places of one state -/
theorem place_row (n : Nat) {o : List Nat} (O : Out o) (s x : List Bool) (far : PyData) (S0 S1 S2 S4 : Slot) (S7 : Slot) (hfar : idxD far (tS x) = .ok (.fz (encN (cost o s x)))) (P : CT) (hP : P.length ≤ 50000) (s5 s9 : Slot) (g5 : soft (some s5) = true) (g9 : calmS (some s9) = true) : ∃ s5' s9', soft (some s5') = true ∧ calmS (some s9') = true ∧
   forL (exS (cl n) pg.gb (.setIx 8 (.tup (.cons (.var 5) (.cons (.var 9) .nil))) (.bi .min2 (.cons (.idx (.peek 6) (.peek 3)) (.cons (.meth .get2 (.peek 8) (.cons (.tup (.cons (.var 5) (.cons (.var 9) .nil))) (.cons (.cst (.int 99)) .nil))) .nil))))) (.tup [9, 5]) ((shown o x).zipIdx.map encZ) [S0, S1, S2, .val (tS x), S4, s5, .val far, S7, .mdk true (P.map encCT), s9] = .ok (.next, [S0, S1, S2, .val (tS x), S4, s5', .val far, S7, .mdk true (((plcX o s x).foldl stepL P).map encCT), s9']) := by
  obtain ⟨e', h1, s5', s9', g5', g9', rfl⟩ := for_inv (body := exS (cl n) pg.gb (.setIx 8 (.tup (.cons (.var 5) (.cons (.var 9) .nil))) (.bi .min2 (.cons (.idx (.peek 6) (.peek 3)) (.cons (.meth .get2 (.peek 8) (.cons (.tup (.cons (.var 5) (.cons (.var 9) .nil))) (.cons (.cst (.int 99)) .nil))) .nil))))) (tg := .tup [9, 5]) encZ (fun pre e => ∃ s5 s9, soft (some s5) = true ∧ calmS (some s9) = true ∧ e = [S0, S1, S2, .val (tS x), S4, s5, .val far, S7, .mdk true (((pre.map fun p : Nat × Nat => ([p.1, p.2], cost o s x)).foldl stepL P).map encCT), s9]) (shown o x).zipIdx [] [S0, S1, S2, .val (tS x), S4, s5, .val far, S7, .mdk true (P.map encCT), s9] ⟨s5, s9, g5, g9, rfl⟩ (by
    rintro p ⟨it, r⟩ q e hp ⟨s5, s9, g5, g9, rfl⟩
    rw [List.nil_append] at hp
    have hlen : ((p.map fun p : Nat × Nat => ([p.1, p.2], cost o s x)).foldl stepL P).length < 100000 := by
      have h1 := stepL_len P (p.map fun p : Nat × Nat => ([p.1, p.2], cost o s x))
      rw [List.length_map] at h1
      have h2 := congrArg List.length hp
      rw [List.length_zipIdx, List.length_append] at h2
      have h3 := shown_short (o := o) x
      have := O.le
      omega
    rw [List.map_append, List.foldl_append]
    generalize (p.map fun p : Nat × Nat => ([p.1, p.2], cost o s x)).foldl stepL P = F at *
    have est : ([(it, r)].map fun p : Nat × Nat => ([p.1, p.2], cost o s x)).foldl stepL F = putC F [it, r] (min (cost o s x) ((lookC F [it, r]).getD 99)) := rfl
    rw [est]
    have hg : (dlook (F.map encCT) (.tuple [encN it, encN r])).getD (.int 99) = encN ((lookC F [it, r]).getD 99) := by
      have : dlook (F.map encCT) (tN [it, r]) = _ := dlook_enc [it, r] F
      show (dlook (F.map encCT) (tN [it, r])).getD (.int 99) = _
      rw [this]
      cases lookC F [it, r] <;> rfl
    have hs1 := set_CT F [it, r] (min (cost o s x) ((lookC F [it, r]).getD 99)) 8 [S0, S1, S2, .val (tS x), S4, .val (encN it), .val far, S7, .mdk true (F.map encCT), .val (encN r)] rfl hlen
    have hm := min_ints (cost o s x) ((lookC F [it, r]).getD 99)
    generalize putC F [it, r] (min (cost o s x) ((lookC F [it, r]).getD 99)) = PF at *
    generalize (lookC F [it, r]).getD 99 = gv at *
    generalize min (cost o s x) gv = mv at *
    generalize cost o s x = cv at *
    refine ⟨[S0, S1, S2, .val (tS x), S4, .val (encN it), .val far, S7, .mdk true (F.map encCT), .val (encN r)], [S0, S1, S2, .val (tS x), S4, .val (encN it), .val far, S7, .mdk true (PF.map encCT), .val (encN r)], by simp [encZ, g5, calm_soft g9], ?_, .val (encN it), .val (encN r), rfl, rfl, rfl⟩
    have hk : ∀ k, keyI (encN k) = true := fun _ => rfl
    have hm : (if gv < cv then (gv : Int) else (cv : Int)) = (mv : Int) := by
      rw [← hm]
      by_cases q : gv < cv
      · rw [if_pos q, if_pos (by omega)]
      · rw [if_neg q, if_neg (by omega)]
    have hs1 : setIxD 8 (.fz (.tuple [encN it, encN r])) (.fz (encN mv)) [S0, S1, S2, .val (tS x), S4, .val (encN it), .val far, S7, .mdk true (F.map encCT), .val (encN r)] = .ok [S0, S1, S2, .val (tS x), S4, .val (encN it), .val far, S7, .mdk true (PF.map encCT), .val (encN r)] := hs1
    simp [hfar, hk, hg, hm, hs1])
  exact ⟨s5', s9', g5', g9', h1⟩
end Q13

set_option linter.all false
set_option Elab.async false
set_option maxRecDepth 100000
set_option maxHeartbeats 4000000
namespace Q13
open MP
open PySem (PyData Str)
theorem LeastO.imp' {a : Option Nat} {S T : Nat → Prop} (h : LeastO a S) (e : ∀ c, S c ↔ T c) : LeastO a T :=
  ⟨fun c q => (e c).mp (h.real c q), fun c q => h.least c ((e c).mpr q)⟩
theorem ne_enc_self (k : Nat) : cmpD .ne (encN k) (encN k) = .ok false := by
  rw [show cmpD .ne (encN k) (encN k) = R.ok (!eqD (encN k) (encN k)) from rfl, eqD_nat]
  simp
theorem ne_encO_self : ∀ k : Option Nat, cmpD .ne (encO k) (encO k) = .ok false
  | none => rfl
  | some k => ne_enc_self k
theorem ne_lN_self (l : List Nat) : cmpD .ne (lN l) (lN l) = .ok false := by
  show (if (eqOkAll 39 (l.map encN) && eqOkAll 39 (l.map encN)) then R.ok (!eqDs (l.map encN) (l.map encN)) else .stuck) = _
  rw [eqOkAll_nat, eqDs_nat]
  simp
theorem states_loop (n : Nat) {o : List Nat} (O : Out o) (st : List Bool) (far : GD) (hl : ∀ x ∈ far.map (·.1), Good o x ∧ lookG far x = some (encN (cost o st x))) (hsz : far.length ≤ 256) (S1 : Slot) : ∃ s3 s4 s5 s9, soft (some s3) = true ∧ soft (some s4) = true ∧ soft (some s5) = true ∧ calmS (some s9) = true ∧
   forL (exS (cl (n + 3)) pg.gb (.seq (.asg 4 (.call 31 (.cons (.var 0) (.cons (.var 3) .nil))))
  (.seq (.setIx 7 (.peek 4) (.bi .min2 (.cons (.idx (.peek 6) (.peek 3)) (.cons (.meth .get2 (.peek 7) (.cons (.var 4) (.cons (.cst (.int 99)) .nil))) .nil))))
  (.for_ (.tup [9, 5]) .enum (.cons (.var 4) .nil)
  (.setIx 8 (.tup (.cons (.var 5) (.cons (.var 9) .nil))) (.bi .min2 (.cons (.idx (.peek 6) (.peek 3)) (.cons (.meth .get2 (.peek 8) (.cons (.tup (.cons (.var 5) (.cons (.var 9) .nil))) (.cons (.cst (.int 99)) .nil))) .nil)))))))) (.name 3) ((far.map (·.1)).map tS) [.val (tN o), S1, .val (tS st), .un, .un, .un, .val (mkD true (far.map encG)), .mdk true [], .mdk true [], .un] =
   .ok (.next, [.val (tN o), S1, .val (tS st), s3, s4, s5, .val (mkD true (far.map encG)), .mdk true (((scrL o st (far.map (·.1))).foldl stepL []).map encCT), .mdk true (((plcL o st (far.map (·.1))).foldl stepL []).map encCT), s9]) := by
  have hidx : ∀ x ∈ far.map (·.1), idxD (mkD true (far.map encG)) (tS x) = .ok (.fz (encN (cost o st x))) := fun x hx => idxG far x _ (hl x hx).2
  have hks : (far.map (·.1)).length ≤ 256 := by rw [List.length_map]; exact hsz
  generalize far.map (·.1) = ks at *
  generalize mkD true (far.map encG) = FD at *
  obtain ⟨e', h1, s3, s4, s5, s9, g3, g4, g5, g9, rfl⟩ := for_inv (body := exS (cl (n + 3)) pg.gb (.seq (.asg 4 (.call 31 (.cons (.var 0) (.cons (.var 3) .nil))))
  (.seq (.setIx 7 (.peek 4) (.bi .min2 (.cons (.idx (.peek 6) (.peek 3)) (.cons (.meth .get2 (.peek 7) (.cons (.var 4) (.cons (.cst (.int 99)) .nil))) .nil))))
  (.for_ (.tup [9, 5]) .enum (.cons (.var 4) .nil)
  (.setIx 8 (.tup (.cons (.var 5) (.cons (.var 9) .nil))) (.bi .min2 (.cons (.idx (.peek 6) (.peek 3)) (.cons (.meth .get2 (.peek 8) (.cons (.tup (.cons (.var 5) (.cons (.var 9) .nil))) (.cons (.cst (.int 99)) .nil))) .nil)))))))) (tg := .name 3) tS (fun pre e => ∃ s3 s4 s5 s9, soft (some s3) = true ∧ soft (some s4) = true ∧ soft (some s5) = true ∧ calmS (some s9) = true ∧ e = [.val (tN o), S1, .val (tS st), s3, s4, s5, .val FD, .mdk true (((scrL o st pre).foldl stepL []).map encCT), .mdk true (((plcL o st pre).foldl stepL []).map encCT), s9]) ks [] [.val (tN o), S1, .val (tS st), .un, .un, .un, .val FD, .mdk true [], .mdk true [], .un] ⟨.un, .un, .un, .un, rfl, rfl, rfl, rfl, rfl⟩ (by
    rintro p x q e hp ⟨s3, s4, s5, s9, g3, g4, g5, g9, rfl⟩
    rw [List.nil_append] at hp
    have hx : x ∈ ks := by rw [hp]; simp
    have G := (hl x hx).1
    have hi := hidx x hx
    have e1 := law_shown_ok n O G.len
    have hpl : p.length ≤ 256 := by
      have := congrArg List.length hp
      rw [List.length_append] at this
      omega
    have l1 : ((scrL o st p).foldl stepL []).length ≤ 256 := by
      have := stepL_len [] (scrL o st p)
      have h2 : (scrL o st p).length = p.length := by simp [scrL]
      rw [h2] at this
      simp only [List.length_nil, Nat.zero_add] at this
      omega
    have l2 : ((plcL o st p).foldl stepL []).length ≤ 50000 := by
      have := stepL_len [] (plcL o st p)
      have h2 := plcL_len O st p
      simp only [List.length_nil, Nat.zero_add] at this
      omega
    have f1 : (shown o x).length ≤ 100000 := by
      have := shown_short (o := o) x
      have := O.le
      omega
    have es : (scrL o st (p ++ [x])).foldl stepL [] = putC ((scrL o st p).foldl stepL []) (shown o x) (min (cost o st x) ((lookC ((scrL o st p).foldl stepL []) (shown o x)).getD 99)) := by
      unfold scrL
      rw [List.map_append, List.foldl_append]
      rfl
    have ep : (plcL o st (p ++ [x])).foldl stepL [] = (plcX o st x).foldl stepL ((plcL o st p).foldl stepL []) := by
      unfold plcL
      rw [List.flatMap_append, List.foldl_append]
      simp
    rw [es, ep]
    generalize (scrL o st p).foldl stepL [] = SD at *
    generalize (plcL o st p).foldl stepL [] = PD at *
    obtain ⟨s5', s9', g5', g9', e2⟩ := place_row (n + 3) O st x FD (.val (tN o)) S1 (.val (tS st)) (.val (tN (shown o x))) (.mdk true ((putC SD (shown o x) (min (cost o st x) ((lookC SD (shown o x)).getD 99))).map encCT)) hi PD l2 s5 s9 g5 g9
    refine ⟨_, _, by simp [g3]; rfl, ?_, .val (tS x), .val (tN (shown o x)), s5', s9', rfl, rfl, g5', g9', rfl⟩
    rw [seq_step (e1 := [.val (tN o), S1, .val (tS st), .val (tS x), .val (tN (shown o x)), s5, .val FD, .mdk true (SD.map encCT), .mdk true (PD.map encCT), s9]) (by simp [e1, g4])]
    have hset : exS (cl (n + 3)) pg.gb (.setIx 7 (.peek 4) (.bi .min2 (.cons (.idx (.peek 6) (.peek 3)) (.cons (.meth .get2 (.peek 7) (.cons (.var 4) (.cons (.cst (.int 99)) .nil))) .nil)))) [.val (tN o), S1, .val (tS st), .val (tS x), .val (tN (shown o x)), s5, .val FD, .mdk true (SD.map encCT), .mdk true (PD.map encCT), s9] = .ok (.next, [.val (tN o), S1, .val (tS st), .val (tS x), .val (tN (shown o x)), s5, .val FD, .mdk true ((putC SD (shown o x) (min (cost o st x) ((lookC SD (shown o x)).getD 99))).map encCT), .mdk true (PD.map encCT), s9]) := by
      have hs1 := set_CT SD (shown o x) (min (cost o st x) ((lookC SD (shown o x)).getD 99)) 7 [.val (tN o), S1, .val (tS st), .val (tS x), .val (tN (shown o x)), s5, .val FD, .mdk true (SD.map encCT), .mdk true (PD.map encCT), s9] rfl (by omega)
      have hg : (dlook (SD.map encCT) (tN (shown o x))).getD (.int 99) = encN ((lookC SD (shown o x)).getD 99) := by
        rw [dlook_enc]
        cases lookC SD (shown o x) <;> rfl
      have ha := ask_tN (shown o x)
      have hm := min_ints (cost o st x) ((lookC SD (shown o x)).getD 99)
      generalize putC SD (shown o x) (min (cost o st x) ((lookC SD (shown o x)).getD 99)) = PF at *
      generalize (lookC SD (shown o x)).getD 99 = gv at *
      generalize min (cost o st x) gv = mv at *
      generalize cost o st x = cv at *
      generalize tN (shown o x) = TX at *
      have hm : (if gv < cv then (gv : Int) else (cv : Int)) = (mv : Int) := by
        rw [← hm]
        by_cases q : gv < cv
        · rw [if_pos q, if_pos (by omega)]
        · rw [if_neg q, if_neg (by omega)]
      have hs1 : setIxD 7 (.fz TX) (.fz (encN mv)) [.val (tN o), S1, .val (tS st), .val (tS x), .val TX, s5, .val FD, .mdk true (SD.map encCT), .mdk true (PD.map encCT), s9] = .ok [.val (tN o), S1, .val (tS st), .val (tS x), .val TX, s5, .val FD, .mdk true (PF.map encCT), .mdk true (PD.map encCT), s9] := hs1
      simp [hi, ha, hg, hm, hs1]
    rw [seq_step hset]
    have he : ((shown o x).map encN).zipIdx.map (fun p => PyData.tuple [.int p.2, p.1]) = (shown o x).zipIdx.map encZ := enum_enc (shown o x) encN
    generalize hE : (shown o x).zipIdx.map encZ = EZ at *
    have hEl : EZ.length ≤ 100000 := by
      rw [← hE, List.length_map, List.length_zipIdx]
      exact f1
    simp [he, hEl, e2])
  exact ⟨s3, s4, s5, s9, g3, g4, g5, g9, h1⟩
theorem keys_CT (d : CT) : (d.map encCT).map (·.1) = (d.map (·.1)).map tN := by
  rw [List.map_map, List.map_map]
  rfl
theorem keys_GD (d : GD) : (d.map encG).map (·.1) = (d.map (·.1)).map tS := by
  rw [List.map_map, List.map_map]
  rfl
theorem items_seq_D (k : Bool) (kvs : List (PyData × PyData)) : itemsD .seq [mkD k kvs] = .ok (kvs.map (·.1)) := rfl
theorem screens_loop (n : Nat) {o : List Nat} (O : Out o) {st : List Bool} (Gst : Good o st) (SD : CT) (hS : ∀ k ∈ SD.map (·.1), ∃ x, Good o x ∧ k = shown o x ∧ lookC SD k = some (dscr o st (shown o x)).length) (S1 s3 s4 s5 s6 s8 s9 : Slot) (g4 : soft (some s4) = true) : ∃ s4', soft (some s4') = true ∧
   forL (exS (cl (n + 5)) pg.gb (.iff (.cmp .ne (.call 16 (.cons (.var 0) (.cons (.var 2) (.cons (.var 4) .nil)))) (.idx (.peek 7) (.peek 4)))
  (.ret (.cst (.bool false)))
  .pass)) (.name 4) ((SD.map (·.1)).map tN) [.val (tN o), S1, .val (tS st), s3, s4, s5, s6, .val (mkD true (SD.map encCT)), s8, s9] = .ok (.next, [.val (tN o), S1, .val (tS st), s3, s4', s5, s6, .val (mkD true (SD.map encCT)), s8, s9]) := by
  have hidx : ∀ k v, lookC SD k = some v → idxD (mkD true (SD.map encCT)) (tN k) = .ok (.fz (encN v)) := fun k v => idx_CT SD k v
  generalize mkD true (SD.map encCT) = FD at *
  obtain ⟨e', h1, s4', g4', rfl⟩ := for_inv (body := exS (cl (n + 5)) pg.gb (.iff (.cmp .ne (.call 16 (.cons (.var 0) (.cons (.var 2) (.cons (.var 4) .nil)))) (.idx (.peek 7) (.peek 4)))
  (.ret (.cst (.bool false)))
  .pass)) (tg := .name 4) tN (fun pre e => ∃ s4, soft (some s4) = true ∧ e = [.val (tN o), S1, .val (tS st), s3, s4, s5, s6, .val FD, s8, s9]) (SD.map (·.1)) [] [.val (tN o), S1, .val (tS st), s3, s4, s5, s6, .val FD, s8, s9] ⟨s4, g4, rfl⟩ (by
    rintro p k q e hp ⟨s4, g4, rfl⟩
    rw [List.nil_append] at hp
    obtain ⟨x, Gx, hk, hv⟩ := hS k (by rw [hp]; simp)
    have e1 := fewest_to_screen_ok n O (s := st) (x := x) Gst
    have e2 := hidx k _ hv
    rw [← hk] at e1 e2
    have e3 := ne_enc_self (dscr o st k).length
    generalize (dscr o st k).length = c at *
    generalize tN k = K at *
    refine ⟨_, _, by simp [g4]; rfl, ?_, .val K, rfl, rfl⟩
    generalize hC : encN c = C at *
    simp [e1, e2, e3])
  exact ⟨s4', g4', h1⟩
theorem rows_check (n : Nat) {o : List Nat} (O : Out o) (h8 : o.length ≤ 8) {st : List Bool} (Gst : Good o st) (PD : CT) (hP : ∀ i r, LeastO (lookC PD [i, r]) fun c => ∃ x, Good o x ∧ (shown o x)[r]? = some i ∧ cost o st x = c) (S1 s3 s4 s6 s7 : Slot) {i : Nat} (hi : i < o.length) (s9 : Slot) (g9 : calmS (some s9) = true) : ∃ s9', calmS (some s9') = true ∧
   exS (cl (n + 18)) pg.gb (.seq (.iff (.cmp .ne (.call 22 (.cons (.var 0) (.cons (.var 5) .nil))) (.comp [9] (.name 9) .rng (.cons (.cst (.int 16)) .nil) (.cmp .in_ (.tup (.cons (.var 5) (.cons (.var 9) .nil))) (.peek 8)) (.var 9)))
  (.ret (.cst (.bool false)))
  .pass)
  (.for_ (.name 9) .rng (.cons (.bin .add (.bi .len (.cons (.peek 0) .nil)) (.cst (.int 2))) .nil)
  (.iff (.cmp .ne (.call 21 (.cons (.var 0) (.cons (.var 2) (.cons (.var 5) (.cons (.var 9) .nil))))) (.meth .get1 (.peek 8) (.cons (.tup (.cons (.var 5) (.cons (.var 9) .nil))) .nil)))
  (.ret (.cst (.bool false)))
  .pass))) [.val (tN o), S1, .val (tS st), s3, s4, .val (encN i), s6, s7, .mdk true (PD.map encCT), s9] = .ok (.next, [.val (tN o), S1, .val (tS st), s3, s4, .val (encN i), s6, s7, .mdk true (PD.map encCT), s9']) := by
  have ho := O.le
  obtain ⟨D, hD, e1⟩ := rows_of_ok n O hi
  have hf : ((List.range 16).filter fun r => (lookN D r).isSome) = (List.range 16).filter fun r => (lookC PD [i, r]).isSome := by
    refine List.filter_congr fun r _ => ?_
    rw [Bool.eq_iff_iff, hD r]
    constructor
    · rintro ⟨x, Gx, h⟩
      obtain ⟨m, hm, _⟩ := (hP i r).least _ ⟨x, Gx, h, rfl⟩
      rw [hm]
      rfl
    · intro h
      cases q : lookC PD [i, r] with
      | none => rw [q] at h; cases h
      | some c =>
        obtain ⟨x, Gx, h, _⟩ := (hP i r).real c q
        exact ⟨x, Gx, h⟩
  rw [hf] at e1
  have e2 := ne_lN_self ((List.range 16).filter fun r => (lookC PD [i, r]).isSome)
  have hin : ∀ r, (dlook (PD.map encCT) (.tuple [encN i, encN r])).isSome = (lookC PD [i, r]).isSome := fun r => by
    have : dlook (PD.map encCT) (tN [i, r]) = _ := dlook_enc [i, r] PD
    show (dlook (PD.map encCT) (tN [i, r])).isSome = _
    rw [this]
    cases lookC PD [i, r] <;> rfl
  have hget : ∀ r, (dlook (PD.map encCT) (.tuple [encN i, encN r])).getD .none = encO (lookC PD [i, r]) := fun r => by
    have : dlook (PD.map encCT) (tN [i, r]) = _ := dlook_enc [i, r] PD
    show (dlook (PD.map encCT) (tN [i, r])).getD .none = _
    rw [this]
    cases lookC PD [i, r] <;> rfl
  have hcmp : ∀ r, cmpD .in_ (.tuple [encN i, encN r]) (mkD true (PD.map encCT)) = .ok (lookC PD [i, r]).isSome := fun r => in_CT PD [i, r]
  have hk : ∀ k, keyI (encN k) = true := fun _ => rfl
  have hrow : ∀ r, r ≤ 15 → cl (n + 18) 21 .non [tN o, tS st, encN i, encN r] = .ok (.fz (encO (lookC PD [i, r])), []) := fun r hr => by
    obtain ⟨D2, R2, e⟩ := fewest_to_row_ok n O Gst hi hr
    rw [e, row_least O Gst hi (a := lookN D2 r) ⟨fun c => R2.real r c, fun c => R2.least r c⟩ (hP i r)]
  obtain ⟨e', h1, s9', g9', rfl⟩ := for_inv (body := exS (cl (n + 18)) pg.gb (.iff (.cmp .ne (.call 21 (.cons (.var 0) (.cons (.var 2) (.cons (.var 5) (.cons (.var 9) .nil))))) (.meth .get1 (.peek 8) (.cons (.tup (.cons (.var 5) (.cons (.var 9) .nil))) .nil)))
  (.ret (.cst (.bool false)))
  .pass)) (tg := .name 9) encN (fun pre e => ∃ s9, calmS (some s9) = true ∧ e = [.val (tN o), S1, .val (tS st), s3, s4, .val (encN i), s6, s7, .mdk true (PD.map encCT), s9]) (List.range (o.length + 2)) [] [.val (tN o), S1, .val (tS st), s3, s4, .val (encN i), s6, s7, .mdk true (PD.map encCT), s9] ⟨s9, g9, rfl⟩ (by
    rintro p r q e hp ⟨s9, g9, rfl⟩
    rw [List.nil_append] at hp
    obtain ⟨rfl, hr⟩ := split_range hp
    have e3 := hrow r (by omega)
    have e4 := ne_encO_self (lookC PD [i, r])
    have e5 := hget r
    refine ⟨_, _, by simp [calm_soft g9]; rfl, ?_, .val (encN r), rfl, rfl⟩
    generalize encO (lookC PD [i, r]) = V at *
    simp [e3, e4, e5, hk])
  refine ⟨s9', g9', ?_⟩
  have h16 := itm_rng (j := 16) (by decide)
  have h16 : itemsD .rng [.int 16] = .ok ((List.range 16).map encN) := h16
  have gs := calm_soft g9
  generalize hL : (List.range 16).filter (fun r => (lookC PD [i, r]).isSome) = L at *
  rw [seq_step (e1 := [.val (tN o), S1, .val (tS st), s3, s4, .val (encN i), s6, s7, .mdk true (PD.map encCT), s9]) (by
    simp [e1, h16, g9]
    rw [comp_map encN (fun r => (lookC PD [i, r]).isSome) encN _ (fun r hr => ⟨_, by simp [gs]; rfl, by simp [hcmp, hin, hk], fun _ => ⟨.fz (encN r), by simp, rfl⟩, rfl⟩)]
    rw [hL]
    simp [e2])]
  have hr2 := itm_rng (j := o.length + 2) (by omega)
  have hcast : ((o.length + 2 : Nat) : Int) = (o.length : Int) + 2 := by omega
  rw [hcast] at hr2
  exact for_rng (vs := [.fz (.int ((o.length : Int) + 2))]) (by simp) rfl hr2 (by simp; omega) h1
theorem law_right_ok (n : Nat) {o : List Nat} (O : Out o) (h8 : o.length ≤ 8) {st : List Bool} (Gst : Good o st) : cl (n + 19) 38 .non [tN o, mkD true ((mvG o (stG o o.length)).map encG), tS st] = .ok (.fz (.bool true), []) := by
  obtain ⟨far, F, e1⟩ := law_distances_ok (n + 17) O h8 Gst
  have e1 : cl (n + 18) 37 .non [mkD true ((mvG o (stG o o.length)).map encG), tS st] = .ok (.fd true (far.map encG), []) := e1
  rw [r__law_right, runF_plain _ _ rfl rfl (by decide)]
  generalize hM : mkD true ((mvG o (stG o o.length)).map encG) = MV at *
  have ho := O.le
  have h256 := st256 (o := o) h8
  have hfl : far.length ≤ 256 := by rw [F.len]; exact h256
  have hks : ∀ x, x ∈ far.map (·.1) ↔ Good o x := fun x => by
    rw [keysG]
    exact ⟨F.key x, fun G => by rw [F.look x G]; simp⟩
  obtain ⟨s3, s4, s5, s9, g3, g4, g5, g9, h1⟩ := states_loop (n + 15) O st far (fun x hx => ⟨(hks x).mp hx, F.look x ((hks x).mp hx)⟩) hfl (.val MV)
  have hPl : ∀ i r, LeastO (lookC ((plcL o st (far.map (·.1))).foldl stepL []) [i, r]) fun c => ∃ x, Good o x ∧ (shown o x)[r]? = some i ∧ cost o st x = c := fun i r => LeastO.imp' (leastL _ (plcL_le O) [i, r]) fun c => by
    rw [mem_plcL]
    exact ⟨fun ⟨x, hx, h⟩ => ⟨x, (hks x).mp hx, h⟩, fun ⟨x, hx, h⟩ => ⟨x, (hks x).mpr hx, h⟩⟩
  have hSl : ∀ k, LeastO (lookC ((scrL o st (far.map (·.1))).foldl stepL []) k) fun c => ∃ x, Good o x ∧ shown o x = k ∧ cost o st x = c := fun k => LeastO.imp' (leastL _ (scrL_le O) k) fun c => by
    rw [mem_scrL]
    exact ⟨fun ⟨x, hx, h⟩ => ⟨x, (hks x).mp hx, h⟩, fun ⟨x, hx, h⟩ => ⟨x, (hks x).mpr hx, h⟩⟩
  have hSlen : ((scrL o st (far.map (·.1))).foldl stepL []).length ≤ 256 := by
    have h1 := stepL_len [] (scrL o st (far.map (·.1)))
    have h2 : (scrL o st (far.map (·.1))).length = far.length := by simp [scrL]
    rw [h2] at h1
    simp only [List.length_nil, Nat.zero_add] at h1
    omega
  generalize (plcL o st (far.map (·.1))).foldl stepL [] = PD at *
  generalize (scrL o st (far.map (·.1))).foldl stepL [] = SD at *
  have hSk : ∀ k ∈ SD.map (·.1), ∃ x, Good o x ∧ k = shown o x ∧ lookC SD k = some (dscr o st (shown o x)).length := fun k hk => by
    have h := (look_keys k SD).mp hk
    cases q : lookC SD k with
    | none => exact absurd q h
    | some c =>
      obtain ⟨x, Gx, hx, _⟩ := (hSl k).real c q
      refine ⟨x, Gx, hx.symm, ?_⟩
      rw [← q]
      refine scr_least O Gst Gx (LeastO.imp' (hSl k) fun c => ?_)
      rw [hx]
  have body : ∃ rest, exS (cl (n + 18)) pg.gb b__law_right.body [.val (tN o), .val MV, .val (tS st), .un, .un, .un, .un, .un, .un, .un] = .ok (.ret (.fz (.bool true)), rest) := by
    unfold b__law_right
    dsimp only
    obtain ⟨s4', g4', h2⟩ := screens_loop (n + 13) O Gst SD hSk (.val MV) s3 s4 s5 (.val (mkD true (far.map encG))) (.mdk true (PD.map encCT)) s9 g4
    obtain ⟨e', h3, s5', s9', g5', g9', rfl⟩ := for_inv (body := exS (cl (n + 18)) pg.gb (.seq (.iff (.cmp .ne (.call 22 (.cons (.var 0) (.cons (.var 5) .nil))) (.comp [9] (.name 9) .rng (.cons (.cst (.int 16)) .nil) (.cmp .in_ (.tup (.cons (.var 5) (.cons (.var 9) .nil))) (.peek 8)) (.var 9)))
  (.ret (.cst (.bool false)))
  .pass)
  (.for_ (.name 9) .rng (.cons (.bin .add (.bi .len (.cons (.peek 0) .nil)) (.cst (.int 2))) .nil)
  (.iff (.cmp .ne (.call 21 (.cons (.var 0) (.cons (.var 2) (.cons (.var 5) (.cons (.var 9) .nil))))) (.meth .get1 (.peek 8) (.cons (.tup (.cons (.var 5) (.cons (.var 9) .nil))) .nil)))
  (.ret (.cst (.bool false)))
  .pass)))) (tg := .name 5) encN (fun pre e => ∃ s5 s9, soft (some s5) = true ∧ calmS (some s9) = true ∧ e = [.val (tN o), .val MV, .val (tS st), s3, s4', s5, .val (mkD true (far.map encG)), .val (mkD true (SD.map encCT)), .mdk true (PD.map encCT), s9]) (List.range o.length) [] [.val (tN o), .val MV, .val (tS st), s3, s4', s5, .val (mkD true (far.map encG)), .val (mkD true (SD.map encCT)), .mdk true (PD.map encCT), s9] ⟨s5, s9, g5, g9, rfl⟩ (by
      rintro p i q e hp ⟨s5, s9, g5, g9, rfl⟩
      rw [List.nil_append] at hp
      obtain ⟨rfl, hi⟩ := split_range hp
      obtain ⟨s9', g9', e2⟩ := rows_check n O h8 Gst PD hPl (.val MV) s3 s4' (.val (mkD true (far.map encG))) (.val (mkD true (SD.map encCT))) hi s9 g9
      exact ⟨_, _, by simp [g5], e2, _, s9', rfl, g9', rfl⟩)
    have k1 := items_seq_D true (far.map encG)
    rw [keys_GD] at k1
    have k2 := items_seq_D true (SD.map encCT)
    rw [keys_CT] at k2
    rw [seq_step (e1 := [.val (tN o), .val MV, .val (tS st), .un, .un, .un, .mdk true (far.map encG), .mdk true [], .mdk true [], .un]) (by simp [e1])]
    have st1 : exS (cl (n + 18)) pg.gb (.for_ (.name 3) .seq (.var 6) (.seq (.asg 4 (.call 31 (.cons (.var 0) (.cons (.var 3) .nil))))
  (.seq (.setIx 7 (.peek 4) (.bi .min2 (.cons (.idx (.peek 6) (.peek 3)) (.cons (.meth .get2 (.peek 7) (.cons (.var 4) (.cons (.cst (.int 99)) .nil))) .nil))))
  (.for_ (.tup [9, 5]) .enum (.cons (.var 4) .nil)
  (.setIx 8 (.tup (.cons (.var 5) (.cons (.var 9) .nil))) (.bi .min2 (.cons (.idx (.peek 6) (.peek 3)) (.cons (.meth .get2 (.peek 8) (.cons (.tup (.cons (.var 5) (.cons (.var 9) .nil))) (.cons (.cst (.int 99)) .nil))) .nil)))))))) [.val (tN o), .val MV, .val (tS st), .un, .un, .un, .mdk true (far.map encG), .mdk true [], .mdk true [], .un] = .ok (.next, [.val (tN o), .val MV, .val (tS st), s3, s4, s5, .val (mkD true (far.map encG)), .mdk true (SD.map encCT), .mdk true (PD.map encCT), s9]) := by
      have fl : ((far.map (·.1)).map tS).length ≤ 100000 := by
        rw [List.length_map, List.length_map]
        omega
      generalize (far.map (·.1)).map tS = KS at *
      generalize hFD : mkD true (far.map encG) = FD at *
      rw [exS_for, itE_seq]
      have hv : (ev (cl (n + 18)) pg.gb (.var 6)).v [.val (tN o), .val MV, .val (tS st), .un, .un, .un, .mdk true (far.map encG), .mdk true [], .mdk true [], .un] = .ok (.fz FD, [.val (tN o), .val MV, .val (tS st), .un, .un, .un, .val FD, .mdk true [], .mdk true [], .un]) := by rw [← hFD]; rfl
      rw [hv]
      show ((itemsD .seq [FD]).bind _).bind _ = _
      rw [k1]
      show (if KS.length ≤ cap then _ else _) = _
      rw [if_pos fl]
      exact h1
    rw [seq_step st1]
    have st2 : exS (cl (n + 18)) pg.gb (.for_ (.name 4) .seq (.var 7)
  (.iff (.cmp .ne (.call 16 (.cons (.var 0) (.cons (.var 2) (.cons (.var 4) .nil)))) (.idx (.peek 7) (.peek 4)))
  (.ret (.cst (.bool false)))
  .pass)) [.val (tN o), .val MV, .val (tS st), s3, s4, s5, .val (mkD true (far.map encG)), .mdk true (SD.map encCT), .mdk true (PD.map encCT), s9] = .ok (.next, [.val (tN o), .val MV, .val (tS st), s3, s4', s5, .val (mkD true (far.map encG)), .val (mkD true (SD.map encCT)), .mdk true (PD.map encCT), s9]) := by
      have fl : ((SD.map (·.1)).map tN).length ≤ 100000 := by
        rw [List.length_map, List.length_map]
        omega
      generalize (SD.map (·.1)).map tN = KS at *
      generalize hFD : mkD true (SD.map encCT) = FD at *
      generalize mkD true (far.map encG) = FG at *
      rw [exS_for, itE_seq]
      have hv : (ev (cl (n + 18)) pg.gb (.var 7)).v [.val (tN o), .val MV, .val (tS st), s3, s4, s5, .val FG, .mdk true (SD.map encCT), .mdk true (PD.map encCT), s9] = .ok (.fz FD, [.val (tN o), .val MV, .val (tS st), s3, s4, s5, .val FG, .val FD, .mdk true (PD.map encCT), s9]) := by rw [← hFD]; rfl
      rw [hv]
      show ((itemsD .seq [FD]).bind _).bind _ = _
      rw [k2]
      show (if KS.length ≤ cap then _ else _) = _
      rw [if_pos fl]
      exact h2
    rw [seq_step st2]
    have hrl := itm_rng (j := o.length) (by omega)
    rw [seq_step (for_rng (vs := [.fz (.int (o.length : Int))]) (by simp) rfl hrl (by simp; omega) h3)]
    exact ⟨[.val (tN o), .val MV, .val (tS st), s3, s4', s5', .val (mkD true (far.map encG)), .val (mkD true (SD.map encCT)), .mdk true (PD.map encCT), s9'], by simp⟩
  obtain ⟨rest, hb⟩ := body
  have hb' : exS (cl (n + 18)) pg.gb b__law_right.body (([tN o, MV, tS st] : List PyData).map Slot.val ++ List.replicate (b__law_right.slots - b__law_right.np) .un) = _ := hb
  rw [hb']
  rfl
end Q13

set_option linter.all false
set_option Elab.async false
set_option maxRecDepth 100000
set_option maxHeartbeats 4000000
namespace Q13
open MP
open PySem (PyData Str)
theorem rows_zero (n : Nat) {o : List Nat} (O : Out o) : cl (n + 18) 22 .non [tN o, .int 0] = .ok (.fr [.int 0], []) := by
  obtain ⟨D, hD, e⟩ := rows_of_ok n O O.pos
  have e : cl (n + 18) 22 .non [tN o, .int 0] = _ := e
  rw [e]
  have G0 : Good o (List.replicate o.length false) := ⟨by simp, fun k hk => by
    unfold sB at hk
    rw [List.getD_eq_getElem?_getD, List.getElem?_replicate] at hk
    split at hk <;> cases hk⟩
  have hp0 : par o 0 = none := by
    cases h : par o 0 with
    | none => rfl
    | some p => exact absurd (par_lt h).1 (Nat.not_lt_zero _)
  have hf : ((List.range 16).filter fun r => (lookN D r).isSome) = (List.range 16).filter fun r => decide (r = 0) := by
    refine List.filter_congr fun r _ => ?_
    rw [Bool.eq_iff_iff, hD r, decide_eq_true_eq]
    constructor
    · rintro ⟨x, Gx, h⟩
      exact (shown_at.mp h).2.2.symm
    · rintro rfl
      exact ⟨_, G0, shown_at.mpr ⟨O.pos, vis_none hp0, rfl⟩⟩
  rw [hf]
  rfl
theorem ne_zero_list : cmpD .ne (.list [.int 0]) (.list [.int 0]) = .ok false := ne_lN_self [0]
theorem law_turn (ns : List Int) (k : Nat) (hk : k ≤ 100) {s2 s3 s4 s5 s6 : Slot} (g2 : soft (some s2) = true) (g3 : soft (some s3) = true) (g4 : soft (some s4) = true) (g5 : soft (some s5) = true) (g6 : soft (some s6) = true) :
   ∃ s2' s3' s4' s5' s6' : Slot, soft (some s2') = true ∧ soft (some s3') = true ∧ soft (some s4') = true ∧ soft (some s5') = true ∧ soft (some s6') = true ∧ exS (cl 60) pg.gb
  (.seq (.asg 2 (.callScr 23 0 (.cons (.var 1) .nil)))
  (.seq (.asg 3 (.callIo 26 2 (.cons (.cst (.int 8)) .nil)))
  (.seq (.asg 4 (.call 36 (.cons (.var 3) (.cons (.lst (.cons (.cst (.str "plain")) .nil)) .nil))))
  (.seq (.for_ (.name 5) .rng (.cons (.cst (.int 3)) .nil)
  (.iff (.not (.call 38 (.cons (.var 3) (.cons (.var 4) (.cons (.callIo 32 2 (.cons (.var 3) .nil)) .nil)))))
  (.ret (.cst (.bool false)))
  .pass))
  (.seq (.asg 6 (.call 22 (.cons (.var 3) (.cons (.cst (.int 0)) .nil))))
  (.seq (.app 6 (.cst .none))
  (.iff (.cmp .ne (.call 22 (.cons (.var 3) (.cons (.cst (.int 0)) .nil))) (.lst (.cons (.cst (.int 0)) .nil)))
  (.ret (.cst (.bool false)))
  .pass))))))) [.scr ns, .val (encN k), s2, s3, s4, s5, s6] = .ok (.next, [.scr ns, .val (encN k), s2', s3', s4', s5', s6']) := by
  obtain ⟨a, b, e1⟩ := bag_ok 59 ns k hk
  obtain ⟨o, a1, b1, e2, O, h8⟩ := law_outline_ok 58 a b 8 (by decide) (by decide)
  have e2 : cl 60 26 (.io [.int a, .int b]) [.int 8] = .ok (.fz (tN o), [.int a1, .int b1]) := e2
  have e3 := law_moves_ok 55 O h8
  have e3 : cl 60 36 .non [tN o, .list [.str "plain"]] = .ok (.fd true ((mvG o (stG o o.length)).map encG), []) := e3
  have e4 := rows_zero 42 O
  have e4 : cl 60 22 .non [tN o, .int 0] = .ok (.fr [.int 0], []) := e4
  have hright : ∀ st, Good o st → cl 60 38 .non [tN o, mkD true ((mvG o (stG o o.length)).map encG), tS st] = .ok (.fz (.bool true), []) := fun st Gst => law_right_ok 41 O h8 Gst
  generalize mvG o (stG o o.length) = mv at *
  obtain ⟨e', h1, r2, r4, r5, ⟨a9, b9, q2⟩, q4, q5, rfl⟩ := for_inv (body := exS (cl 60) pg.gb (.iff (.not (.call 38 (.cons (.var 3) (.cons (.var 4) (.cons (.callIo 32 2 (.cons (.var 3) .nil)) .nil)))))
  (.ret (.cst (.bool false)))
  .pass)) (tg := .name 5) encN (fun pre e => ∃ (r2 r4 r5 : Slot), (∃ a b, r2 = .own [.int a, .int b]) ∧ (r4 = .mdk true (mv.map encG) ∨ r4 = .val (mkD true (mv.map encG))) ∧ soft (some r5) = true ∧ e = [.scr ns, .val (encN k), r2, .val (tN o), r4, r5, s6]) (List.range 3) [] [.scr ns, .val (encN k), .own [.int a1, .int b1], .val (tN o), .mdk true (mv.map encG), s5, s6] ⟨_, _, s5, ⟨a1, b1, rfl⟩, .inl rfl, g5, rfl⟩ (by
    rintro p x q e hp ⟨r2, r4, r5, ⟨a, b, rfl⟩, q4, q5, rfl⟩
    obtain ⟨st, a2, b2, f1, Gst⟩ := law_state_ok 57 a b O
    have f1 : cl 60 32 (.io [.int a, .int b]) [tN o] = .ok (.fz (tS st), [.int a2, .int b2]) := f1
    have f2 := hright st Gst
    refine ⟨[.scr ns, .val (encN k), .own [.int a, .int b], .val (tN o), r4, .val (encN x), s6], [.scr ns, .val (encN k), .own [.int a2, .int b2], .val (tN o), .val (mkD true (mv.map encG)), .val (encN x), s6], by simp [q5], ?_, .own [.int a2, .int b2], .val (mkD true (mv.map encG)), .val (encN x), ⟨a2, b2, rfl⟩, .inr rfl, rfl, rfl⟩
    rcases q4 with rfl | rfl <;> simp [f1, f2])
  refine ⟨r2, .val (tN o), r4, r5, .own [.int 0, .none], by rw [q2]; rfl, rfl, by rcases q4 with rfl | rfl <;> rfl, q5, rfl, ?_⟩
  have hr := itm_rng (j := 3) (by decide)
  have hr : itemsD .rng [.int 3] = .ok ((List.range 3).map encN) := hr
  have hz := ne_zero_list
  rw [seq_step (e1 := [.scr ns, .val (encN k), .own [.int a, .int b], s3, s4, s5, s6]) (by simp [e1, g2])]
  rw [seq_step (e1 := [.scr ns, .val (encN k), .own [.int a1, .int b1], .val (tN o), s4, s5, s6]) (by simp [e2, g3])]
  rw [seq_step (e1 := [.scr ns, .val (encN k), .own [.int a1, .int b1], .val (tN o), .mdk true (mv.map encG), s5, s6]) (by simp [e3, g4])]
  rw [seq_step (for_rng (vs := [.fz (.int 3)]) (by simp) rfl hr (by simp) h1)]
  rw [seq_step (e1 := [.scr ns, .val (encN k), r2, .val (tN o), r4, r5, .own [.int 0]]) (by simp [e4, g6])]
  rw [seq_step (e1 := [.scr ns, .val (encN k), r2, .val (tN o), r4, r5, .own [.int 0, .none]]) (by simp)]
  simp [e4, hz]
theorem law_true : ∀ ns : List Int, ns.length ≤ 63 → MP.run pg.defs pg.gb (60 + 1) 39 (.scr ns) [] = .ok (.fz (.bool true), []) := by
  intro ns hns
  rw [show MP.run pg.defs pg.gb (60 + 1) 39 = runF (cl 60) pg.gb b_law from rfl, runF_scr _ _ _ rfl rfl (by decide)]
  have h : (if (5 : Int) < (ns.length : Int) then (5 : Int) else (ns.length : Int)) + 2 = ((min ns.length 5 + 2 : Nat) : Int) := by
    split <;> omega
  have h2 := itm_rng (j := min ns.length 5 + 2) (by omega)
  rw [← h] at h2
  have body : ∃ rest, exS (cl 60) pg.gb b_law.body [.scr ns, .un, .un, .un, .un, .un, .un] = .ok (.ret (.fz (.bool true)), rest) := by
    unfold b_law
    dsimp only
    obtain ⟨e', h1, s1, s2, s3, s4, s5, s6, g1, g2, g3, g4, g5, g6, rfl⟩ := for_inv (body := exS (cl 60) pg.gb (.seq (.asg 2 (.callScr 23 0 (.cons (.var 1) .nil)))
  (.seq (.asg 3 (.callIo 26 2 (.cons (.cst (.int 8)) .nil)))
  (.seq (.asg 4 (.call 36 (.cons (.var 3) (.cons (.lst (.cons (.cst (.str "plain")) .nil)) .nil))))
  (.seq (.for_ (.name 5) .rng (.cons (.cst (.int 3)) .nil)
  (.iff (.not (.call 38 (.cons (.var 3) (.cons (.var 4) (.cons (.callIo 32 2 (.cons (.var 3) .nil)) .nil)))))
  (.ret (.cst (.bool false)))
  .pass))
  (.seq (.asg 6 (.call 22 (.cons (.var 3) (.cons (.cst (.int 0)) .nil))))
  (.seq (.app 6 (.cst .none))
  (.iff (.cmp .ne (.call 22 (.cons (.var 3) (.cons (.cst (.int 0)) .nil))) (.lst (.cons (.cst (.int 0)) .nil)))
  (.ret (.cst (.bool false)))
  .pass)))))))) (tg := .name 1) encN (fun pre e => ∃ s1 s2 s3 s4 s5 s6 : Slot, soft (some s1) = true ∧ soft (some s2) = true ∧ soft (some s3) = true ∧ soft (some s4) = true ∧ soft (some s5) = true ∧ soft (some s6) = true ∧ e = [.scr ns, s1, s2, s3, s4, s5, s6]) (List.range (min ns.length 5 + 2)) [] [.scr ns, .un, .un, .un, .un, .un, .un] ⟨.un, .un, .un, .un, .un, .un, rfl, rfl, rfl, rfl, rfl, rfl, rfl⟩ (by
      rintro p k q e hp ⟨s1, s2, s3, s4, s5, s6, g1, g2, g3, g4, g5, g6, rfl⟩
      rw [List.nil_append] at hp
      obtain ⟨rfl, hk⟩ := split_range hp
      obtain ⟨s2', s3', s4', s5', s6', q2, q3, q4, q5, q6, h⟩ := law_turn ns k (by omega) g2 g3 g4 g5 g6
      exact ⟨_, _, by simp [g1], h, _, _, _, _, _, _, rfl, q2, q3, q4, q5, q6, rfl⟩)
    rw [seq_step (for_rng (vs := [.fz (.int ((if (5 : Int) < (ns.length : Int) then (5 : Int) else (ns.length : Int)) + 2))]) (by simp) rfl h2 (by simp; omega) h1)]
    exact ⟨[.scr ns, s1, s2, s3, s4, s5, s6], by simp⟩
  obtain ⟨rest, hb⟩ := body
  have hb' : exS (cl 60) pg.gb b_law.body (.scr ns :: (([] : List PyData).map Slot.val ++ List.replicate (b_law.slots - b_law.np) .un)) = .ok (.ret (.fz (.bool true)), rest) := hb
  rw [hb']
  rfl
end Q13

set_option linter.all false
set_option Elab.async false
set_option maxRecDepth 100000
set_option maxHeartbeats 4000000
namespace Q13
open PySem PySem.Spec PyProof.Rows L2 MP
def top (i : Nat) : Stmt := PySem.Challenge.pw_openrows_k13_whole_fewest_clicks_to_scre.main.body.getD i (.Pass ⟨0, 0, 0, 0⟩)
def ix : List (Str × Nat) := (([("is_integer", 9), ("is_outline", 10), ("require_outline", 11), ("require_item", 12), ("parents_of", 13), ("branches_of", 14), ("children", 15), ("roots", 16), ("ancestors", 17), ("good_state", 19), ("require_state", 20), ("rows_shown", 21), ("state_on", 22), ("good_screen", 23), ("require_screen", 24), ("differences", 26), ("fewest_to_screen", 27), ("added", 28), ("sizes", 29), ("trees_before", 30), ("require_row", 31), ("fewest_to_row", 32), ("rows_of", 33), ("_law_bag", 35), ("_law_take", 36)] : List (Str × Nat)) ++ ([("_law_of", 37), ("_law_outline", 38), ("_law_branches", 39), ("_law_parent", 40), ("_law_above", 41), ("_law_below", 42), ("_law_shown", 43), ("_law_state", 44), ("_law_after", 45), ("_law_after_all", 46), ("_law_all_states", 47), ("_law_moves", 48), ("_law_distances", 49), ("_law_right", 50), ("law", 51)] : List (Str × Nat)))
def exs : List Str := ["InvalidOutline", "InvalidItem", "InvalidState", "InvalidScreen", "InvalidRow"]
def tr : Bool := false
def subs : List (List Bool) := [[true, false, false, false, false], [false, true, false, false, false], [false, false, true, false, false], [false, false, false, true, false], [false, false, false, false, true]]
def sub (c d : Nat) : Bool := (subs.getD c []).getD d false
def tb : Tb := ⟨ix.map (·.1), gbs.map (·.1), exs, tr, sub⟩
def n_is_integer : List Str := ["value", "low", "high"]
theorem s_is_integer : FnScope n_is_integer ["value", "low", "high"] (defScope (top 9)) := ⟨by decide +kernel, by decide +kernel, by decide +kernel, by decide +kernel, by decide +kernel, by decide +kernel, by decide +kernel⟩
theorem c_is_integer : chkS tb n_is_integer (defScope (top 9)) b_is_integer.body (.b (defBody (top 9))) = true := by decide +kernel
theorem a_is_integer : BindsF "is_integer" (top 9) ["value", "low", "high"] := fun _ _ _ _ _ _ us hl => match us, hl with | [_, _, _], _ => rfl
theorem k_is_integer : DefSrc tb "is_integer" (top 9) (.fn b_is_integer) := ⟨n_is_integer, _, s_is_integer, rfl, rfl, c_is_integer, a_is_integer⟩
def n_is_outline : List Str := ["value", "one", "other", "depth"]
theorem s_is_outline : FnScope n_is_outline ["value"] (defScope (top 10)) := ⟨by decide +kernel, by decide +kernel, by decide +kernel, by decide +kernel, by decide +kernel, by decide +kernel, by decide +kernel⟩
theorem c_is_outline : chkS tb n_is_outline (defScope (top 10)) b_is_outline.body (.b (defBody (top 10))) = true := by decide +kernel
theorem a_is_outline : BindsF "is_outline" (top 10) ["value"] := fun _ _ _ _ _ _ us hl => match us, hl with | [_], _ => rfl
theorem k_is_outline : DefSrc tb "is_outline" (top 10) (.fn b_is_outline) := ⟨n_is_outline, _, s_is_outline, rfl, rfl, c_is_outline, a_is_outline⟩
def n_require_outline : List Str := ["outline"]
theorem s_require_outline : FnScope n_require_outline ["outline"] (defScope (top 11)) := ⟨by decide +kernel, by decide +kernel, by decide +kernel, by decide +kernel, by decide +kernel, by decide +kernel, by decide +kernel⟩
theorem c_require_outline : chkS tb n_require_outline (defScope (top 11)) b_require_outline.body (.b (defBody (top 11))) = true := by decide +kernel
theorem a_require_outline : BindsF "require_outline" (top 11) ["outline"] := fun _ _ _ _ _ _ us hl => match us, hl with | [_], _ => rfl
theorem k_require_outline : DefSrc tb "require_outline" (top 11) (.fn b_require_outline) := ⟨n_require_outline, _, s_require_outline, rfl, rfl, c_require_outline, a_require_outline⟩
def n_require_item : List Str := ["outline", "item"]
theorem s_require_item : FnScope n_require_item ["outline", "item"] (defScope (top 12)) := ⟨by decide +kernel, by decide +kernel, by decide +kernel, by decide +kernel, by decide +kernel, by decide +kernel, by decide +kernel⟩
theorem c_require_item : chkS tb n_require_item (defScope (top 12)) b_require_item.body (.b (defBody (top 12))) = true := by decide +kernel
theorem a_require_item : BindsF "require_item" (top 12) ["outline", "item"] := fun _ _ _ _ _ _ us hl => match us, hl with | [_, _], _ => rfl
theorem k_require_item : DefSrc tb "require_item" (top 12) (.fn b_require_item) := ⟨n_require_item, _, s_require_item, rfl, rfl, c_require_item, a_require_item⟩
def n_parents_of : List Str := ["outline", "found", "item", "depth", "some", "other"]
theorem s_parents_of : FnScope n_parents_of ["outline"] (defScope (top 13)) := ⟨by decide +kernel, by decide +kernel, by decide +kernel, by decide +kernel, by decide +kernel, by decide +kernel, by decide +kernel⟩
theorem c_parents_of : chkS tb n_parents_of (defScope (top 13)) b_parents_of.body (.b (defBody (top 13))) = true := by decide +kernel
theorem a_parents_of : BindsF "parents_of" (top 13) ["outline"] := fun _ _ _ _ _ _ us hl => match us, hl with | [_], _ => rfl
theorem k_parents_of : DefSrc tb "parents_of" (top 13) (.fn b_parents_of) := ⟨n_parents_of, _, s_parents_of, rfl, rfl, c_parents_of, a_parents_of⟩
def n_branches_of : List Str := ["outline", "item"]
theorem s_branches_of : FnScope n_branches_of ["outline"] (defScope (top 14)) := ⟨by decide +kernel, by decide +kernel, by decide +kernel, by decide +kernel, by decide +kernel, by decide +kernel, by decide +kernel⟩
theorem c_branches_of : chkS tb n_branches_of (defScope (top 14)) b_branches_of.body (.b (defBody (top 14))) = true := by decide +kernel
theorem a_branches_of : BindsF "branches_of" (top 14) ["outline"] := fun _ _ _ _ _ _ us hl => match us, hl with | [_], _ => rfl
theorem k_branches_of : DefSrc tb "branches_of" (top 14) (.fn b_branches_of) := ⟨n_branches_of, _, s_branches_of, rfl, rfl, c_branches_of, a_branches_of⟩
def n_children : List Str := ["outline", "found", "item", "parent"]
theorem s_children : FnScope n_children ["outline"] (defScope (top 15)) := ⟨by decide +kernel, by decide +kernel, by decide +kernel, by decide +kernel, by decide +kernel, by decide +kernel, by decide +kernel⟩
theorem c_children : chkS tb n_children (defScope (top 15)) b_children.body (.b (defBody (top 15))) = true := by decide +kernel
theorem a_children : BindsF "children" (top 15) ["outline"] := fun _ _ _ _ _ _ us hl => match us, hl with | [_], _ => rfl
theorem k_children : DefSrc tb "children" (top 15) (.fn b_children) := ⟨n_children, _, s_children, rfl, rfl, c_children, a_children⟩
def n_roots : List Str := ["outline", "item", "depth"]
theorem s_roots : FnScope n_roots ["outline"] (defScope (top 16)) := ⟨by decide +kernel, by decide +kernel, by decide +kernel, by decide +kernel, by decide +kernel, by decide +kernel, by decide +kernel⟩
theorem c_roots : chkS tb n_roots (defScope (top 16)) b_roots.body (.b (defBody (top 16))) = true := by decide +kernel
theorem a_roots : BindsF "roots" (top 16) ["outline"] := fun _ _ _ _ _ _ us hl => match us, hl with | [_], _ => rfl
theorem k_roots : DefSrc tb "roots" (top 16) (.fn b_roots) := ⟨n_roots, _, s_roots, rfl, rfl, c_roots, a_roots⟩
def n_ancestors : List Str := ["outline", "item", "found", "above"]
theorem s_ancestors : FnScope n_ancestors ["outline", "item"] (defScope (top 17)) := ⟨by decide +kernel, by decide +kernel, by decide +kernel, by decide +kernel, by decide +kernel, by decide +kernel, by decide +kernel⟩
theorem c_ancestors : chkS tb n_ancestors (defScope (top 17)) b_ancestors.body (.b (defBody (top 17))) = true := by decide +kernel
theorem a_ancestors : BindsF "ancestors" (top 17) ["outline", "item"] := fun _ _ _ _ _ _ us hl => match us, hl with | [_, _], _ => rfl
theorem k_ancestors : DefSrc tb "ancestors" (top 17) (.fn b_ancestors) := ⟨n_ancestors, _, s_ancestors, rfl, rfl, c_ancestors, a_ancestors⟩
def n_good_state : List Str := ["outline", "value", "some", "item", "own"]
theorem s_good_state : FnScope n_good_state ["outline", "value"] (defScope (top 19)) := ⟨by decide +kernel, by decide +kernel, by decide +kernel, by decide +kernel, by decide +kernel, by decide +kernel, by decide +kernel⟩
theorem c_good_state : chkS tb n_good_state (defScope (top 19)) b_good_state.body (.b (defBody (top 19))) = true := by decide +kernel
theorem a_good_state : BindsF "good_state" (top 19) ["outline", "value"] := fun _ _ _ _ _ _ us hl => match us, hl with | [_, _], _ => rfl
theorem k_good_state : DefSrc tb "good_state" (top 19) (.fn b_good_state) := ⟨n_good_state, _, s_good_state, rfl, rfl, c_good_state, a_good_state⟩
def n_require_state : List Str := ["outline", "state"]
theorem s_require_state : FnScope n_require_state ["outline", "state"] (defScope (top 20)) := ⟨by decide +kernel, by decide +kernel, by decide +kernel, by decide +kernel, by decide +kernel, by decide +kernel, by decide +kernel⟩
theorem c_require_state : chkS tb n_require_state (defScope (top 20)) b_require_state.body (.b (defBody (top 20))) = true := by decide +kernel
theorem a_require_state : BindsF "require_state" (top 20) ["outline", "state"] := fun _ _ _ _ _ _ us hl => match us, hl with | [_, _], _ => rfl
theorem k_require_state : DefSrc tb "require_state" (top 20) (.fn b_require_state) := ⟨n_require_state, _, s_require_state, rfl, rfl, c_require_state, a_require_state⟩
def n_rows_shown : List Str := ["outline", "state", "item", "above", "shown", "parent"]
theorem s_rows_shown : FnScope n_rows_shown ["outline", "state"] (defScope (top 21)) := ⟨by decide +kernel, by decide +kernel, by decide +kernel, by decide +kernel, by decide +kernel, by decide +kernel, by decide +kernel⟩
theorem c_rows_shown : chkS tb n_rows_shown (defScope (top 21)) b_rows_shown.body (.b (defBody (top 21))) = true := by decide +kernel
theorem a_rows_shown : BindsF "rows_shown" (top 21) ["outline", "state"] := fun _ _ _ _ _ _ us hl => match us, hl with | [_, _], _ => rfl
theorem k_rows_shown : DefSrc tb "rows_shown" (top 21) (.fn b_rows_shown) := ⟨n_rows_shown, _, s_rows_shown, rfl, rfl, c_rows_shown, a_rows_shown⟩
def n_state_on : List Str := ["outline", "screen", "some", "found", "item", "own"]
theorem s_state_on : FnScope n_state_on ["outline", "screen"] (defScope (top 22)) := ⟨by decide +kernel, by decide +kernel, by decide +kernel, by decide +kernel, by decide +kernel, by decide +kernel, by decide +kernel⟩
theorem c_state_on : chkS tb n_state_on (defScope (top 22)) b_state_on.body (.b (defBody (top 22))) = true := by decide +kernel
theorem a_state_on : BindsF "state_on" (top 22) ["outline", "screen"] := fun _ _ _ _ _ _ us hl => match us, hl with | [_, _], _ => rfl
theorem k_state_on : DefSrc tb "state_on" (top 22) (.fn b_state_on) := ⟨n_state_on, _, s_state_on, rfl, rfl, c_state_on, a_state_on⟩
def n_good_screen : List Str := ["outline", "value", "own", "item"]
theorem s_good_screen : FnScope n_good_screen ["outline", "value"] (defScope (top 23)) := ⟨by decide +kernel, by decide +kernel, by decide +kernel, by decide +kernel, by decide +kernel, by decide +kernel, by decide +kernel⟩
theorem c_good_screen : chkS tb n_good_screen (defScope (top 23)) b_good_screen.body (.b (defBody (top 23))) = true := by decide +kernel
theorem a_good_screen : BindsF "good_screen" (top 23) ["outline", "value"] := fun _ _ _ _ _ _ us hl => match us, hl with | [_, _], _ => rfl
theorem k_good_screen : DefSrc tb "good_screen" (top 23) (.fn b_good_screen) := ⟨n_good_screen, _, s_good_screen, rfl, rfl, c_good_screen, a_good_screen⟩
def n_require_screen : List Str := ["outline", "screen"]
theorem s_require_screen : FnScope n_require_screen ["outline", "screen"] (defScope (top 24)) := ⟨by decide +kernel, by decide +kernel, by decide +kernel, by decide +kernel, by decide +kernel, by decide +kernel, by decide +kernel⟩
theorem c_require_screen : chkS tb n_require_screen (defScope (top 24)) b_require_screen.body (.b (defBody (top 24))) = true := by decide +kernel
theorem a_require_screen : BindsF "require_screen" (top 24) ["outline", "screen"] := fun _ _ _ _ _ _ us hl => match us, hl with | [_, _], _ => rfl
theorem k_require_screen : DefSrc tb "require_screen" (top 24) (.fn b_require_screen) := ⟨n_require_screen, _, s_require_screen, rfl, rfl, c_require_screen, a_require_screen⟩
def n_differences : List Str := ["outline", "state", "screen", "shown", "item"]
theorem s_differences : FnScope n_differences ["outline", "state", "screen"] (defScope (top 26)) := ⟨by decide +kernel, by decide +kernel, by decide +kernel, by decide +kernel, by decide +kernel, by decide +kernel, by decide +kernel⟩
theorem c_differences : chkS tb n_differences (defScope (top 26)) b_differences.body (.b (defBody (top 26))) = true := by decide +kernel
theorem a_differences : BindsF "differences" (top 26) ["outline", "state", "screen"] := fun _ _ _ _ _ _ us hl => match us, hl with | [_, _, _], _ => rfl
theorem k_differences : DefSrc tb "differences" (top 26) (.fn b_differences) := ⟨n_differences, _, s_differences, rfl, rfl, c_differences, a_differences⟩
def n_fewest_to_screen : List Str := ["outline", "state", "screen"]
theorem s_fewest_to_screen : FnScope n_fewest_to_screen ["outline", "state", "screen"] (defScope (top 27)) := ⟨by decide +kernel, by decide +kernel, by decide +kernel, by decide +kernel, by decide +kernel, by decide +kernel, by decide +kernel⟩
theorem c_fewest_to_screen : chkS tb n_fewest_to_screen (defScope (top 27)) b_fewest_to_screen.body (.b (defBody (top 27))) = true := by decide +kernel
theorem a_fewest_to_screen : BindsF "fewest_to_screen" (top 27) ["outline", "state", "screen"] := fun _ _ _ _ _ _ us hl => match us, hl with | [_, _, _], _ => rfl
theorem k_fewest_to_screen : DefSrc tb "fewest_to_screen" (top 27) (.fn b_fewest_to_screen) := ⟨n_fewest_to_screen, _, s_fewest_to_screen, rfl, rfl, c_fewest_to_screen, a_fewest_to_screen⟩
def n_added : List Str := ["one", "other", "found", "rows", "clicks", "more", "further", "number"]
theorem s_added : FnScope n_added ["one", "other"] (defScope (top 28)) := ⟨by decide +kernel, by decide +kernel, by decide +kernel, by decide +kernel, by decide +kernel, by decide +kernel, by decide +kernel⟩
theorem c_added : chkS tb n_added (defScope (top 28)) b_added.body (.b (defBody (top 28))) = true := by decide +kernel
theorem a_added : BindsF "added" (top 28) ["one", "other"] := fun _ _ _ _ _ _ us hl => match us, hl with | [_, _], _ => rfl
theorem k_added : DefSrc tb "added" (top 28) (.fn b_added) := ⟨n_added, _, s_added, rfl, rfl, c_added, a_added⟩
def n_sizes : List Str := ["below", "state", "item", "found", "child"]
theorem s_sizes : FnScope n_sizes ["below", "state", "item"] (defScope (top 29)) := ⟨by decide +kernel, by decide +kernel, by decide +kernel, by decide +kernel, by decide +kernel, by decide +kernel, by decide +kernel⟩
theorem c_sizes : chkS tb n_sizes (defScope (top 29)) b_sizes.body (.b (defBody (top 29))) = true := by decide +kernel
theorem a_sizes : BindsF "sizes" (top 29) ["below", "state", "item"] := fun _ _ _ _ _ _ us hl => match us, hl with | [_, _, _], _ => rfl
theorem k_sizes : DefSrc tb "sizes" (top 29) (.fn b_sizes) := ⟨n_sizes, _, s_sizes, rfl, rfl, c_sizes, a_sizes⟩
def n_trees_before : List Str := ["outline", "item", "one", "below", "found", "level", "other"]
theorem s_trees_before : FnScope n_trees_before ["outline", "item"] (defScope (top 30)) := ⟨by decide +kernel, by decide +kernel, by decide +kernel, by decide +kernel, by decide +kernel, by decide +kernel, by decide +kernel⟩
theorem c_trees_before : chkS tb n_trees_before (defScope (top 30)) b_trees_before.body (.b (defBody (top 30))) = true := by decide +kernel
theorem a_trees_before : BindsF "trees_before" (top 30) ["outline", "item"] := fun _ _ _ _ _ _ us hl => match us, hl with | [_, _], _ => rfl
theorem k_trees_before : DefSrc tb "trees_before" (top 30) (.fn b_trees_before) := ⟨n_trees_before, _, s_trees_before, rfl, rfl, c_trees_before, a_trees_before⟩
def n_require_row : List Str := ["row"]
theorem s_require_row : FnScope n_require_row ["row"] (defScope (top 31)) := ⟨by decide +kernel, by decide +kernel, by decide +kernel, by decide +kernel, by decide +kernel, by decide +kernel, by decide +kernel⟩
theorem c_require_row : chkS tb n_require_row (defScope (top 31)) b_require_row.body (.b (defBody (top 31))) = true := by decide +kernel
theorem a_require_row : BindsF "require_row" (top 31) ["row"] := fun _ _ _ _ _ _ us hl => match us, hl with | [_], _ => rfl
theorem k_require_row : DefSrc tb "require_row" (top 31) (.fn b_require_row) := ⟨n_require_row, _, s_require_row, rfl, rfl, c_require_row, a_require_row⟩
def n_fewest_to_row : List Str := ["outline", "state", "item", "row", "found", "other", "above", "below", "one"]
theorem s_fewest_to_row : FnScope n_fewest_to_row ["outline", "state", "item", "row"] (defScope (top 32)) := ⟨by decide +kernel, by decide +kernel, by decide +kernel, by decide +kernel, by decide +kernel, by decide +kernel, by decide +kernel⟩
theorem c_fewest_to_row : chkS tb n_fewest_to_row (defScope (top 32)) b_fewest_to_row.body (.b (defBody (top 32))) = true := by decide +kernel
theorem a_fewest_to_row : BindsF "fewest_to_row" (top 32) ["outline", "state", "item", "row"] := fun _ _ _ _ _ _ us hl => match us, hl with | [_, _, _, _], _ => rfl
theorem k_fewest_to_row : DefSrc tb "fewest_to_row" (top 32) (.fn b_fewest_to_row) := ⟨n_fewest_to_row, _, s_fewest_to_row, rfl, rfl, c_fewest_to_row, a_fewest_to_row⟩
def n_rows_of : List Str := ["outline", "item", "other", "below", "found"]
theorem s_rows_of : FnScope n_rows_of ["outline", "item"] (defScope (top 33)) := ⟨by decide +kernel, by decide +kernel, by decide +kernel, by decide +kernel, by decide +kernel, by decide +kernel, by decide +kernel⟩
theorem c_rows_of : chkS tb n_rows_of (defScope (top 33)) b_rows_of.body (.b (defBody (top 33))) = true := by decide +kernel
theorem a_rows_of : BindsF "rows_of" (top 33) ["outline", "item"] := fun _ _ _ _ _ _ us hl => match us, hl with | [_, _], _ => rfl
theorem k_rows_of : DefSrc tb "rows_of" (top 33) (.fn b_rows_of) := ⟨n_rows_of, _, s_rows_of, rfl, rfl, c_rows_of, a_rows_of⟩
def n__law_bag : List Str := ["script", "k", "cell", "seed"]
theorem s__law_bag : FnScope n__law_bag ["script", "k"] (defScope (top 35)) := ⟨by decide +kernel, by decide +kernel, by decide +kernel, by decide +kernel, by decide +kernel, by decide +kernel, by decide +kernel⟩
theorem c__law_bag : chkS tb n__law_bag (defScope (top 35)) b__law_bag.body (.b (defBody (top 35))) = true := by decide +kernel
theorem a__law_bag : BindsF "_law_bag" (top 35) ["script", "k"] := fun _ _ _ _ _ _ us hl => match us, hl with | [_, _], _ => rfl
theorem k__law_bag : DefSrc tb "_law_bag" (top 35) (.fn b__law_bag) := ⟨n__law_bag, _, s__law_bag, rfl, rfl, c__law_bag, a__law_bag⟩
def n__law_take : List Str := ["bag", "count", "found"]
theorem s__law_take : FnScope n__law_take ["bag", "count"] (defScope (top 36)) := ⟨by decide +kernel, by decide +kernel, by decide +kernel, by decide +kernel, by decide +kernel, by decide +kernel, by decide +kernel⟩
theorem c__law_take : chkS tb n__law_take (defScope (top 36)) b__law_take.body (.b (defBody (top 36))) = true := by decide +kernel
theorem a__law_take : BindsF "_law_take" (top 36) ["bag", "count"] := fun _ _ _ _ _ _ us hl => match us, hl with | [_, _], _ => rfl
theorem k__law_take : DefSrc tb "_law_take" (top 36) (.fn b__law_take) := ⟨n__law_take, _, s__law_take, rfl, rfl, c__law_take, a__law_take⟩
def n__law_of : List Str := ["bag", "some"]
theorem s__law_of : FnScope n__law_of ["bag", "some"] (defScope (top 37)) := ⟨by decide +kernel, by decide +kernel, by decide +kernel, by decide +kernel, by decide +kernel, by decide +kernel, by decide +kernel⟩
theorem c__law_of : chkS tb n__law_of (defScope (top 37)) b__law_of.body (.b (defBody (top 37))) = true := by decide +kernel
theorem a__law_of : BindsF "_law_of" (top 37) ["bag", "some"] := fun _ _ _ _ _ _ us hl => match us, hl with | [_, _], _ => rfl
theorem k__law_of : DefSrc tb "_law_of" (top 37) (.fn b__law_of) := ⟨n__law_of, _, s__law_of, rfl, rfl, c__law_of, a__law_of⟩
def n__law_outline : List Str := ["bag", "most", "turn", "found", "deep", "depth"]
theorem s__law_outline : FnScope n__law_outline ["bag", "most"] (defScope (top 38)) := ⟨by decide +kernel, by decide +kernel, by decide +kernel, by decide +kernel, by decide +kernel, by decide +kernel, by decide +kernel⟩
theorem c__law_outline : chkS tb n__law_outline (defScope (top 38)) b__law_outline.body (.b (defBody (top 38))) = true := by decide +kernel
theorem a__law_outline : BindsF "_law_outline" (top 38) ["bag", "most"] := fun _ _ _ _ _ _ us hl => match us, hl with | [_, _], _ => rfl
theorem k__law_outline : DefSrc tb "_law_outline" (top 38) (.fn b__law_outline) := ⟨n__law_outline, _, s__law_outline, rfl, rfl, c__law_outline, a__law_outline⟩
def n__law_branches : List Str := ["outline", "item"]
theorem s__law_branches : FnScope n__law_branches ["outline"] (defScope (top 39)) := ⟨by decide +kernel, by decide +kernel, by decide +kernel, by decide +kernel, by decide +kernel, by decide +kernel, by decide +kernel⟩
theorem c__law_branches : chkS tb n__law_branches (defScope (top 39)) b__law_branches.body (.b (defBody (top 39))) = true := by decide +kernel
theorem a__law_branches : BindsF "_law_branches" (top 39) ["outline"] := fun _ _ _ _ _ _ us hl => match us, hl with | [_], _ => rfl
theorem k__law_branches : DefSrc tb "_law_branches" (top 39) (.fn b__law_branches) := ⟨n__law_branches, _, s__law_branches, rfl, rfl, c__law_branches, a__law_branches⟩
def n__law_parent : List Str := ["outline", "item", "some", "other"]
theorem s__law_parent : FnScope n__law_parent ["outline", "item"] (defScope (top 40)) := ⟨by decide +kernel, by decide +kernel, by decide +kernel, by decide +kernel, by decide +kernel, by decide +kernel, by decide +kernel⟩
theorem c__law_parent : chkS tb n__law_parent (defScope (top 40)) b__law_parent.body (.b (defBody (top 40))) = true := by decide +kernel
theorem a__law_parent : BindsF "_law_parent" (top 40) ["outline", "item"] := fun _ _ _ _ _ _ us hl => match us, hl with | [_, _], _ => rfl
theorem k__law_parent : DefSrc tb "_law_parent" (top 40) (.fn b__law_parent) := ⟨n__law_parent, _, s__law_parent, rfl, rfl, c__law_parent, a__law_parent⟩
def n__law_above : List Str := ["outline", "item", "found", "here"]
theorem s__law_above : FnScope n__law_above ["outline", "item"] (defScope (top 41)) := ⟨by decide +kernel, by decide +kernel, by decide +kernel, by decide +kernel, by decide +kernel, by decide +kernel, by decide +kernel⟩
theorem c__law_above : chkS tb n__law_above (defScope (top 41)) b__law_above.body (.b (defBody (top 41))) = true := by decide +kernel
theorem a__law_above : BindsF "_law_above" (top 41) ["outline", "item"] := fun _ _ _ _ _ _ us hl => match us, hl with | [_, _], _ => rfl
theorem k__law_above : DefSrc tb "_law_above" (top 41) (.fn b__law_above) := ⟨n__law_above, _, s__law_above, rfl, rfl, c__law_above, a__law_above⟩
def n__law_below : List Str := ["outline", "item", "other"]
theorem s__law_below : FnScope n__law_below ["outline", "item"] (defScope (top 42)) := ⟨by decide +kernel, by decide +kernel, by decide +kernel, by decide +kernel, by decide +kernel, by decide +kernel, by decide +kernel⟩
theorem c__law_below : chkS tb n__law_below (defScope (top 42)) b__law_below.body (.b (defBody (top 42))) = true := by decide +kernel
theorem a__law_below : BindsF "_law_below" (top 42) ["outline", "item"] := fun _ _ _ _ _ _ us hl => match us, hl with | [_, _], _ => rfl
theorem k__law_below : DefSrc tb "_law_below" (top 42) (.fn b__law_below) := ⟨n__law_below, _, s__law_below, rfl, rfl, c__law_below, a__law_below⟩
def n__law_shown : List Str := ["outline", "state", "found", "item", "one"]
theorem s__law_shown : FnScope n__law_shown ["outline", "state"] (defScope (top 43)) := ⟨by decide +kernel, by decide +kernel, by decide +kernel, by decide +kernel, by decide +kernel, by decide +kernel, by decide +kernel⟩
theorem c__law_shown : chkS tb n__law_shown (defScope (top 43)) b__law_shown.body (.b (defBody (top 43))) = true := by decide +kernel
theorem a__law_shown : BindsF "_law_shown" (top 43) ["outline", "state"] := fun _ _ _ _ _ _ us hl => match us, hl with | [_, _], _ => rfl
theorem k__law_shown : DefSrc tb "_law_shown" (top 43) (.fn b__law_shown) := ⟨n__law_shown, _, s__law_shown, rfl, rfl, c__law_shown, a__law_shown⟩
def n__law_state : List Str := ["bag", "outline", "item", "some", "way", "wide", "found"]
theorem s__law_state : FnScope n__law_state ["bag", "outline"] (defScope (top 44)) := ⟨by decide +kernel, by decide +kernel, by decide +kernel, by decide +kernel, by decide +kernel, by decide +kernel, by decide +kernel⟩
theorem c__law_state : chkS tb n__law_state (defScope (top 44)) b__law_state.body (.b (defBody (top 44))) = true := by decide +kernel
theorem a__law_state : BindsF "_law_state" (top 44) ["bag", "outline"] := fun _ _ _ _ _ _ us hl => match us, hl with | [_, _], _ => rfl
theorem k__law_state : DefSrc tb "_law_state" (top 44) (.fn b__law_state) := ⟨n__law_state, _, s__law_state, rfl, rfl, c__law_state, a__law_state⟩
def n__law_after : List Str := ["outline", "state", "click_so", "some", "kind_so", "item", "found", "own", "other"]
theorem s__law_after : FnScope n__law_after ["outline", "state", "click_so"] (defScope (top 45)) := ⟨by decide +kernel, by decide +kernel, by decide +kernel, by decide +kernel, by decide +kernel, by decide +kernel, by decide +kernel⟩
theorem c__law_after : chkS tb n__law_after (defScope (top 45)) b__law_after.body (.b (defBody (top 45))) = true := by decide +kernel
theorem a__law_after : BindsF "_law_after" (top 45) ["outline", "state", "click_so"] := fun _ _ _ _ _ _ us hl => match us, hl with | [_, _, _], _ => rfl
theorem k__law_after : DefSrc tb "_law_after" (top 45) (.fn b__law_after) := ⟨n__law_after, _, s__law_after, rfl, rfl, c__law_after, a__law_after⟩
def n__law_after_all : List Str := ["outline", "state", "clicks_so", "click_so"]
theorem s__law_after_all : FnScope n__law_after_all ["outline", "state", "clicks_so"] (defScope (top 46)) := ⟨by decide +kernel, by decide +kernel, by decide +kernel, by decide +kernel, by decide +kernel, by decide +kernel, by decide +kernel⟩
theorem c__law_after_all : chkS tb n__law_after_all (defScope (top 46)) b__law_after_all.body (.b (defBody (top 46))) = true := by decide +kernel
theorem a__law_after_all : BindsF "_law_after_all" (top 46) ["outline", "state", "clicks_so"] := fun _ _ _ _ _ _ us hl => match us, hl with | [_, _, _], _ => rfl
theorem k__law_after_all : DefSrc tb "_law_after_all" (top 46) (.fn b__law_after_all) := ⟨n__law_after_all, _, s__law_after_all, rfl, rfl, c__law_after_all, a__law_after_all⟩
def n__law_all_states : List Str := ["outline", "item", "found", "some", "later", "state"]
theorem s__law_all_states : FnScope n__law_all_states ["outline"] (defScope (top 47)) := ⟨by decide +kernel, by decide +kernel, by decide +kernel, by decide +kernel, by decide +kernel, by decide +kernel, by decide +kernel⟩
theorem c__law_all_states : chkS tb n__law_all_states (defScope (top 47)) b__law_all_states.body (.b (defBody (top 47))) = true := by decide +kernel
theorem a__law_all_states : BindsF "_law_all_states" (top 47) ["outline"] := fun _ _ _ _ _ _ us hl => match us, hl with | [_], _ => rfl
theorem k__law_all_states : DefSrc tb "_law_all_states" (top 47) (.fn b__law_all_states) := ⟨n__law_all_states, _, s__law_all_states, rfl, rfl, c__law_all_states, a__law_all_states⟩
def n__law_moves : List Str := ["outline", "kinds_so", "found", "state", "row", "kind_so", "item", "there"]
theorem s__law_moves : FnScope n__law_moves ["outline", "kinds_so"] (defScope (top 48)) := ⟨by decide +kernel, by decide +kernel, by decide +kernel, by decide +kernel, by decide +kernel, by decide +kernel, by decide +kernel⟩
theorem c__law_moves : chkS tb n__law_moves (defScope (top 48)) b__law_moves.body (.b (defBody (top 48))) = true := by decide +kernel
theorem a__law_moves : BindsF "_law_moves" (top 48) ["outline", "kinds_so"] := fun _ _ _ _ _ _ us hl => match us, hl with | [_, _], _ => rfl
theorem k__law_moves : DefSrc tb "_law_moves" (top 48) (.fn b__law_moves) := ⟨n__law_moves, _, s__law_moves, rfl, rfl, c__law_moves, a__law_moves⟩
def n__law_distances : List Str := ["moves", "start", "found", "level", "later", "state", "click_so", "there"]
theorem s__law_distances : FnScope n__law_distances ["moves", "start"] (defScope (top 49)) := ⟨by decide +kernel, by decide +kernel, by decide +kernel, by decide +kernel, by decide +kernel, by decide +kernel, by decide +kernel⟩
theorem c__law_distances : chkS tb n__law_distances (defScope (top 49)) b__law_distances.body (.b (defBody (top 49))) = true := by decide +kernel
theorem a__law_distances : BindsF "_law_distances" (top 49) ["moves", "start"] := fun _ _ _ _ _ _ us hl => match us, hl with | [_, _], _ => rfl
theorem k__law_distances : DefSrc tb "_law_distances" (top 49) (.fn b__law_distances) := ⟨n__law_distances, _, s__law_distances, rfl, rfl, c__law_distances, a__law_distances⟩
def n__law_right : List Str := ["outline", "moves", "start", "state", "screen", "item", "far", "screens_so", "places", "row"]
theorem s__law_right : FnScope n__law_right ["outline", "moves", "start"] (defScope (top 50)) := ⟨by decide +kernel, by decide +kernel, by decide +kernel, by decide +kernel, by decide +kernel, by decide +kernel, by decide +kernel⟩
theorem c__law_right : chkS tb n__law_right (defScope (top 50)) b__law_right.body (.b (defBody (top 50))) = true := by decide +kernel
theorem a__law_right : BindsF "_law_right" (top 50) ["outline", "moves", "start"] := fun _ _ _ _ _ _ us hl => match us, hl with | [_, _, _], _ => rfl
theorem k__law_right : DefSrc tb "_law_right" (top 50) (.fn b__law_right) := ⟨n__law_right, _, s__law_right, rfl, rfl, c__law_right, a__law_right⟩
def n_law : List Str := ["script", "k", "bag", "outline", "moves", "turn", "told"]
theorem s_law : FnScope n_law ["script"] (defScope (top 51)) := ⟨by decide +kernel, by decide +kernel, by decide +kernel, by decide +kernel, by decide +kernel, by decide +kernel, by decide +kernel⟩
theorem c_law : chkS tb n_law (defScope (top 51)) b_law.body (.b (defBody (top 51))) = true := by decide +kernel
theorem a_law : BindsF "law" (top 51) ["script"] := fun _ _ _ _ _ _ us hl => match us, hl with | [_], _ => rfl
theorem k_law : DefSrc tb "law" (top 51) (.fn b_law) := ⟨n_law, _, s_law, rfl, rfl, c_law, a_law⟩
def pgF : Pg := ⟨PySem.Challenge.pw_openrows_k13_whole_fewest_clicks_to_scre, top, ix, gbs, exs, tr, sub, defs⟩
theorem src : DefsSrc pgF.tb pgF.top pgF.ix pgF.defs := (And.intro k_is_integer (And.intro k_is_outline (And.intro k_require_outline (And.intro k_require_item (And.intro k_parents_of (And.intro k_branches_of (And.intro k_children (And.intro k_roots (And.intro k_ancestors (And.intro k_good_state (And.intro k_require_state (And.intro k_rows_shown (And.intro k_state_on (And.intro k_good_screen (And.intro k_require_screen (And.intro k_differences (And.intro k_fewest_to_screen (And.intro k_added (And.intro k_sizes (And.intro k_trees_before (And.intro k_require_row (And.intro k_fewest_to_row (And.intro k_rows_of (And.intro k__law_bag (And.intro k__law_take (And.intro k__law_of (And.intro k__law_outline (And.intro k__law_branches (And.intro k__law_parent (And.intro k__law_above (And.intro k__law_below (And.intro k__law_shown (And.intro k__law_state (And.intro k__law_after (And.intro k__law_after_all (And.intro k__law_all_states (And.intro k__law_moves (And.intro k__law_distances (And.intro k__law_right (And.intro k_law trivial))))))))))))))))))))))))))))))))))))))))
end Q13

set_option linter.all false
set_option Elab.async false
set_option maxRecDepth 100000
set_option maxHeartbeats 4000000
namespace Q13
open PySem PySem.Spec PyProof.Rows L2 MP
abbrev Rw : PySem.W.OpenRow := PySem.W.OpenLaw.row PySem.Challenge.rw_openrows_k13_whole_fewest_clicks_to_scre
abbrev qv : Program := PySem.W.view Rw.prog [51]
def loose : List Str := ((["OutlineError", "InvalidOutline", "InvalidState", "InvalidItem", "InvalidScreen", "InvalidRow", "ITEMS", "is_integer", "is_outline", "require_outline", "require_item", "parents_of", "branches_of", "children", "roots", "ancestors", "good_state", "require_state", "rows_shown", "state_on", "good_screen", "require_screen", "differences", "fewest_to_screen", "added"] : List Str) ++ (["sizes", "trees_before", "require_row", "fewest_to_row", "rows_of", "_law_bag", "_law_take", "_law_of", "_law_outline", "_law_branches", "_law_parent", "_law_above", "_law_below", "_law_shown", "_law_state", "_law_after", "_law_after_all", "_law_all_states", "_law_moves", "_law_distances", "_law_right"] : List Str))
def ob (s : PySem.W.SharedT) : He.AlX := He.obsX 4 pgF.fa pgF.fn [] [] pgF.ex (HandSHeadRun.getT s)
theorem ob_eq (s : PySem.W.SharedT) : ob s = pgF.hook.obs s.abs := He.obsX_eq (HandSHeadRun.getT_eq s)
theorem run (w : World) : HandSHeadRun.RunEq Rw qv pgF.hook ob 4000 loose w := by
  intro os
  kernel_rfl
end Q13
open PySem PySem.W PySem.Calls PyProof.Rows
theorem PySem.Challenge.cw_openrows_k13_whole_fewest_clicks_to_scre_holds : PySem.Challenge.rw_openrows_k13_whole_fewest_clicks_to_scre.Holds := by
  w_on; o_law
  refine HandSHeadRun.head_any (r := OpenLaw.row PySem.Challenge.rw_openrows_k13_whole_fewest_clicks_to_scre) (q := Q13.qv) (H := Q13.pgF.hook) (ob := Q13.ob) (M := 4000) (loose := Q13.loose) (d := HandSHeadRun.topDef (OpenLaw.row PySem.Challenge.rw_openrows_k13_whole_fewest_clicks_to_scre).prog 51) (kwd := []) Q13.ob_eq
    (by kernel_rfl) (fun s => by kernel_rfl) Q13.run (by kernel_rfl) (by kernel_rfl) (by kernel_rfl) (by rfl) (by first | assumption | decide +kernel) (by decide +kernel) ⟨rfl, rfl, rfl, rfl, rfl, by decide +kernel⟩ ?hw ?hc
  case hw => w_witness2
  case hc => exact MP.Pg.end_ Q13.pgF (l := PySem.Challenge.rw_openrows_k13_whole_fewest_clicks_to_scre) (n := 63) (k := 60) (m := 39) (i := 51) (x := "script") rfl (by decide) (by kernel_rfl) ⟨rfl, by decide, by decide⟩ rfl (y := "law") (by kernel_rfl) (by kernel_rfl) Q13.src (b := Q13.b_law) (by kernel_rfl) (N := Q13.n_law) Q13.s_law rfl rfl Q13.c_law Q13.a_law Q13.law_true
