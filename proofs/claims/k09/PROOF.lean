import PyProof.Rows.All
import HandS.ForMost
import KE.SortData
import Wide.All
import OpenK.AllK
import Wide.FinOn
import HandS.Exc
import HandS.TryMany
import HandS.TupAny
import HandS.TupMul
import HandS.TupLe
import HandS.TupLen
import HandS.Deep
import HandS.IsInst
import HandS.Flow
import HandS.Conv
import HandS.Zip
import KE.KDictKeyed
import HandS.CallSlots
import HandS.TupSets
import HandS.Style
import KE.KDictPairs
import KE.KDictCopyH
import HandS.Comp
import HandS.Dict
import HandS.Defaults
import HandS.Head0
import HandS.Head1
import HandS.Head2
import HandS.HeadEnd
import HandS.HeadHook1
import HandS.HeadHook2
import PySem.Challenge.RW_twobesides_k09_whole_scripts_and_choices
set_option Elab.async false
set_option linter.all false
/-! PP1: a small pure language: values without a heap, expressions, statements, their meaning. -/
namespace PP
open PySem

/-- a value, without the heap -/
inductive PV where
  | non | bl (b : Bool) | int (i : Int) | str (s : Str) | tup (xs : List PV) | lst (xs : List PV) | dic (kvs : List (PV × PV)) | cup | scr (ns : List Int)
  deriving Inhabited

def LIM : Nat := 16777216

/-! ### equality -/
mutual
def peq : PV → PV → Bool
  | .non, .non => true
  | .bl a, .bl b => a == b
  | .bl a, .int j => (if a then 1 else 0) == j
  | .int i, .bl b => i == (if b then 1 else 0)
  | .int i, .int j => i == j
  | .str x, .str y => x == y
  | .tup xs, .tup ys => peqL xs ys
  | .lst xs, .lst ys => peqL xs ys
  | _, _ => false
def peqL : List PV → List PV → Bool
  | [], [] => true
  | x :: xs, y :: ys => peq x y && peqL xs ys
  | _, _ => false
end
/-- data of depth at most n -/
def small : Nat → PV → Bool
  | _, .non => true
  | _, .bl _ => true
  | _, .int _ => true
  | _, .str s => PySem.PyData.strOk s
  | n + 1, .tup xs => xs.all (small n)
  | n + 1, .lst xs => xs.all (small n)
  | _, _ => false
def dat (v : PV) : Bool := small 60 v

mutual
def toD : PV → PyData
  | .non => .none
  | .bl b => .bool b
  | .int i => .int i
  | .str s => .str s
  | .tup xs => .tuple (toDs xs)
  | .lst xs => .list (toDs xs)
  | .dic _ => .dict []
  | .cup => .dict []
  | .scr _ => .dict []
def toDs : List PV → List PyData
  | [] => []
  | x :: xs => toD x :: toDs xs
end

/-! ### results -/
inductive R (α : Type) where
  | ok (a : α) (c : List PV)
  | exc (cl : Str) (arg : PV) (c : List PV)
  | stuck
def R.bind {α β : Type} (x : R α) (f : α → List PV → R β) : R β :=
  match x with
  | .ok a c => f a c
  | .exc cl arg c => .exc cl arg c
  | .stuck => .stuck
/-- in a comprehension no exception is let out -/
def R.calm {α : Type} (x : R α) : R α :=
  match x with
  | .ok a c => .ok a c
  | _ => .stuck
@[simp] theorem R.bind_ok {α β : Type} (a : α) (c : List PV) (f : α → List PV → R β) : (R.ok a c).bind f = f a c := rfl
@[simp] theorem R.bind_exc {α β : Type} (cl : Str) (arg : PV) (c : List PV) (f : α → List PV → R β) : (R.exc cl arg c : R α).bind f = .exc cl arg c := rfl
@[simp] theorem R.bind_stuck {α β : Type} (f : α → List PV → R β) : (R.stuck : R α).bind f = .stuck := rfl
@[simp] theorem R.calm_ok {α : Type} (a : α) (c : List PV) : (R.ok a c).calm = .ok a c := rfl
def guardR {α : Type} (b : Bool) (x : R α) : R α := if b then x else .stuck
@[simp] theorem guardR_true {α : Type} (x : R α) : guardR true x = x := rfl
@[simp] theorem guardR_false {α : Type} (x : R α) : guardR false x = .stuck := rfl
/-- a pure outcome, or none -/
def pureR (x : Option PV) (c : List PV) : R PV :=
  match x with
  | some v => .ok v c
  | none => .stuck
@[simp] theorem pureR_some (v : PV) (c : List PV) : pureR (some v) c = .ok v c := rfl
@[simp] theorem pureR_none (c : List PV) : pureR none c = .stuck := rfl

/-! ### operations on values -/
inductive Bop where | add | sub | mul | fdiv | mod | pow
inductive Cop where | eq | ne | lt | le | gt | ge | is | isn | inn | nin
inductive Ty where | int | bool | str | tuple | list | dict

def mkTup (xs : List PV) : Option PV := if xs.length ≤ LIM then some (.tup xs) else none
def mkLst (xs : List PV) : Option PV := if xs.length ≤ LIM then some (.lst xs) else none
def mkStr (s : Str) : Option PV := if s.length ≤ LIM then some (.str s) else none
def smallI (i : Int) : Bool := decide (-(2 ^ 64) < i ∧ i < 2 ^ 64)
def reps {α : Type} (xs : List α) (n : Nat) : List α := (List.replicate n xs).flatten
def binop : Bop → PV → PV → Option PV
  | .add, .int i, .int j => some (.int (i + j))
  | .add, .str a, .str b => mkStr (a ++ b)
  | .add, .tup xs, .tup ys => mkTup (xs ++ ys)
  | .add, .lst xs, .lst ys => mkLst (xs ++ ys)
  | .sub, .int i, .int j => some (.int (i - j))
  | .mul, .int i, .int j => if smallI i || smallI j then some (.int (i * j)) else none
  | .mul, .tup xs, .int n => if 2 ≤ n ∧ n ≤ 1000 ∧ xs.length ≤ 1000 ∧ 0 < xs.length then some (.tup (reps xs n.toNat)) else none
  | .mul, .lst xs, .int n => if 0 ≤ n ∧ n ≤ 1000 ∧ xs.length ≤ 1000 then some (.lst (reps xs n.toNat)) else none
  | .fdiv, .int i, .int j => if 0 < j ∧ j < 1073741824 then some (.int (i / j)) else none
  | .mod, .int i, .int j => if 0 < j then some (.int (i % j)) else none
  | .pow, .int i, .int j => if 0 ≤ j ∧ j ≤ 1000000 ∧ i.natAbs < 2 ^ 64 then some (.int (i ^ j.toNat)) else none
  | _, _, _ => none
def truth : PV → Option Bool
  | .non => some false
  | .bl b => some b
  | .int i => some (i != 0)
  | .str s => if s.length ≤ LIM then some ((s.length : Int) != 0) else none
  | .tup xs => some (!xs.isEmpty)
  | .lst xs => some (!xs.isEmpty)
  | _ => none
/-- keys of dicts: tuples of data -/
def keyd : Nat → PV → Bool
  | _, .non => true
  | _, .bl _ => true
  | _, .int _ => true
  | _, .str _ => true
  | n + 1, .tup xs => xs.all (keyd n)
  | _, _ => false
def isKey : PV → Bool
  | .tup xs => keyd 8 (.tup xs)
  | _ => false
def dget (kvs : List (PV × PV)) (k : PV) : Option PV :=
  match kvs with
  | [] => none
  | (j, v) :: r => if peq j k then some v else dget r k
def dput (kvs : List (PV × PV)) (k v : PV) : List (PV × PV) :=
  match kvs with
  | [] => [(k, v)]
  | (j, w) :: r => if peq j k then (j, v) :: r else (j, w) :: dput r k v
def blV (o : Option Bool) : Option PV := o.map PV.bl
/-- order of data that are alike; none where they are not -/
def pcmp (a b : PV) : Option Bool := if dat a && dat b && W.alike (toD a) (toD b) then some (W.dataLt (toD a) (toD b)) else none
def isSing : PV → Bool
  | .non => true
  | .bl _ => true
  | _ => false
def pis : PV → PV → Option Bool
  | .non, .non => some true
  | _, .non => some false
  | .bl a, .bl b => some (a == b)
  | _, _ => none
def pin (x : PV) : PV → Option Bool
  | .tup ys => if dat x && dat (.tup ys) then some (ys.any fun y => peq y x) else none
  | .lst ys => if dat x && dat (.lst ys) then some (ys.any fun y => peq y x) else none
  | .dic kvs => if isKey x then some (dget kvs x).isSome else none
  | _ => none
def cmpop : Cop → PV → PV → Option PV
  | .eq, a, b => if dat a && dat b then some (.bl (peq a b)) else none
  | .ne, a, b => if dat a && dat b then some (.bl (!peq a b)) else none
  | .lt, .int i, .int j => some (.bl (decide (i < j)))
  | .le, .int i, .int j => some (.bl (decide (i ≤ j)))
  | .gt, .int i, .int j => some (.bl (decide (j < i)))
  | .ge, .int i, .int j => some (.bl (decide (j ≤ i)))
  | .lt, .tup xs, .tup ys => blV (pcmp (.tup xs) (.tup ys))
  | .is, a, b => blV (pis a b)
  | .isn, a, b => blV ((pis a b).map (!·))
  | .inn, a, b => blV (pin a b)
  | .nin, a, b => blV ((pin a b).map (!·))
  | _, _, _ => none
def isTy : Ty → PV → Option Bool
  | _, .cup => none
  | _, .scr _ => none
  | _, .dic _ => none
  | .int, .int _ => some true
  | .int, .bl _ => some true
  | .bool, .bl _ => some true
  | .str, .str _ => some true
  | .tuple, .tup _ => some true
  | .list, .lst _ => some true
  | _, _ => some false
/-- the place that an index means -/
def ixP (n : Nat) (i : Int) : Option Nat := if 0 ≤ i then (if i < n then some i.toNat else none) else if -(n : Int) ≤ i then some (i + n).toNat else none
def item (o i : PV) (c : List PV) : Option PV :=
  match o, i with
  | .tup xs, .int i => (ixP xs.length i).bind fun j => xs[j]?
  | .lst xs, .int i => (ixP xs.length i).bind fun j => xs[j]?
  | .cup, .int i => (ixP c.length i).bind fun j => c[j]?
  | .str s, .int i => if LIM < s.length then none else (ixP s.length i).bind fun j => (s.cps[j]?).map fun d => .str ⟨#[d]⟩
  | .dic kvs, k => if isKey k then dget kvs k else none
  | _, _ => none
/-- a slice's bound as a place among n (d where it is left out) -/
def sIxP (n d : Nat) : Option Int → Nat
  | none => d
  | some v => if v < 0 then (v + (n : Int)).toNat else min v.toNat n
def cutP {α : Type} (xs : List α) (lo hi : Option Int) : List α := (xs.drop (sIxP xs.length 0 lo)).take (sIxP xs.length xs.length hi - sIxP xs.length 0 lo)
def slice (o : PV) (lo hi : Option Int) : Option PV :=
  match o with
  | .tup xs => some (.tup (cutP xs lo hi))
  | .lst xs => some (.lst (cutP xs lo hi))
  | _ => none
/-- builtins -/
inductive Blt where | len | tuple | list | dict | abs | int | min2 | max2 | sum | all | any | sorted | listRange1 | listRange2 | tupRange1 | tupRange2 | lenSet | sortedSet | maxL | minL | rev | max3
inductive Mth where | count | index | get2 | valuesL
def rng (a b : Int) : List PV := (List.range (b - a).toNat).map fun i => PV.int (a + (i : Nat))
def okR (i : Int) : Bool := decide (-(2 ^ 62) ≤ i ∧ i < 2 ^ 62)
def asInts : List PV → Option (List Int)
  | [] => some []
  | .int i :: r => (asInts r).map (i :: ·)
  | _ => none
def asBools : List PV → Option (List Bool)
  | [] => some []
  | .bl i :: r => (asBools r).map (i :: ·)
  | _ => none
def asPairs : List PV → Option (List (PV × PV))
  | [] => some []
  | .tup [k, v] :: r => if isKey k then (asPairs r).map ((k, v) :: ·) else none
  | _ => none
def distK : List (PV × PV) → Bool
  | [] => true
  | (k, _) :: r => (dget r k).isNone && distK r
def dputAll : List (PV × PV) → List (PV × PV) → List (PV × PV)
  | acc, [] => acc
  | acc, (k, v) :: r => dputAll (dput acc k v) r
/-- the items of a list without repetition, the first of equal ones -/
def dedup : List PV → List PV → List PV
  | acc, [] => acc
  | acc, x :: r => if acc.any (fun y => peq y x) then dedup acc r else dedup (acc ++ [x]) r
def pairwise (p : PV → PV → Bool) : List PV → Bool
  | [] => true
  | x :: r => r.all (p x) && pairwise p r
def alikeAll2 (xs : List PV) : Bool := xs.all fun x => xs.all fun y => W.alike (toD x) (toD y)
def tupNE : PV → Bool
  | .tup (_ :: _) => true
  | _ => false
def notTup : PV → Bool
  | .non => false
  | .tup _ => false
  | _ => true
def ple (a b : PV) : Bool := !W.dataLt (toD b) (toD a)
def isTup : PV → Bool
  | .tup _ => true
  | _ => false
def tupE0 : List PV → Bool
  | .tup [] :: r => r.all isTup
  | _ => false
def psort (xs : List PV) : Option PV := if xs.length ≤ LIM && xs.all dat && alikeAll2 xs && (xs.all tupNE || xs.all notTup || tupE0 xs) then some (.lst (xs.mergeSort ple)) else none
def seqOf : PV → Option (List PV)
  | .tup xs => some xs
  | .lst xs => some xs
  | _ => none
/-- pairs of small numbers -/
def asPrs : List PV → Option (List (Int × Int))
  | [] => some []
  | .tup [.int a, .int b] :: r => if 0 ≤ a ∧ a < 64 ∧ 0 ≤ b ∧ b < 64 then (asPrs r).map ((a, b) :: ·) else none
  | _ => none
def prLe (p q : Int × Int) : Bool := decide (p.1 * 64 + p.2 ≤ q.1 * 64 + q.2)
def sortPr (ps : List (Int × Int)) : List (Int × Int) := ps.eraseDups.mergeSort prLe
def prV (p : Int × Int) : PV := .tup [.int p.1, .int p.2]
def bltop : Blt → List PV → Option PV
  | .len, [.tup xs] => some (.int xs.length)
  | .len, [.lst xs] => some (.int xs.length)
  | .len, [.str s] => if s.length ≤ LIM then some (.int s.length) else none
  | .len, [.dic kvs] => some (.int kvs.length)
  | .tuple, [.tup xs] => some (.tup xs)
  | .tuple, [.lst xs] => some (.tup xs)
  | .list, [.tup xs] => some (.lst xs)
  | .list, [.lst xs] => some (.lst xs)
  | .list, [.scr ns] => some (.lst (ns.map .int))
  | .dict, [.lst xs] => (asPairs xs).bind fun ps => if xs.length ≤ LIM && distK ps then some (.dic ps) else none
  | .abs, [.int i] => some (.int (if i < 0 then -i else i))
  | .int, [.int i] => some (.int i)
  | .int, [.bl b] => some (.int (if b then 1 else 0))
  | .min2, [.int i, .int j] => some (.int (if j < i then j else i))
  | .max2, [.int i, .int j] => some (.int (if j > i then j else i))
  | .sum, [.lst xs] => (asInts xs).map fun is => .int is.sum
  | .all, [.lst xs] => (asBools xs).map fun bs => .bl (bs.all id)
  | .any, [.lst xs] => (asBools xs).map fun bs => .bl (bs.any id)
  | .sorted, [.lst xs] => psort xs
  | .listRange1, [.int b] => if okR b && decide (b ≤ 16777216) then some (.lst (rng 0 b)) else none
  | .listRange2, [.int a, .int b] => if okR a && okR b && decide (b - a ≤ 16777216) then some (.lst (rng a b)) else none
  | .tupRange1, [.int b] => if okR b && decide (b ≤ 16777216) then some (.tup (rng 0 b)) else none
  | .tupRange2, [.int a, .int b] => if okR a && okR b && decide (b - a ≤ 16777216) then some (.tup (rng a b)) else none
  | .lenSet, [v] => (seqOf v).bind fun xs => (asInts xs).bind fun is => if is.length < 64 then some (.int (PyProof.Rows.firstMet (fun i => is.getD i 0) is.length).length) else none
  | .sortedSet, [v] => (seqOf v).bind fun xs => (asPrs xs).bind fun ps => if ps.length < 64 then some (.lst ((sortPr ps).map prV)) else none
  | .rev, [.tup xs] => some (.tup xs.reverse)
  | .rev, [.lst xs] => some (.lst xs.reverse)
  | .max3, [.int i, .int j, .int k] => some (.int (max i (max j k)))
  | .maxL, [.lst xs] => (asInts xs).bind fun is => is.max?.map .int
  | .minL, [.lst xs] => (asInts xs).bind fun is => is.min?.map .int
  | _, _ => none
def idxOf (x : PV) : List PV → Nat → Option Nat
  | [], _ => none
  | y :: r, n => if peq y x then some n else idxOf x r (n + 1)
def recv : Mth → PV → Bool
  | .count, .lst _ => true
  | .index, .lst _ => true
  | .get2, .dic _ => true
  | .valuesL, .dic _ => true
  | _, _ => false
def mthop : Mth → PV → List PV → Option PV
  | .count, .lst xs, [x] => if dat x && dat (.lst xs) then some (.int (xs.countP fun y => peq y x)) else none
  | .index, .lst xs, [x] => if dat x && dat (.lst xs) then (idxOf x xs 0).map fun (n : Nat) => .int (n : Int) else none
  | .get2, .dic kvs, [k, d] => if isKey k then some ((dget kvs k).getD d) else none
  | _, _, _ => none

/-! ### the syntax -/
inductive Tg where
  | name (i : Nat) | tup (ts : List Tg)
mutual
inductive Ex (FN : Type) where
  | bad
  | con (v : PV)
  | var (i : Nat)
  | bor (i : Nat)
  | bin (o : Bop) (a b : Ex FN)
  | neg (a : Ex FN)
  | nt (a : Ex FN)
  | and (a b : Ex FN)
  | or (a b : Ex FN)
  | ite (c a b : Ex FN)
  | cmp (o : Cop) (a b : Ex FN)
  | chain (a b d : Ex FN)
  | tup (es : List (Ex FN))
  | lst (es : List (Ex FN))
  | ix (a b : Ex FN)
  | sl (a : Ex FN) (lo hi : Option (Ex FN))
  | call (f : FN) (es : List (Ex FN))
  | blt (b : Blt) (es : List (Ex FN))
  | mth (m : Mth) (a : Ex FN) (es : List (Ex FN))
  | isin (a : Ex FN) (t : Ty)
  | pick (ks : List Str) (es : List (Ex FN)) (e : Ex FN)
  | comp (vs : List Nat) (e : Ex FN) (t : Tg) (it : Ie FN) (cond : Option (Ex FN))
  | comp2 (vs vs1 : List Nat) (e : Ex FN) (t : Tg) (it : Ie FN) (cond : Option (Ex FN)) (t1 : Tg) (it1 : Ie FN) (cond1 : Option (Ex FN))
inductive Ie (FN : Type) where
  | seq (e : Ex FN)
  | range1 (a : Ex FN)
  | range2 (a b : Ex FN)
  | zip (a b : Ex FN)
  | enum (a : Ex FN)
end


inductive Sm (FN : Type) where
  | bad
  | par (oi : Bool) (i : Nat) (a : Ex FN) (oj : Bool) (j : Nat) (b : Ex FN)
  | asg (t : Tg) (e : Ex FN)
  | own (i : Nat) (e : Ex FN)
  | frz (is : List Nat)
  | app (i : Nat) (e : Ex FN)
  | popS (t : Tg) (i : Nat) (e : Option (Ex FN))
  | setD (i : Nat) (k v : Ex FN)
  | setC (i : Nat) (j : Nat) (v : Ex FN)
  | ife (c : Ex FN) (a b : List (Sm FN))
  | fr (t : Tg) (it : Ie FN) (b : List (Sm FN))
  | whl (c : Ex FN) (b : List (Sm FN))
  | ret (e : Ex FN)
  | retCup (es : List (Ex FN))
  | addPop (k i : Nat) (e : Ex FN)
  | rse (cl : Str)
  | exp (e : Ex FN)

/-! ### meaning -/
inductive Slot where
  | no | val (v : PV) | own (v : PV)
abbrev Env := List Slot
def ownO : Option PV → Option PV
  | some (.lst xs) => some (.lst xs)
  | some (.dic k) => some (.dic k)
  | _ => none
def slotR (o : Bool) (x : R PV) : R Slot := x.bind fun z c => if o then (match ownO (some z) with
  | some v => .ok (.own v) c
  | none => .stuck) else .ok (.val z) c
def varv (env : Env) (i : Nat) : Option PV := match env[i]? with
  | some (.val v) => some v
  | _ => none
def borv (env : Env) (i : Nat) : Option PV := match env[i]? with
  | some (.val v) => some v
  | some (.own v) => some v
  | _ => none
def wipeP (env : Env) : List Nat → Env
  | [] => env
  | v :: vs => (wipeP env vs).set v .no
mutual
def bindT : Tg → PV → Env → Option Env
  | .name i, v, env => some (env.set i (.val v))
  | .tup ts, v, env => match v with
    | .tup xs => bindTs ts xs env
    | _ => none
def bindTs : List Tg → List PV → Env → Option Env
  | [], [], env => some env
  | t :: ts, x :: xs, env => match bindT t x env with
    | some env' => bindTs ts xs env'
    | none => none
  | _, _, _ => none
end
/-- the turns of a comprehension: what each one puts out; n items are there already -/
def loopC (f : PV → Nat → List PV → R (List PV)) : List PV → Nat → List PV → R (List PV)
  | [], _, c => .ok [] c
  | x :: r, n, c => ((f x n c).calm).bind fun ys c => (loopC f r (n + ys.length) c).bind fun zs c => .ok (ys ++ zs) c
def truthR (x : R PV) : R Bool := x.bind fun v c => match truth v with
  | some b => .ok b c
  | none => .stuck
def optI : PV → Option Int
  | .int i => some i
  | _ => none
def zipV : List PV → List PV → List PV
  | x :: xs, y :: ys => .tup [x, y] :: zipV xs ys
  | _, _ => []
def enumV : Nat → List PV → List PV
  | _, [] => []
  | n, x :: xs => .tup [.int n, x] :: enumV (n + 1) xs
def asSeq : PV → Option (List PV)
  | .tup xs => some xs
  | .lst xs => some xs
  | .str s => some (s.cps.toList.map fun d => .str ⟨#[d]⟩)
  | _ => none
/-- {k: v, ..}[x] -/
def pickV : List Str → List PV → Str → Option PV
  | k :: ks, v :: vs, s => if k = s then some v else pickV ks vs s
  | _, _, _ => none
def pickR (ks : List Str) (vs : List PV) (x : PV) (c : List PV) : R PV := match x with
  | .str s => pureR (pickV ks vs s) c
  | _ => .stuck
def seqR (o : Option (List PV)) (c : List PV) : R (List PV) := match o with
  | some xs => .ok xs c
  | none => .stuck
section
variable {FN : Type} (C : FN → List PV → List PV → R PV)
mutual
def evalE : Ex FN → Env → List PV → R PV
  | .bad, _, _ => .stuck
  | .con v, _, c => .ok v c
  | .var i, env, c => pureR (varv env i) c
  | .bor i, env, c => pureR (borv env i) c
  | .bin o a b, env, c => (evalE a env c).bind fun x c => (evalE b env c).bind fun y c => pureR (binop o x y) c
  | .neg a, env, c => (evalE a env c).bind fun x c => match x with
    | .int i => .ok (.int (-i)) c
    | _ => .stuck
  | .nt a, env, c => (truthR (evalE a env c)).bind fun b c => .ok (.bl (!b)) c
  | .and a b, env, c => (evalE a env c).bind fun x c => match truth x with
    | some true => evalE b env c
    | some false => .ok x c
    | none => .stuck
  | .or a b, env, c => (evalE a env c).bind fun x c => match truth x with
    | some true => .ok x c
    | some false => evalE b env c
    | none => .stuck
  | .ite t a b, env, c => (truthR (evalE t env c)).bind fun k c => if k then evalE a env c else evalE b env c
  | .cmp o a b, env, c => (evalE a env c).bind fun x c => (evalE b env c).bind fun y c => pureR (cmpop o x y) c
  | .chain a b d, env, c => (evalE a env c).bind fun x c => (evalE b env c).bind fun y c => match cmpop .le x y with
    | some (.bl true) => (evalE d env c).bind fun z c => pureR (cmpop .le y z) c
    | some (.bl false) => .ok (.bl false) c
    | _ => .stuck
  | .tup es, env, c => (evalEs es env c).bind fun xs c => pureR (mkTup xs) c
  | .lst es, env, c => (evalEs es env c).bind fun xs c => pureR (mkLst xs) c
  | .ix a b, env, c => (evalE a env c).bind fun x c => (evalE b env c).bind fun y c => pureR (item x y c) c
  | .sl a lo hi, env, c => (evalE a env c).bind fun x c => (evalO lo env c).bind fun l c => (evalO hi env c).bind fun h c => pureR (slice x l h) c
  | .call f es, env, c => (evalEs es env c).bind fun xs c => C f xs c
  | .blt b es, env, c => (evalEs es env c).bind fun xs c => pureR (bltop b xs) c
  | .mth m a es, env, c => (evalE a env c).bind fun x c => guardR (recv m x) ((evalEs es env c).bind fun xs c => pureR (mthop m x xs) c)
  | .isin a t, env, c => (evalE a env c).bind fun x c => pureR (blV (isTy t x)) c
  | .pick ks es e, env, c => (evalEs es env c).bind fun vs c => (evalE e env c).bind fun x c => pickR ks vs x c
  | .comp vs e t it cond, env, c => (evalI it env c).bind fun items c =>
      (loopC (fun x n c => match bindT t x (wipeP env vs) with
        | some env1 => (condR cond env1 c).bind fun k c => if k then (evalE e env1 c).bind fun y c => guardR (decide (n < LIM)) (.ok [y] c) else .ok [] c
        | none => .stuck) items 0 c).bind fun ys c => .ok (.lst ys) c
  | .comp2 vs vs1 e t it cond t1 it1 cond1, env, c => (evalI it env c).bind fun items c =>
      (loopC (fun x n c => match bindT t x (wipeP env vs) with
        | some env1 => (condR cond env1 c).bind fun k c => if k then
            ((evalI it1 env1 c).bind fun items1 c => loopC (fun x n c => match bindT t1 x (wipeP env1 vs1) with
              | some env2 => (condR cond1 env2 c).bind fun k c => if k then (evalE e env2 c).bind fun y c => guardR (decide (n < LIM)) (.ok [y] c) else .ok [] c
              | none => .stuck) items1 n c)
          else .ok [] c
        | none => .stuck) items 0 c).bind fun ys c => .ok (.lst ys) c
def evalEs : List (Ex FN) → Env → List PV → R (List PV)
  | [], _, c => .ok [] c
  | e :: r, env, c => (evalE e env c).bind fun x c => (evalEs r env c).bind fun xs c => .ok (x :: xs) c
def evalO : Option (Ex FN) → Env → List PV → R (Option Int)
  | none, _, c => .ok none c
  | some e, env, c => (evalE e env c).bind fun x c => match x with
    | .int i => .ok (some i) c
    | _ => .stuck
def condR : Option (Ex FN) → Env → List PV → R Bool
  | none, _, c => .ok true c
  | some e, env, c => (evalE e env c).bind fun v c => match truth v with
    | some b => .ok b c
    | none => .stuck
def evalI : Ie FN → Env → List PV → R (List PV)
  | .seq e, env, c => (evalE e env c).bind fun x c => seqR (asSeq x) c
  | .range1 a, env, c => (evalE a env c).bind fun x c => match x with
    | .int b => if okR b then .ok (rng 0 b) c else .stuck
    | _ => .stuck
  | .range2 a b, env, c => (evalE a env c).bind fun x c => (evalE b env c).bind fun y c => match x, y with
    | .int i, .int j => if okR i && okR j then .ok (rng i j) c else .stuck
    | _, _ => .stuck
  | .zip a b, env, c => (evalE a env c).bind fun x c => (evalE b env c).bind fun y c => match x, y with
    | .lst xs, .lst ys => .ok (zipV xs ys) c
    | .tup xs, .tup ys => .ok (zipV xs ys) c
    | _, _ => .stuck
  | .enum a, env, c => (evalE a env c).bind fun x c => match x with
    | .lst xs => .ok (enumV 0 xs) c
    | _ => .stuck
end

inductive SR where
  | nx (env : Env) (c : List PV)
  | rt (v : PV) (c : List PV)
  | exc (cl : Str) (arg : PV) (env : Env) (c : List PV)
  | stuck
def SR.bind (x : SR) (f : Env → List PV → SR) : SR := match x with
  | .nx env c => f env c
  | .rt v c => .rt v c
  | .exc cl arg env c => .exc cl arg env c
  | .stuck => .stuck
def R.st {α : Type} (x : R α) (env : Env) (f : α → List PV → SR) : SR := match x with
  | .ok a c => f a c
  | .exc cl arg c => .exc cl arg env c
  | .stuck => .stuck
@[simp] theorem SR.bind_nx (env : Env) (c : List PV) (f : Env → List PV → SR) : (SR.nx env c).bind f = f env c := rfl
@[simp] theorem SR.bind_rt (v : PV) (c : List PV) (f : Env → List PV → SR) : (SR.rt v c).bind f = .rt v c := rfl
@[simp] theorem R.st_ok {α : Type} (a : α) (c : List PV) (env : Env) (f : α → List PV → SR) : (R.ok a c).st env f = f a c := rfl
def optS (o : Option Env) (c : List PV) : SR := match o with
  | some env => .nx env c
  | none => .stuck
@[simp] theorem optS_some (env : Env) (c : List PV) : optS (some env) c = .nx env c := rfl
def forL (f : PV → Env → List PV → SR) : List PV → Env → List PV → SR
  | [], env, c => .nx env c
  | x :: r, env, c => (f x env c).bind fun env c => forL f r env c
def whileN (t : Env → List PV → R Bool) (f : Env → List PV → SR) : Nat → Env → List PV → SR
  | 0, _, _ => .stuck
  | n + 1, env, c => (t env c).st env fun b c => if b then (f env c).bind fun env c => whileN t f n env c else .nx env c
def WN : Nat := 1000000
def frzP (env : Env) : List Nat → Env
  | [] => env
  | i :: r => frzP (match env[i]? with
    | some (.own v) => env.set i (.val v)
    | _ => env) r
def popAt (xs : List PV) (i : Int) : Option (PV × List PV) := if LIM < xs.length then none else (ixP xs.length i).bind fun j => xs[j]?.map fun x => (x, xs.eraseIdx j)
mutual
def execS : Sm FN → Env → List PV → SR
  | .bad, _, _ => .stuck
  | .par oi i a oj j b, env, c => (slotR oi (evalE C a env c)).st env fun s c => (slotR oj (evalE C b env c)).st env fun t c => .nx ((env.set i s).set j t) c
  | .asg t e, env, c => (evalE C e env c).st env fun v c => optS (bindT t v env) c
  | .own i e, env, c => (slotR true (evalE C e env c)).st env fun s c => .nx (env.set i s) c
  | .frz is, env, c => .nx (frzP env is) c
  | .app i e, env, c => match env[i]? with
    | some (.own (.lst xs)) => (evalE C e env c).st env fun v c => if xs.length < LIM then .nx (env.set i (.own (.lst (xs ++ [v])))) c else .stuck
    | _ => .stuck
  | .popS t i none, env, c => match env[i]? with
    | some (.own (.lst xs)) => (match popAt xs (-1) with
      | some (x, r) => optS (bindT t x (env.set i (.own (.lst r)))) c
      | none => .stuck)
    | _ => .stuck
  | .popS t i (some e), env, c => match env[i]? with
    | some (.own (.lst xs)) => (evalE C e env c).st env fun v c => (match v with
      | .int n => (match popAt xs n with
        | some (x, r) => optS (bindT t x (env.set i (.own (.lst r)))) c
        | none => .stuck)
      | _ => .stuck)
    | _ => .stuck
  | .setD i k v, env, c => (evalE C v env c).st env fun v c => (evalE C k env c).st env fun k c => match env[i]? with
    | some (.own (.dic kvs)) => if isKey k && decide (kvs.length < LIM) then .nx (env.set i (.own (.dic (dput kvs k v)))) c else .stuck
    | _ => .stuck
  | .setC i j v, env, c => (evalE C v env c).st env fun v c => match env[i]? with
    | some (.val .cup) => if j < c.length then .nx env (c.set j v) else .stuck
    | _ => .stuck
  | .ife t a b, env, c => (truthR (evalE C t env c)).st env fun k c => if k then execSs a env c else execSs b env c
  | .fr t it b, env, c => (evalI C it env c).st env fun items c => forL (fun x env c => match bindT t x env with
      | some env1 => execSs b env1 c
      | none => .stuck) items env c
  | .whl t b, env, c => whileN (fun env c => truthR (evalE C t env c)) (fun env c => execSs b env c) WN env c
  | .ret e, env, c => (evalE C e env c).st env fun v c => .rt v c
  | .retCup es, env, c => (evalEs C es env c).st env fun xs c => match c with
    | [] => if xs.isEmpty then .stuck else if xs.length ≤ LIM then .rt .cup xs else .stuck
    | _ => .stuck
  | .addPop k i e, env, c => match env[k]?, env[i]? with
    | some (.val (.tup ys)), some (.own (.lst xs)) => (evalE C e env c).st env fun v c => (match v with
      | .int n => (match popAt xs n with
        | some (x, r) => if ys.length < LIM then .nx ((env.set i (.own (.lst r))).set k (.val (.tup (ys ++ [x])))) c else .stuck
        | none => .stuck)
      | _ => .stuck)
    | _, _ => .stuck
  | .rse cl, env, c => .exc cl .non env c
  | .exp e, env, c => (evalE C e env c).st env fun _ c => .nx env c
def execSs : List (Sm FN) → Env → List PV → SR
  | [], env, c => .nx env c
  | s :: r, env, c => (execS s env c).bind fun env c => execSs r env c
end
end
structure FnP (FN : Type) where
  np : Nat
  nl : Nat
  body : List (Sm FN)
def startP (np nl : Nat) (args : List PV) : Env := args.map .val ++ List.replicate (nl - np) .no
def finR (x : SR) : R PV := match x with
  | .nx _ c => .ok .non c
  | .rt v c => .ok v c
  | .exc _ _ _ _ => .stuck
  | .stuck => .stuck
@[simp] theorem finR_rt (v : PV) (c : List PV) : finR (.rt v c) = .ok v c := rfl
@[simp] theorem finR_nx (e : Env) (c : List PV) : finR (.nx e c) = .ok .non c := rfl
def callK {FN : Type} (P : FN → FnP FN) : Nat → FN → List PV → List PV → R PV
  | 0, _, _, _ => .stuck
  | k + 1, f, args, c => if args.length = (P f).np then finR (execSs (callK P k) (P f).body (startP (P f).np (P f).nl args) c) else .stuck
end PP

set_option Elab.async false
set_option linter.all false
set_option maxRecDepth 100000
/-! PP2: what stands for a pure value in the heap. -/
namespace PP
open PySem PySem.Spec PyProof.Rows L2

/-- the ground: program, world, written part -/
structure Wd where
  P : Program
  w : World
  K : PySem.W.Frag
abbrev wd (X : Cx) : Wd := ⟨X.prog, X.w, X.K⟩
/-- what is frozen of the heap; where the cup stands -/
structure Gh where
  F : Hp
  c : Option Addr
/-- at a stands the very object o -/
def objO (a : Addr) (o : Obj) : HO := .ext fun h => h.get? a = some o
mutual
def nk : PV → NestedKey
  | .non => .none
  | .bl b => .num (if b then 1 else 0)
  | .int i => .num i
  | .str s => .text s
  | .tup xs => .tup (nks xs)
  | .lst _ => .none
  | .dic _ => .none
  | .cup => .none
  | .scr _ => .none
def nks : List PV → List NestedKey
  | [] => []
  | x :: xs => nk x :: nks xs
end
mutual
inductive Rp (T : Wd) (g : Gh) : V → PV → Prop
  | non : Rp T g .non .non
  | bl (b : Bool) : Rp T g (.bl b) (.bl b)
  | int (i : Int) : Rp T g (.int i) (.int i)
  | str (s : Str) : Rp T g (.str s) (.str s)
  | tup {a : Addr} {vs : List V} {ps : List PV} : SqT T.K g.F a vs → RpL T g vs ps → Rp T g (.ref a) (.tup ps)
  | lst {a : Addr} {vs : List V} {ps : List PV} : g.F a = some (.lst vs) → RpL T g vs ps → Rp T g (.ref a) (.lst ps)
  | dic {a : Addr} {o : Obj} {es : Array DictEntry} {ep : Nat} {kvs : List (PV × PV)} : g.F a = some (objO a o) → (a == sysModules) = false → o.ExactDict → o.data = .dict es ep → RpD T g es.toList kvs →
      (kvs.map fun p => nk p.1).Nodup → kvs.length ≤ LIM → Rp T g (.ref a) (.dic kvs)
  | cup {a : Addr} : g.c = some a → Rp T g (.ref a) .cup
  | scr {a : Addr} {ns : List Int} : SqL T.K g.F a (ns.map V.int) → Rp T g (.ref a) (.scr ns)
inductive RpL (T : Wd) (g : Gh) : List V → List PV → Prop
  | nil : RpL T g [] []
  | cons {v : V} {p : PV} {vs : List V} {ps : List PV} : Rp T g v p → RpL T g vs ps → RpL T g (v :: vs) (p :: ps)
inductive RpD (T : Wd) (g : Gh) : List DictEntry → List (PV × PV) → Prop
  | nil : RpD T g [] []
  | cons {en : DictEntry} {es : List DictEntry} {ka : Addr} {k v : PV} {vv : V} {kvs : List (PV × PV)} : isKey k = true → en.key = .ref ka → Rp T g (.ref ka) k → en.hash = (nestedKind T.P T.w).hash (nk k) → RelV vv en.val → Rp T g vv v → RpD T g es kvs → RpD T g (en :: es) ((k, v) :: kvs)
end
/-- a dict's object -/
structure DicR (T : Wd) (g : Gh) (a : Addr) (o : Obj) (kvs : List (PV × PV)) : Prop where
  sm : (a == sysModules) = false
  ex : o.ExactDict
  at_ : ∃ es ep, o.data = .dict es ep ∧ RpD T g es.toList kvs
  nd : (kvs.map fun p => nk p.1).Nodup
  len : kvs.length ≤ LIM

section
variable {T : Wd} {g g' : Gh}
theorem RpL.length : ∀ {vs : List V} {ps : List PV}, RpL T g vs ps → vs.length = ps.length
  | _, _, .nil => rfl
  | _, _, .cons _ t => by rw [List.length_cons, List.length_cons, RpL.length t]
theorem RpL.get : ∀ {vs : List V} {ps : List PV} {i : Nat} {p : PV}, RpL T g vs ps → ps[i]? = some p → ∃ v, vs[i]? = some v ∧ Rp T g v p
  | _, _, _, _, .nil, e => by simp at e
  | _, _, 0, _, .cons r _, e => by simp at e; subst e; exact ⟨_, rfl, r⟩
  | _, _, i + 1, p, .cons _ t, e => by
    obtain ⟨v, h1, h2⟩ := RpL.get (i := i) (p := p) t (by simpa using e)
    exact ⟨v, by simpa using h1, h2⟩
theorem RpL.append : ∀ {vs ws : List V} {ps qs : List PV}, RpL T g vs ps → RpL T g ws qs → RpL T g (vs ++ ws) (ps ++ qs)
  | _, _, _, _, .nil, s => s
  | _, _, _, _, .cons r t, s => .cons r (RpL.append t s)
theorem RpL.take : ∀ {vs : List V} {ps : List PV} (n : Nat), RpL T g vs ps → RpL T g (vs.take n) (ps.take n)
  | _, _, 0, _ => .nil
  | _, _, _ + 1, .nil => .nil
  | _, _, n + 1, .cons r t => .cons r (RpL.take n t)
theorem RpL.drop : ∀ {vs : List V} {ps : List PV} (n : Nat), RpL T g vs ps → RpL T g (vs.drop n) (ps.drop n)
  | _, _, 0, r => r
  | _, _, _ + 1, .nil => .nil
  | _, _, n + 1, .cons _ t => RpL.drop n t
theorem RpL.set {v : V} {p : PV} (r : Rp T g v p) : ∀ {vs : List V} {ps : List PV} (i : Nat), RpL T g vs ps → RpL T g (vs.set i v) (ps.set i p)
  | _, _, _, .nil => .nil
  | _, _, 0, .cons _ t => .cons r t
  | _, _, i + 1, .cons q t => .cons q (RpL.set r i t)
theorem RpL.erase : ∀ {vs : List V} {ps : List PV} (i : Nat), RpL T g vs ps → RpL T g (vs.eraseIdx i) (ps.eraseIdx i)
  | _, _, _, .nil => .nil
  | _, _, 0, .cons _ t => t
  | _, _, i + 1, .cons q t => .cons q (RpL.erase i t)
theorem RpL.one {v : V} {p : PV} (r : Rp T g v p) : RpL T g [v] [p] := .cons r .nil
theorem RpL.rep {vs : List V} {ps : List PV} (r : RpL T g vs ps) : ∀ n : Nat, RpL T g (List.replicate n vs).flatten (List.replicate n ps).flatten
  | 0 => .nil
  | n + 1 => by
    rw [List.replicate_succ, List.replicate_succ, List.flatten_cons, List.flatten_cons]
    exact r.append (RpL.rep r n)
theorem RpL.ints : ∀ ns : List Int, RpL T g (ns.map V.int) (ns.map PV.int)
  | [] => .nil
  | n :: r => .cons (.int n) (RpL.ints r)
/-- more is frozen -/
structure Ext (g g' : Gh) : Prop where
  F : ∀ a o, g.F a = some o → g'.F a = some o
  c : ∀ a, g.c = some a → g'.c = some a
theorem Ext.refl : Ext g g := ⟨fun _ _ h => h, fun _ h => h⟩
theorem Ext.rd (x : Ext g g') {a : Addr} {u : HO} (h : Rd g.F a u) : Rd g'.F a u := by
  rcases h with h | ⟨o, h⟩
  · exact .inl (x.F _ _ h)
  · exact .inr ⟨o, x.F _ _ h⟩
theorem Ext.sqT (x : Ext g g') {K : PySem.W.Frag} {a : Addr} {vs : List V} (h : SqT K g.F a vs) : SqT K g'.F a vs := h.imp x.rd fun z => z
theorem Ext.sqL (x : Ext g g') {K : PySem.W.Frag} {a : Addr} {vs : List V} (h : SqL K g.F a vs) : SqL K g'.F a vs := h.imp x.rd fun z => z
mutual
theorem Rp.ext (x : Ext g g') : ∀ {v : V} {p : PV}, Rp T g v p → Rp T g' v p
  | _, _, .non => .non
  | _, _, .bl b => .bl b
  | _, _, .int i => .int i
  | _, _, .str s => .str s
  | _, _, .tup h r => .tup (x.sqT h) (RpL.ext x r)
  | _, _, .lst h r => .lst (x.F _ _ h) (RpL.ext x r)
  | _, _, .dic h sm ex d r nd l => .dic (x.F _ _ h) sm ex d (RpD.ext x r) nd l
  | _, _, .cup h => .cup (x.c _ h)
  | _, _, .scr h => .scr (x.sqL h)
theorem RpL.ext (x : Ext g g') : ∀ {vs : List V} {ps : List PV}, RpL T g vs ps → RpL T g' vs ps
  | _, _, .nil => .nil
  | _, _, .cons r t => .cons (Rp.ext x r) (RpL.ext x t)
theorem RpD.ext (x : Ext g g') : ∀ {es : List DictEntry} {kvs : List (PV × PV)}, RpD T g es kvs → RpD T g' es kvs
  | _, _, .nil => .nil
  | _, _, .cons k e r h rv rp t => .cons k e (Rp.ext x r) h rv (Rp.ext x rp) (RpD.ext x t)
end
theorem DicR.ext (x : Ext g g') {a : Addr} {o : Obj} {kvs : List (PV × PV)} (d : DicR T g a o kvs) : DicR T g' a o kvs :=
  ⟨d.sm, d.ex, let ⟨es, ep, h, r⟩ := d.at_; ⟨es, ep, h, r.ext x⟩, d.nd, d.len⟩
end

/-- the heap: the frozen part, the cup's content -/
structure HR (T : Wd) (g : Gh) (c : List PV) (H : Hp) : Prop where
  sub : ∀ a o, g.F a = some o → H a = some o
  cup0 : g.c = none → c = []
  cup1 : ∀ a, g.c = some a → g.F a = none ∧ c ≠ [] ∧ ∃ vs, H a = some (.lst vs) ∧ RpL T g vs c
/-- from one state to a later one -/
structure Pres (g : Gh) (H : Hp) (g' : Gh) (H' : Hp) : Prop where
  ext : Ext g g'
  keep : ∀ a o, H a = some o → g'.c ≠ some a → H' a = some o
  newF : ∀ a o, g'.F a = some o → g.F a = some o ∨ H a = none
  newC : ∀ a, g'.c = some a → g.c = some a ∨ H a = none
  live : ∀ a o, H a = some o → ∃ o', H' a = some o'
section
variable {T : Wd} {g g1 g2 : Gh} {H H1 H2 : Hp} {c : List PV}
theorem Pres.refl : Pres g H g H := ⟨Ext.refl, fun _ _ h _ => h, fun _ _ h => .inl h, fun _ h => .inl h, fun _ o h => ⟨o, h⟩⟩
theorem Pres.dead (x : Pres g H g1 H1) {a : Addr} (h : H1 a = none) : H a = none := by
  cases e : H a with
  | none => rfl
  | some o =>
    obtain ⟨o', e'⟩ := x.live a o e
    rw [h] at e'; cases e'
theorem Pres.trans (x : Pres g H g1 H1) (y : Pres g1 H1 g2 H2) : Pres g H g2 H2 where
  ext := ⟨fun a o h => y.ext.F a o (x.ext.F a o h), fun a h => y.ext.c a (x.ext.c a h)⟩
  keep := fun a o h n => y.keep a o (x.keep a o h fun z => n (y.ext.c a z)) n
  newF := fun a o h => by
    rcases y.newF a o h with z | z
    · exact x.newF a o z
    · exact .inr (x.dead z)
  newC := fun a h => by
    rcases y.newC a h with z | z
    · exact x.newC a z
    · exact .inr (x.dead z)
  live := fun a o h => by
    obtain ⟨o', e'⟩ := x.live a o h
    exact y.live a o' e'
/-- a frozen object more -/
def Gh.put (g : Gh) (a : Addr) (o : HO) : Gh := ⟨upd g.F a o, g.c⟩
theorem HR.ne (h : HR T g c H) {a : Addr} (n : H a = none) : g.F a = none ∧ g.c ≠ some a := by
  refine ⟨?_, fun e => ?_⟩
  · cases e : g.F a with
    | none => rfl
    | some o => rw [h.sub a o e] at n; cases n
  · obtain ⟨_, _, vs, q, _⟩ := h.cup1 a e
    rw [q] at n; cases n
theorem Ext.put {a : Addr} {o : HO} (n : g.F a = none) : Ext g (g.put a o) := by
  refine ⟨fun b u h => ?_, fun _ h => h⟩
  have : b ≠ a := by
    rintro rfl
    rw [n] at h; cases h
  show upd g.F a o b = some u
  rw [upd_ne this]; exact h
/-- a new frozen object -/
theorem HR.alloc (h : HR T g c H) {a : Addr} {o : HO} (n : H a = none) : Pres g H (g.put a o) (upd H a o) ∧ HR T (g.put a o) c (upd H a o) := by
  obtain ⟨n1, n2⟩ := h.ne n
  have ne : ∀ b u, H b = some u → b ≠ a := fun b u e z => by rw [z, n] at e; cases e
  refine ⟨⟨Ext.put n1, fun b u e _ => by rw [upd_ne (ne b u e)]; exact e, fun b u e => ?_, fun b e => .inl e, fun b u e => ⟨u, by rw [upd_ne (ne b u e)]; exact e⟩⟩, ⟨fun b u e => ?_, h.cup0, fun b e => ?_⟩⟩
  · by_cases hb : b = a
    · exact .inr (hb ▸ n)
    · have e' : upd g.F a o b = some u := e
      rw [upd_ne hb] at e'
      exact .inl e'
  · have e' : upd g.F a o b = some u := e
    by_cases hb : b = a
    · subst hb; rw [upd_same] at e' ⊢; exact e'
    · rw [upd_ne hb] at e' ⊢; exact h.sub b u e'
  · obtain ⟨f, ne0, vs, q, r⟩ := h.cup1 b e
    have hb : b ≠ a := ne b _ q
    refine ⟨?_, ne0, vs, by rw [upd_ne hb]; exact q, r.ext (Ext.put n1)⟩
    show upd g.F a o b = none
    rw [upd_ne hb]; exact f
/-- a new object of one's own -/
theorem HR.fresh (h : HR T g c H) {a : Addr} {o : HO} (n : H a = none) : Pres g H g (upd H a o) ∧ HR T g c (upd H a o) := by
  have ne : ∀ b u, H b = some u → b ≠ a := fun b u e z => by rw [z, n] at e; cases e
  refine ⟨⟨Ext.refl, fun b u e _ => by rw [upd_ne (ne b u e)]; exact e, fun _ _ e => .inl e, fun b e => .inl e, fun b u e => ⟨u, by rw [upd_ne (ne b u e)]; exact e⟩⟩, ⟨fun b u e => ?_, h.cup0, fun b e => ?_⟩⟩
  · rw [upd_ne (ne b u (h.sub b u e))]; exact h.sub b u e
  · obtain ⟨f, ne0, vs, q, r⟩ := h.cup1 b e
    exact ⟨f, ne0, vs, by rw [upd_ne (ne b _ q)]; exact q, r⟩
/-- an object of one's own is frozen -/
theorem HR.freeze (h : HR T g c H) {a : Addr} {o : HO} (e : H a = some o) (n : g.F a = none) (nc : g.c ≠ some a) : HR T (g.put a o) c H := by
  refine ⟨fun b u q => ?_, h.cup0, fun b q => ?_⟩
  · have q' : upd g.F a o b = some u := q
    by_cases hb : b = a
    · subst hb; rw [upd_same] at q'; rw [e]; exact q'
    · rw [upd_ne hb] at q'; exact h.sub b u q'
  · obtain ⟨f, ne0, vs, z, r⟩ := h.cup1 b q
    have hb : b ≠ a := fun y => nc (y ▸ q)
    refine ⟨?_, ne0, vs, z, r.ext (Ext.put n)⟩
    show upd g.F a o b = none
    rw [upd_ne hb]; exact f
theorem Pres.freeze (x : Pres g H g1 H1) {a : Addr} {o : HO} (n : g1.F a = none) (na : H a = none) : Pres g H (g1.put a o) H1 := by
  refine ⟨⟨fun b u h => (Ext.put n).F b u (x.ext.F b u h), x.ext.c⟩, x.keep, fun b u h => ?_, x.newC, x.live⟩
  have h' : upd g1.F a o b = some u := h
  by_cases hb : b = a
  · exact .inr (hb ▸ na)
  · rw [upd_ne hb] at h'; exact x.newF b u h'
theorem HR.sqL (h : HR T g c H) {K : PySem.W.Frag} {a : Addr} {vs : List V} (q : SqL K g.F a vs) : SqL K H a vs := q.imp (fun z => by
  rcases z with z | ⟨o, z⟩
  · exact .inl (h.sub _ _ z)
  · exact .inr ⟨o, h.sub _ _ z⟩) fun z => z
theorem HR.sqT (h : HR T g c H) {K : PySem.W.Frag} {a : Addr} {vs : List V} (q : SqT K g.F a vs) : SqT K H a vs := q.imp (fun z => by
  rcases z with z | ⟨o, z⟩
  · exact .inl (h.sub _ _ z)
  · exact .inr ⟨o, h.sub _ _ z⟩) fun z => z
end

/-- an object of one's own, not frozen -/
def OwnR (T : Wd) (g : Gh) (H : Hp) (a : Addr) : PV → Prop
  | .lst ps => g.c ≠ some a ∧ ∃ vs, H a = some (.lst vs) ∧ RpL T g vs ps
  | .dic kvs => g.c ≠ some a ∧ ∃ o, H a = some (objO a o) ∧ DicR T g a o kvs
  | _ => False
/-- a value, perhaps an object of one's own: to be looked at -/
def Ct (T : Wd) (g : Gh) (H : Hp) (v : V) (p : PV) : Prop := Rp T g v p ∨ ∃ a, v = .ref a ∧ OwnR T g H a p
section
variable {T : Wd} {g g' : Gh} {H H' : Hp} {c : List PV} {v : V}
theorem Ct.lst (h : HR T g c H) {ps : List PV} (x : Ct T g H v (.lst ps)) : ∃ a vs, v = .ref a ∧ H a = some (.lst vs) ∧ RpL T g vs ps := by
  rcases x with x | ⟨a, rfl, _, vs, e, r⟩
  · cases x with
    | lst e r => exact ⟨_, _, rfl, h.sub _ _ e, r⟩
  · exact ⟨a, vs, rfl, e, r⟩
theorem Ct.tup (h : HR T g c H) {ps : List PV} (x : Ct T g H v (.tup ps)) : ∃ a vs, v = .ref a ∧ SqT T.K H a vs ∧ RpL T g vs ps := by
  rcases x with x | ⟨a, rfl, z⟩
  · cases x with
    | tup e r => exact ⟨_, _, rfl, h.sqT e, r⟩
  · exact z.elim
theorem Ct.dic (h : HR T g c H) {kvs : List (PV × PV)} (x : Ct T g H v (.dic kvs)) : ∃ a o, v = .ref a ∧ H a = some (objO a o) ∧ DicR T g a o kvs := by
  rcases x with x | ⟨a, rfl, _, o, e, r⟩
  · cases x with
    | dic e sm ex d r nd l => exact ⟨_, _, rfl, h.sub _ _ e, sm, ex, ⟨_, _, d, r⟩, nd, l⟩
  · exact ⟨a, o, rfl, e, r⟩
theorem Ct.int {i : Int} (x : Ct T g H v (.int i)) : v = .int i := by
  rcases x with x | ⟨a, rfl, z⟩
  · cases x; rfl
  · exact z.elim
theorem Ct.bl {i : Bool} (x : Ct T g H v (.bl i)) : v = .bl i := by
  rcases x with x | ⟨a, rfl, z⟩
  · cases x; rfl
  · exact z.elim
theorem Ct.str {i : Str} (x : Ct T g H v (.str i)) : v = .str i := by
  rcases x with x | ⟨a, rfl, z⟩
  · cases x; rfl
  · exact z.elim
theorem Ct.non (x : Ct T g H v .non) : v = .non := by
  rcases x with x | ⟨a, rfl, z⟩
  · cases x; rfl
  · exact z.elim
theorem Ct.cup (x : Ct T g H v .cup) : ∃ a, v = .ref a ∧ g.c = some a := by
  rcases x with x | ⟨a, rfl, z⟩
  · cases x with
    | cup e => exact ⟨_, rfl, e⟩
  · exact z.elim
theorem Ct.scr (h : HR T g c H) {ns : List Int} (x : Ct T g H v (.scr ns)) : ∃ a, v = .ref a ∧ SqL T.K H a (ns.map V.int) := by
  rcases x with x | ⟨a, rfl, z⟩
  · cases x with
    | scr e => exact ⟨_, rfl, h.sqL e⟩
  · exact z.elim
theorem OwnR.nc {a : Addr} {p : PV} (o : OwnR T g H a p) : g.c ≠ some a := by
  cases p with
  | lst ps => exact o.1
  | dic kvs => exact o.1
  | _ => exact o.elim
theorem OwnR.there {a : Addr} {p : PV} (o : OwnR T g H a p) : ∃ u, H a = some u := by
  cases p with
  | lst ps => obtain ⟨_, vs, e, r⟩ := o; exact ⟨_, e⟩
  | dic kvs => obtain ⟨_, ob, e, r⟩ := o; exact ⟨_, e⟩
  | _ => exact o.elim
theorem OwnR.pres (x : Pres g H g' H') {a : Addr} {p : PV} (o : OwnR T g H a p) : OwnR T g' H' a p := by
  have n : g'.c ≠ some a := fun z => by
    rcases x.newC a z with w | w
    · exact o.nc w
    · obtain ⟨u, hu⟩ := o.there
      rw [hu] at w; cases w
  cases p with
  | lst ps => obtain ⟨_, vs, e, r⟩ := o; exact ⟨n, vs, x.keep a _ e n, r.ext x.ext⟩
  | dic kvs => obtain ⟨_, ob, e, r⟩ := o; exact ⟨n, ob, x.keep a _ e n, r.ext x.ext⟩
  | _ => exact o.elim
theorem Ct.pres (x : Pres g H g' H') {p : PV} (y : Ct T g H v p) : Ct T g' H' v p := by
  rcases y with y | ⟨a, rfl, o⟩
  · exact .inl (y.ext x.ext)
  · exact .inr ⟨a, rfl, o.pres x⟩
/-- frozen, an object of one's own is a value -/
theorem OwnR.rp {a : Addr} {p : PV} (o : OwnR T g H a p) (n : g.F a = none) : ∃ u, H a = some u ∧ Rp T (g.put a u) (.ref a) p := by
  cases p with
  | lst ps =>
    obtain ⟨_, vs, e, r⟩ := o
    exact ⟨_, e, .lst upd_same (r.ext (Ext.put n))⟩
  | dic kvs =>
    obtain ⟨_, ob, e, d⟩ := o
    obtain ⟨es, ep, h, r⟩ := d.at_
    exact ⟨_, e, .dic upd_same d.sm d.ex h (r.ext (Ext.put n)) d.nd d.len⟩
  | _ => exact o.elim
end
end PP

set_option Elab.async false
set_option linter.all false
set_option maxRecDepth 100000
/-! PP3: operations on values, by the hand layer's rules. -/
namespace PP
open PySem PySem.Spec PyProof.Rows L2

theorem lim_eq : sizeLine = LIM := by rw [sizeLine_eq]; rfl

/-! ### data -/
theorem toDs_map : ∀ xs : List PV, toDs xs = xs.map toD
  | [] => by simp [toDs]
  | x :: r => by simp [toDs, toDs_map r]
mutual
theorem small_shape : ∀ (n : Nat) (p : PV), small n p = true → (toD p).canLay0 = true ∧ (toD p).depth ≤ n
  | _, .non, _ => by simp [toD, PyData.canLay0, PyData.depth]
  | _, .bl _, _ => by simp [toD, PyData.canLay0, PyData.depth]
  | _, .int _, _ => by simp [toD, PyData.canLay0, PyData.depth]
  | n, .str s, h => by
    cases n <;> simpa [small, toD, PyData.canLay0, PyData.depth] using h
  | n + 1, .tup xs, h => by
    rw [small] at h
    obtain ⟨h1, h2⟩ := small_shapes n xs h
    rw [toD, PyData.canLay0, PyData.depth]
    exact ⟨h1, by omega⟩
  | n + 1, .lst xs, h => by
    rw [small] at h
    obtain ⟨h1, h2⟩ := small_shapes n xs h
    rw [toD, PyData.canLay0, PyData.depth]
    exact ⟨h1, by omega⟩
  | 0, .tup _, h => by simp [small] at h
  | 0, .lst _, h => by simp [small] at h
  | n, .dic _, h => by cases n <;> simp [small] at h
  | n, .cup, h => by cases n <;> simp [small] at h
  | n, .scr _, h => by cases n <;> simp [small] at h
theorem small_shapes : ∀ (n : Nat) (xs : List PV), xs.all (small n) = true → PyData.canLayAll0 (toDs xs) = true ∧ PyData.depthAll (toDs xs) ≤ n
  | n, [], _ => by simp [toDs, PyData.canLayAll0, PyData.depthAll]
  | n, x :: xs, h => by
    rw [List.all_cons, Bool.and_eq_true] at h
    obtain ⟨a1, a2⟩ := small_shape n x h.1
    obtain ⟨b1, b2⟩ := small_shapes n xs h.2
    rw [toDs, PyData.canLayAll0, PyData.depthAll, a1, b1]
    exact ⟨rfl, by omega⟩
end
theorem dat_shaped {p : PV} (h : dat p = true) : SeqAt.shaped (toD p) = true := by
  obtain ⟨h1, h2⟩ := small_shape 60 p h
  unfold SeqAt.shaped
  rw [h1, decide_eq_true (show (toD p).depth ≤ 64 by omega)]
  rfl
mutual
theorem peq_eqv : ∀ (p q : PV) (n m : Nat), small n p = true → small m q = true → PyData.eqv (toD p) (toD q) = peq p q
  | .non, q, n, m, _, h => by
    cases q <;> first | (simp [toD, PyData.eqv, peq]; done) | (cases m <;> simp [small] at h)
  | .bl _, q, n, m, _, h => by
    cases q <;> first | (simp [toD, PyData.eqv, peq]; done) | (cases m <;> simp [small] at h)
  | .int _, q, n, m, _, h => by
    cases q <;> first | (simp [toD, PyData.eqv, peq]; done) | (cases m <;> simp [small] at h)
  | .str _, q, n, m, _, h => by
    cases q <;> first | (simp [toD, PyData.eqv, peq]; done) | (cases m <;> simp [small] at h)
  | .tup xs, q, n, m, h0, h => by
    cases q with
    | tup ys =>
      cases n with
      | zero => simp [small] at h0
      | succ n =>
        cases m with
        | zero => simp [small] at h
        | succ m =>
          rw [small] at h0 h
          rw [toD, toD, PyData.eqv, peq]
          exact peqL_eqv xs ys n m h0 h
    | _ => first | (simp [toD, PyData.eqv, peq]; done) | (cases m <;> simp [small] at h)
  | .lst xs, q, n, m, h0, h => by
    cases q with
    | lst ys =>
      cases n with
      | zero => simp [small] at h0
      | succ n =>
        cases m with
        | zero => simp [small] at h
        | succ m =>
          rw [small] at h0 h
          rw [toD, toD, PyData.eqv, peq]
          exact peqL_eqv xs ys n m h0 h
    | _ => first | (simp [toD, PyData.eqv, peq]; done) | (cases m <;> simp [small] at h)
  | .dic _, _, n, _, h, _ => by cases n <;> simp [small] at h
  | .cup, _, n, _, h, _ => by cases n <;> simp [small] at h
  | .scr _, _, n, _, h, _ => by cases n <;> simp [small] at h
theorem peqL_eqv : ∀ (xs ys : List PV) (n m : Nat), xs.all (small n) = true → ys.all (small m) = true → PyData.eqvAll (toDs xs) (toDs ys) = peqL xs ys
  | [], [], _, _, _, _ => by simp [toDs, PyData.eqvAll, peqL]
  | [], _ :: _, _, _, _, _ => by simp [toDs, PyData.eqvAll, peqL]
  | _ :: _, [], _, _, _, _ => by simp [toDs, PyData.eqvAll, peqL]
  | x :: xs, y :: ys, n, m, h0, h => by
    rw [List.all_cons, Bool.and_eq_true] at h0 h
    rw [toDs, toDs, PyData.eqvAll, peqL, peq_eqv x y n m h0.1 h.1, peqL_eqv xs ys n m h0.2 h.2]
end
section
variable {T : Wd} {g : Gh} {c : List PV} {H : Hp}
mutual
theorem Rp.dp (h : HR T g c H) : ∀ {v : V} {p : PV} (n : Nat), small n p = true → Rp T g v p → Dp T.K H v (toD p)
  | _, _, _, _, .non => by rw [toD]; exact .non
  | _, _, _, _, .bl b => by rw [toD]; exact .bl b
  | _, _, _, _, .int i => by rw [toD]; exact .int i
  | _, _, _, _, .str s => by rw [toD]; exact .str s
  | _, _, 0, s, .tup _ _ => by simp [small] at s
  | _, _, n + 1, s, .tup e r => by
    rw [small] at s
    rw [toD]
    exact .tup (h.sqT e) (RpL.dp h n s r)
  | _, _, 0, s, .lst _ _ => by simp [small] at s
  | _, _, n + 1, s, .lst e r => by
    rw [small] at s
    rw [toD]
    exact .lst (SqL.of (h.sub _ _ e)) (RpL.dp h n s r)
  | _, _, n, s, .dic _ _ _ _ _ _ _ => by cases n <;> simp [small] at s
  | _, _, n, s, .cup _ => by cases n <;> simp [small] at s
  | _, _, n, s, .scr _ => by cases n <;> simp [small] at s
theorem RpL.dp (h : HR T g c H) : ∀ {vs : List V} {ps : List PV} (n : Nat), ps.all (small n) = true → RpL T g vs ps → DpAll T.K H vs (toDs ps)
  | _, _, _, _, .nil => by rw [toDs]; exact .nil
  | _, _, n, s, .cons r t => by
    rw [List.all_cons, Bool.and_eq_true] at s
    rw [toDs]
    exact .cons (Rp.dp h n s.1 r) (RpL.dp h n s.2 t)
end
theorem Ct.dp (h : HR T g c H) {v : V} {p : PV} (n : Nat) (s : small n p = true) (x : Ct T g H v p) : Dp T.K H v (toD p) := by
  rcases x with x | ⟨a, rfl, o⟩
  · exact x.dp h n s
  · cases p with
    | lst ps =>
      obtain ⟨_, vs, e, r⟩ := o
      cases n with
      | zero => simp [small] at s
      | succ n =>
        rw [small] at s
        rw [toD]
        exact .lst (SqL.of e) (r.dp h n s)
    | dic kvs => cases n <;> simp [small] at s
    | _ => exact o.elim
end

/-! ### what is wanted behind an operation -/
def Fin (T : Wd) (g : Gh) (H : Hp) (c : List PV) (Q : VK) (z : PV) : Prop := ∀ g' H' v, Pres g H g' H' → HR T g' c H' → Rp T g' v z → Q v H'
/-- .. the value an object of one's own -/
def FinO (T : Wd) (g : Gh) (H : Hp) (c : List PV) (Q : VK) (z : PV) : Prop := ∀ g' H' a, Pres g H g' H' → HR T g' c H' → H a = none → g'.F a = none → g'.c ≠ some a → OwnR T g' H' a z → Q (.ref a) H'
theorem Fin.own {T : Wd} {g : Gh} {H : Hp} {c : List PV} {Q : VK} {z : PV} (f : Fin T g H c Q z) : FinO T g H c Q z := fun g' H' a x h na nf nc o => by
  obtain ⟨u, e, r⟩ := o.rp nf
  exact f (g'.put a u) H' (.ref a) (x.freeze nf na) (h.freeze e nf nc) r
theorem Fin.here {T : Wd} {g : Gh} {H : Hp} {c : List PV} {Q : VK} {z : PV} {v : V} (f : Fin T g H c Q z) (h : HR T g c H) (r : Rp T g v z) : Q v H := f g H v Pres.refl h r
/-- a new tuple -/
theorem Fin.newT {T : Wd} {g : Gh} {H : Hp} {c : List PV} {Q : VK} {ps : List PV} {vs : List V} (f : Fin T g H c Q (.tup ps)) (h : HR T g c H) (r : RpL T g vs ps) : ∀ a, H a = none → Q (.ref a) (upd H a (.tup vs)) := fun a n => by
  obtain ⟨x, h'⟩ := h.alloc (o := .tup vs) n
  exact f _ _ _ x h' (.tup (SqT.of upd_same) (r.ext x.ext))
/-- a new list -/
theorem FinO.newL {T : Wd} {g : Gh} {H : Hp} {c : List PV} {Q : VK} {ps : List PV} {vs : List V} (f : FinO T g H c Q (.lst ps)) (h : HR T g c H) (r : RpL T g vs ps) : ∀ a, H a = none → Q (.ref a) (upd H a (.lst vs)) := fun a n => by
  obtain ⟨x, h'⟩ := h.fresh (o := .lst vs) n
  obtain ⟨n1, n2⟩ := h.ne n
  exact f _ _ a x h' n n1 n2 ⟨n2, vs, upd_same, r⟩

/-! ### binary operators -/
def bopOf : Bop → Operator
  | .add => .Add
  | .sub => .Sub
  | .mul => .Mult
  | .fdiv => .FloorDiv
  | .mod => .Mod
  | .pow => .Pow
def isLst : PV → Bool
  | .lst _ => true
  | _ => false
def rB (T : Wd) (f : PV → PV → Option PV) : R2 := fun x y H Q => ∃ g c p q z, HR T g c H ∧ Ct T g H x p ∧ Ct T g H y q ∧ f p q = some z ∧ Fin T g H c Q z
def rBO (T : Wd) (f : PV → PV → Option PV) : R2 := fun x y H Q => ∃ g c p q z, HR T g c H ∧ Ct T g H x p ∧ Ct T g H y q ∧ f p q = some z ∧ isLst z = true ∧ FinO T g H c Q z
section
variable {X : Cx}
theorem op_binO (o : Bop) : OpR X (binaryOp (bopOf o)) (rBO (wd X) (binop o)) := by
  intro pins s σ H x y v u Q I rx ry h
  obtain ⟨g, c, p, q, z, hr, cx, cy, e, hz, fin⟩ := h
  unfold binop at e
  split at e <;> first | (cases e; done) | skip
  all_goals first | (cases e; cases hz; done) | skip
  · unfold mkStr at e; split at e <;> cases e; cases hz
  · unfold mkTup at e; split at e <;> cases e; cases hz
  · rename_i xs ys
    unfold mkLst at e
    split at e <;> cases e
    rename_i hl
    obtain ⟨a, vs, rfl, ea, ra⟩ := cx.lst hr
    obtain ⟨b, ws, rfl, eb, rb⟩ := cy.lst hr
    refine op_cat pins s σ H _ _ v u Q I rx ry ⟨a, b, vs, ws, rfl, rfl, ea, eb, ?_, ?_⟩
    · rw [lim_eq, ra.length, rb.length]
      simpa using hl
    · exact fin.newL hr (ra.append rb)
  · split at e <;> cases e; cases hz
  · split at e <;> cases e; cases hz
  · rename_i xs n
    split at e <;> cases e
    rename_i hc
    obtain ⟨h1, h2, h3⟩ := hc
    obtain ⟨a, vs, rfl, ea, ra⟩ := cx.lst hr
    have hv := ra.length
    refine op_rep pins s σ H _ _ v u Q I rx ry ⟨a, n, vs, rfl, cy.int, ea, by omega, by omega, ?_, ?_⟩
    · rw [lim_eq]
      have a1 : vs.length * n.toNat ≤ 1000 * 1000 := Nat.mul_le_mul (by omega) (by omega)
      have a2 : 1000 * 1000 ≤ LIM := by decide
      omega
    · exact fin.newL hr (ra.rep n.toNat)
  · split at e <;> cases e; cases hz
  · split at e <;> cases e; cases hz
  · split at e <;> cases e; cases hz
theorem op_bin (o : Bop) : OpR X (binaryOp (bopOf o)) (rB (wd X) (binop o)) := by
  intro pins s σ H x y v u Q I rx ry h
  obtain ⟨g, c, p, q, z, hr, cx, cy, e, fin⟩ := h
  by_cases hz : isLst z = true
  · exact op_binO o pins s σ H x y v u Q I rx ry ⟨g, c, p, q, z, hr, cx, cy, e, hz, fin.own⟩
  unfold binop at e
  split at e <;> first | (cases e; done) | skip
  · cases e
    exact op_add pins s σ H x y v u Q I rx ry ⟨_, _, cx.int, cy.int, fin.here hr (.int _)⟩
  · unfold mkStr at e
    split at e <;> cases e
    rename_i hl
    refine op_add_str pins s σ H x y v u Q I rx ry ⟨_, _, cx.str, cy.str, ?_, fin.here hr (.str _)⟩
    rw [lim_eq, ← Str.length_append]; exact hl
  · rename_i xs ys
    unfold mkTup at e
    split at e <;> cases e
    rename_i hl
    obtain ⟨a, vs, rfl, ea, ra⟩ := cx.tup hr
    obtain ⟨b, ws, rfl, eb, rb⟩ := cy.tup hr
    have hv := ra.length
    have hw := rb.length
    refine op_catA pins s σ H _ _ v u Q I rx ry ⟨a, b, vs, ws, rfl, rfl, ea, eb, ?_, fun h0 => ?_, fun _ h0 => ?_, fun _ _ => fin.newT hr (ra.append rb)⟩
    · rw [lim_eq, hv, hw]
      simpa using hl
    · subst h0
      cases ra
      rcases cy with cy | ⟨_, _, z⟩
      · exact fin.here hr cy
      · exact z.elim
    · subst h0
      cases rb
      rcases cx with cx | ⟨_, _, z⟩
      · exact fin.here hr (by rw [List.append_nil]; exact cx)
      · exact z.elim
  · unfold mkLst at e; split at e <;> cases e; exact absurd rfl hz
  · cases e
    exact op_sub pins s σ H x y v u Q I rx ry ⟨_, _, cx.int, cy.int, fin.here hr (.int _)⟩
  · rename_i i j
    split at e <;> cases e
    rename_i hs
    refine op_mul pins s σ H x y v u Q I rx ry ⟨_, _, cx.int, cy.int, ?_, fin.here hr (.int _)⟩
    unfold smallI at hs
    rw [Bool.or_eq_true] at hs
    exact hs.imp (fun z => of_decide_eq_true z) fun z => of_decide_eq_true z
  · rename_i xs n
    split at e <;> cases e
    rename_i hc
    obtain ⟨h1, h2, h3, h4⟩ := hc
    obtain ⟨a, vs, rfl, ea, ra⟩ := cx.tup hr
    have hv := ra.length
    refine op_repT pins s σ H _ _ v u Q I rx ry ⟨a, n, vs, rfl, cy.int, ea, ?_, h1, h2, by omega, fin.newT hr (ra.rep n.toNat)⟩
    rintro rfl
    rw [← hv] at h4; exact absurd h4 (Nat.lt_irrefl 0)
  · split at e <;> cases e; exact absurd rfl hz
  · split at e <;> cases e
    rename_i hs
    exact op_fdiv pins s σ H x y v u Q I rx ry ⟨_, _, cx.int, cy.int, hs, fin.here hr (.int _)⟩
  · split at e <;> cases e
    rename_i hs
    exact op_mod pins s σ H x y v u Q I rx ry ⟨_, _, cx.int, cy.int, hs, fin.here hr (.int _)⟩
  · split at e <;> cases e
    rename_i hs
    exact op_pow pins s σ H x y v u Q I rx ry ⟨_, _, cx.int, cy.int, hs, fin.here hr (.int _)⟩

/-! ### truth -/
theorem tru_pv {T : Wd} {g : Gh} {H : Hp} {c : List PV} {v : V} {p : PV} {b : Bool} (hr : HR T g c H) (x : Ct T g H v p) (e : truth p = some b) : TruV T.K v H b := by
  cases p with
  | non => rw [x.non]; cases e; rfl
  | bl _ => rw [x.bl]; cases e; rfl
  | int _ => rw [x.int]; cases e; rfl
  | str s =>
    rw [x.str]
    rw [truth] at e
    split at e <;> cases e
    rename_i hl
    exact ⟨by rw [lim_eq]; exact hl, rfl⟩
  | tup ps =>
    obtain ⟨a, vs, rfl, ea, ra⟩ := x.tup hr
    cases e
    refine .inr (.inl ⟨vs, ea, ?_⟩)
    cases ra <;> rfl
  | lst ps =>
    obtain ⟨a, vs, rfl, ea, ra⟩ := x.lst hr
    cases e
    refine .inl ⟨vs, SqL.of ea, ?_⟩
    cases ra <;> rfl
  | dic _ => cases e
  | cup => cases e
  | scr _ => cases e
end
end PP

set_option Elab.async false
set_option linter.all false
set_option maxRecDepth 100000
/-! PP4: keys of dicts, comparisons, subscripts. -/
namespace PP
open PySem PySem.Spec PyProof.Rows L2

/-! ### keys -/
theorem nks_map : ∀ xs : List PV, nks xs = xs.map nk
  | [] => by simp [nks]
  | x :: r => by simp [nks, nks_map r]
mutual
theorem peq_nk : ∀ (p q : PV) (n m : Nat), keyd n p = true → keyd m q = true → peq p q = NestedKey.beq (nk p) (nk q)
  | .non, q, n, m, _, h => by
    cases q <;> first | (simp [peq, nk, NestedKey.beq]; done) | (cases m <;> simp [keyd] at h)
  | .bl a, q, n, m, _, h => by
    cases q with
    | bl b => cases a <;> cases b <;> simp [peq, nk, NestedKey.beq]
    | int j => cases a <;> simp [peq, nk, NestedKey.beq, Bool.beq_eq_decide_eq]
    | _ => first | (simp [peq, nk, NestedKey.beq]; done) | (cases m <;> simp [keyd] at h)
  | .int i, q, n, m, _, h => by
    cases q with
    | bl b => cases b <;> simp [peq, nk, NestedKey.beq, Bool.beq_eq_decide_eq]
    | int j => simp [peq, nk, NestedKey.beq, Bool.beq_eq_decide_eq]
    | _ => first | (simp [peq, nk, NestedKey.beq]; done) | (cases m <;> simp [keyd] at h)
  | .str _, q, n, m, _, h => by
    cases q with
    | str y => simp [peq, nk, NestedKey.beq, Bool.beq_eq_decide_eq]
    | _ => first | (simp [peq, nk, NestedKey.beq]; done) | (cases m <;> simp [keyd] at h)
  | .tup xs, q, n, m, h0, h => by
    cases q with
    | tup ys =>
      cases n with
      | zero => simp [keyd] at h0
      | succ n =>
        cases m with
        | zero => simp [keyd] at h
        | succ m =>
          rw [keyd] at h0 h
          rw [nk, nk, NestedKey.beq, peq]
          exact peqL_nk xs ys n m h0 h
    | _ => first | (simp [peq, nk, NestedKey.beq]; done) | (cases m <;> simp [keyd] at h)
  | .lst _, _, n, _, h, _ => by cases n <;> simp [keyd] at h
  | .dic _, _, n, _, h, _ => by cases n <;> simp [keyd] at h
  | .cup, _, n, _, h, _ => by cases n <;> simp [keyd] at h
  | .scr _, _, n, _, h, _ => by cases n <;> simp [keyd] at h
theorem peqL_nk : ∀ (xs ys : List PV) (n m : Nat), xs.all (keyd n) = true → ys.all (keyd m) = true → peqL xs ys = NestedKey.beqAll (nks xs) (nks ys)
  | [], [], _, _, _, _ => by simp [nks, NestedKey.beqAll, peqL]
  | [], _ :: _, _, _, _, _ => by simp [nks, NestedKey.beqAll, peqL]
  | _ :: _, [], _, _, _, _ => by simp [nks, NestedKey.beqAll, peqL]
  | x :: xs, y :: ys, n, m, h0, h => by
    rw [List.all_cons, Bool.and_eq_true] at h0 h
    rw [nks, nks, NestedKey.beqAll, peqL, peq_nk x y n m h0.1 h.1, peqL_nk xs ys n m h0.2 h.2]
end
theorem isKey_d {k : PV} (h : isKey k = true) : keyd 8 k = true := by
  cases k <;> simp [isKey] at h ⊢
  exact h
theorem key_eq {p q : PV} (hp : isKey p = true) (hq : isKey q = true) : peq p q = decide (nk p = nk q) := by
  rw [NestedKey.decide_eq]
  exact peq_nk p q 8 8 (isKey_d hp) (isKey_d hq)
section
variable {X : Cx} {pins : List (Addr × Obj)} {σ : L2.St} {H : Hp} {s : Shared} {g : Gh} {c : List PV}
mutual
theorem Rp.nested (I : Inv X pins σ H s) (hr : HR (wd X) g c H) : ∀ {v : V} {p : PV} {u : Value} (n : Nat), keyd n p = true → Rp (wd X) g v p → RelV v u → NestedIs s.heap (nk p) u ∧ (nk p).depth ≤ n
  | _, _, _, _, _, .non, r => by cases r; rw [nk]; exact ⟨.none, by simp [NestedKey.depth]⟩
  | _, _, _, _, _, .bl b, r => by cases r; rw [nk]; exact ⟨.bool rfl, by simp [NestedKey.depth]⟩
  | _, _, _, _, _, .int i, r => by obtain ⟨t, rfl⟩ := r; rw [nk]; exact ⟨.int i t, by simp [NestedKey.depth]⟩
  | _, _, _, _, _, .str x, r => by obtain ⟨t, rfl⟩ := r; rw [nk]; exact ⟨.text x t, by simp [NestedKey.depth]⟩
  | _, _, _, 0, h, .tup _ _, _ => by simp [keyd] at h
  | _, _, _, n + 1, h, .tup e rl, r => by
    cases r
    rw [keyd] at h
    obtain ⟨its, rv, ⟨o, ho, hc, m, hd⟩, _⟩ := I.tuple (hr.sqT e)
    obtain ⟨h1, h2⟩ := RpL.nested I hr n h rl rv
    rw [nk, NestedKey.depth]
    exact ⟨.tup ho hc hd (by simpa using h1), by omega⟩
  | _, _, _, n, h, .lst _ _, _ => by cases n <;> simp [keyd] at h
  | _, _, _, n, h, .dic _ _ _ _ _ _ _, _ => by cases n <;> simp [keyd] at h
  | _, _, _, n, h, .cup _, _ => by cases n <;> simp [keyd] at h
  | _, _, _, n, h, .scr _, _ => by cases n <;> simp [keyd] at h
theorem RpL.nested (I : Inv X pins σ H s) (hr : HR (wd X) g c H) : ∀ {vs : List V} {ps : List PV} {us : List Value} (n : Nat), ps.all (keyd n) = true → RpL (wd X) g vs ps → Vals vs us → NestedAll s.heap (nks ps) us ∧ NestedKey.depthAll (nks ps) ≤ n
  | _, _, _, _, _, .nil, r => by cases r; rw [nks]; exact ⟨.nil, by simp [NestedKey.depthAll]⟩
  | _, _, _, n, h, .cons r1 t1, r => by
    cases r with
    | cons r2 t2 =>
      rw [List.all_cons, Bool.and_eq_true] at h
      obtain ⟨a1, a2⟩ := Rp.nested I hr n h.1 r1 r2
      obtain ⟨b1, b2⟩ := RpL.nested I hr n h.2 t1 t2
      rw [nks, NestedKey.depthAll]
      exact ⟨.cons a1 b1, by omega⟩
end
/-- a key's tuple -/
theorem Rp.key (I : Inv X pins σ H s) (hr : HR (wd X) g c H) {v : V} {p : PV} {u : Value} (h : isKey p = true) (r : Rp (wd X) g v p) (rv : RelV v u) : ∃ a, v = .ref a ∧ u = .ref a ∧ (nestedKind X.prog X.w).is s.heap (nk p) a := by
  cases p with
  | tup xs =>
    cases r with
    | tup e rl =>
      obtain ⟨h1, h2⟩ := Rp.nested I hr 8 (isKey_d h) (.tup e rl) rv
      cases rv
      exact ⟨_, rfl, rfl, h1, h2⟩
  | _ => simp [isKey] at h
/-- the entries of a dict -/
theorem RpD.entries (I : Inv X pins σ H s) (hr : HR (wd X) g c H) : ∀ {es : List DictEntry} {kvs : List (PV × PV)}, RpD (wd X) g es kvs →
    ∃ xs : List (NestedKey × Addr × Value), es = xs.map (entryOfKey (nestedKind X.prog X.w)) ∧ (∀ x ∈ xs, (nestedKind X.prog X.w).is s.heap x.1 x.2.1) ∧ xs.map (·.1) = kvs.map (fun p => nk p.1) ∧
      (∀ k, isKey k = true → match dget kvs k with
        | some v => ∃ u vv, valueAt (pairsH xs) (nk k) = some u ∧ RelV vv u ∧ Rp (wd X) g vv v
        | none => valueAt (pairsH xs) (nk k) = none)
  | _, _, .nil => ⟨[], rfl, (fun x h => nomatch h), rfl, fun k _ => by simp [dget, pairsH, valueAt]⟩
  | _, _, .cons (en := en) (k := k0) (v := v0) (ka := ka) hk ek rk eh rv rp t => by
    obtain ⟨xs, e1, e2, e3, e4⟩ := RpD.entries I hr t
    obtain ⟨a, ea, _, hi⟩ := rk.key I hr (u := .ref ka) hk rfl
    cases ea
    refine ⟨(nk k0, ka, en.val) :: xs, ?_, fun x hx => ?_, ?_, fun k hkk => ?_⟩
    · rw [List.map_cons, ← e1]
      congr 1
      obtain ⟨h1, h2, h3⟩ := en
      simp only at ek eh
      subst ek eh
      rfl
    · rcases List.mem_cons.mp hx with rfl | hx
      · exact hi
      · exact e2 x hx
    · rw [List.map_cons, List.map_cons, e3]
    · have q := key_eq hk hkk
      rw [dget]
      by_cases hh : nk k0 = nk k
      · rw [q, decide_eq_true hh, if_pos rfl]
        exact ⟨en.val, _, by simp [pairsH, valueAt, hh], rv, rp⟩
      · rw [q, decide_eq_false hh, if_neg Bool.false_ne_true]
        have hv : valueAt (pairsH ((nk k0, ka, en.val) :: xs)) (nk k) = valueAt (pairsH xs) (nk k) := by simp [pairsH, valueAt, hh]
        rw [hv]
        exact e4 k hkk
theorem DicR.keyed (I : Inv X pins σ H s) (hr : HR (wd X) g c H) {a : Addr} {o : Obj} {kvs : List (PV × PV)} (e : H a = some (objO a o)) (d : DicR (wd X) g a o kvs) :
    ∃ xs : List (NestedKey × Addr × Value), s.heap.DictOfH (nestedKind X.prog X.w) a xs ∧ (∀ es ep, o.data = .dict es ep → es.toList = xs.map (entryOfKey (nestedKind X.prog X.w))) ∧ xs.length = kvs.length ∧ s.heap.get? a = some o ∧
      (∀ k, isKey k = true → match dget kvs k with
        | some v => ∃ u vv, valueAt (pairsH xs) (nk k) = some u ∧ RelV vv u ∧ Rp (wd X) g vv v
        | none => valueAt (pairsH xs) (nk k) = none) := by
  obtain ⟨es, ep, hd, r⟩ := d.at_
  obtain ⟨xs, e1, e2, e3, e4⟩ := r.entries I hr
  have ho : s.heap.get? a = some o := (I.hok a _ e).1
  have hl : xs.length = kvs.length := by
    have q := congrArg List.length e3
    simpa using q
  refine ⟨xs, ⟨o, es, ep, ho, d.ex, hd, e1, e2, ?_⟩, fun es' ep' hd' => ?_, hl, ho, e4⟩
  · rw [e3]; exact d.nd
  · rw [hd] at hd'; cases hd'; exact e1
end

/-! ### comparisons -/
def copOf : Cop → CmpOp
  | .eq => .Eq
  | .ne => .NotEq
  | .lt => .Lt
  | .le => .LtE
  | .gt => .Gt
  | .ge => .GtE
  | .is => .Is
  | .isn => .IsNot
  | .inn => .In
  | .nin => .NotIn
theorem eqv_any {xs : List PV} {x : PV} (h1 : xs.all (small 59) = true) (h2 : dat x = true) : ((toDs xs).any fun y => PyData.eqv y (toD x)) = xs.any fun y => peq y x := by
  rw [toDs_map, List.any_map]
  induction xs with
  | nil => rfl
  | cons y r ih =>
    rw [List.all_cons, Bool.and_eq_true] at h1
    rw [List.any_cons, List.any_cons, ih h1.2]
    congr 1
    exact peq_eqv y x 59 60 h1.1 h2
section
variable {X : Cx}
theorem pin_run {x : V} {y : V} {v u : Value} {p q : PV} {b : Bool} {pins : List (Addr × Obj)} {s : Shared} {σ : L2.St} {H : Hp} {g : Gh} {c : List PV} (hu : X.A.units + 70 < cLine) (I : Inv X pins σ H s) (hr : HR (wd X) g c H) (rx : RelV x v) (ry : RelV y u) (cx : Ct (wd X) g H x p) (cy : Ct (wd X) g H y q)
    (e : pin p q = some b) (Q : VK) (E : Value → Shared → Prop) (neg : Bool) (fin : Q (.bl (if neg then !b else b)) H) :
    wpAny (model X.prog X.w) X.A (compareOp (if neg then .NotIn else .In) v u) (EP X pins σ Q) E s := by
  cases q with
  | tup ys =>
    rw [pin] at e
    split at e <;> cases e
    rename_i hd
    rw [Bool.and_eq_true] at hd
    have dx := cx.dp hr 60 hd.1
    have dy := cy.dp hr 60 hd.2
    obtain ⟨as, r1⟩ := Dp.reads I _ x v dx rx
    obtain ⟨bs, r2⟩ := Dp.reads I _ y u dy ry
    obtain ⟨sx1, sx2⟩ := small_shape 60 p hd.1
    obtain ⟨sy1, sy2⟩ := small_shape 60 _ hd.2
    rw [toD] at r2 sy1 sy2
    rw [PyData.canLay0] at sy1
    rw [PyData.depth] at sy2
    have ha := eqv_any (xs := ys) (x := p) (by simpa [dat, small] using hd.2) hd.1
    cases neg with
    | true => exact SeqAt.notIn_tuple_reads r2 r1 sy1 sx1 (by omega) ⟨.bl _, H, I, rfl, by rw [ha]; exact fin⟩
    | false => exact SeqAt.in_tuple_reads r2 r1 sy1 sx1 (by omega) ⟨.bl _, H, I, rfl, by rw [ha]; exact fin⟩
  | lst ys =>
    rw [pin] at e
    split at e <;> cases e
    rename_i hd
    rw [Bool.and_eq_true] at hd
    have dx := cx.dp hr 60 hd.1
    have dy := cy.dp hr 60 hd.2
    obtain ⟨as, r1⟩ := Dp.reads I _ x v dx rx
    obtain ⟨bs, r2⟩ := Dp.reads I _ y u dy ry
    obtain ⟨sx1, sx2⟩ := small_shape 60 p hd.1
    obtain ⟨sy1, sy2⟩ := small_shape 60 _ hd.2
    rw [toD] at r2 sy1 sy2
    rw [PyData.canLay0] at sy1
    rw [PyData.depth] at sy2
    have ha := eqv_any (xs := ys) (x := p) (by simpa [dat, small] using hd.2) hd.1
    cases neg with
    | true => exact SeqAt.notIn_list_reads r2 r1 sy1 sx1 (by omega) ⟨.bl _, H, I, rfl, by rw [ha]; exact fin⟩
    | false => exact SeqAt.in_list_reads r2 r1 sy1 sx1 (by omega) ⟨.bl _, H, I, rfl, by rw [ha]; exact fin⟩
  | dic kvs =>
    rw [pin] at e
    split at e <;> cases e
    rename_i hk
    obtain ⟨a, o, rfl, ea, d⟩ := cy.dic hr
    cases ry
    have cx' : Rp (wd X) g x p := by
      rcases cx with cx | ⟨z, rfl, w⟩
      · exact cx
      · cases p <;> first | (exact w.elim) | (simp [isKey] at hk)
    obtain ⟨ka, rfl, rfl, hi⟩ := cx'.key I hr hk rx
    obtain ⟨xs, hm, _, _, _, hv⟩ := d.keyed I hr ea
    have hv := hv p hk
    have hb : (valueAt (pairsH xs) (nk p)).isSome = (dget kvs p).isSome := by
      cases hg : dget kvs p with
      | some z =>
        rw [hg] at hv
        obtain ⟨w, _, e1, _⟩ := hv
        rw [e1] <;> rfl
      | none =>
        rw [hg] at hv
        rw [hv] <;> rfl
    have hroom : (nestedKind X.prog X.w).room X.A.in1 := by
      show X.A.units + 1 + 8 < cLine
      omega
    cases neg with
    | true => exact notIn_keyed (kvs := pairsH xs) hroom hi d.sm ⟨xs, hm, rfl⟩ ⟨.bl _, H, I.tok _, rfl, by rw [hb]; exact fin⟩
    | false => exact in_keyed (kvs := pairsH xs) hroom hi d.sm ⟨xs, hm, rfl⟩ ⟨.bl _, H, I.tok _, rfl, by rw [hb]; exact fin⟩
  | _ => cases e
theorem op_cmp (hu : X.A.units + 70 < cLine) (o : Cop) : OpR X (compareOp (copOf o)) (rB (wd X) (cmpop o)) := by
  intro pins s σ H x y v u Q I rx ry h
  obtain ⟨g, c, p, q, z, hr, cx, cy, e, fin⟩ := h
  unfold cmpop at e
  split at e
  · split at e <;> cases e
    rename_i hd
    rw [Bool.and_eq_true] at hd
    refine op_eqD (by omega) pins s σ H x y v u Q I rx ry ⟨toD p, toD q, cx.dp hr 60 hd.1, cy.dp hr 60 hd.2, dat_shaped hd.1, dat_shaped hd.2, ?_⟩
    rw [peq_eqv p q 60 60 hd.1 hd.2]
    exact fin.here hr (.bl _)
  · split at e <;> cases e
    rename_i hd
    rw [Bool.and_eq_true] at hd
    refine op_neD (by omega) pins s σ H x y v u Q I rx ry ⟨toD p, toD q, cx.dp hr 60 hd.1, cy.dp hr 60 hd.2, dat_shaped hd.1, dat_shaped hd.2, ?_⟩
    rw [peq_eqv p q 60 60 hd.1 hd.2]
    exact fin.here hr (.bl _)
  · cases e
    exact op_lt pins s σ H x y v u Q I rx ry ⟨_, _, cx.int, cy.int, fin.here hr (.bl _)⟩
  · cases e
    exact op_le pins s σ H x y v u Q I rx ry ⟨_, _, cx.int, cy.int, fin.here hr (.bl _)⟩
  · cases e
    exact op_gt pins s σ H x y v u Q I rx ry ⟨_, _, cx.int, cy.int, fin.here hr (.bl _)⟩
  · cases e
    exact op_ge pins s σ H x y v u Q I rx ry ⟨_, _, cx.int, cy.int, fin.here hr (.bl _)⟩
  · rename_i xs ys
    obtain ⟨b, eb, rfl⟩ := Option.map_eq_some_iff.mp e
    unfold pcmp at eb
    split at eb <;> cases eb
    rename_i hd
    rw [Bool.and_eq_true, Bool.and_eq_true] at hd
    obtain ⟨as, r1⟩ := Dp.reads I _ x v (cx.dp hr 60 hd.1.1) rx
    obtain ⟨bs, r2⟩ := Dp.reads I _ y u (cy.dp hr 60 hd.1.2) ry
    have d1 := (small_shape 60 _ hd.1.1).2
    exact W.rcLt_alike _ _ X.A s v u as bs r1 r2 hd.2 (by rw [toD]; intro z; cases z) (by omega) _ _ _ _ ⟨.bl _, H, I, rfl, fin.here hr (.bl _)⟩
  · obtain ⟨b, eb, rfl⟩ := Option.map_eq_some_iff.mp e
    unfold pis at eb
    split at eb <;> first | (cases eb; done) | skip
    · cases eb
      exact op_isN pins s σ H x y v u Q I rx ry ⟨cy.non, by rw [cx.non]; exact fin.here hr (.bl _)⟩
    · cases eb
      rename_i hn
      refine op_isN pins s σ H x y v u Q I rx ry ⟨cy.non, ?_⟩
      have hx : x ≠ .non := by
        rintro rfl
        rcases cx with cx | ⟨_, z, _⟩
        · cases cx; exact hn rfl
        · cases z
      rw [decide_eq_false hx]; exact fin.here hr (.bl _)
    · cases eb
      exact op_is_bl pins s σ H x y v u Q I rx ry ⟨_, _, cx.bl, cy.bl, by rw [← Bool.beq_eq_decide_eq]; exact fin.here hr (.bl _)⟩
  · obtain ⟨b, eb, rfl⟩ := Option.map_eq_some_iff.mp e
    obtain ⟨b2, eb2, rfl⟩ := Option.map_eq_some_iff.mp eb
    unfold pis at eb2
    split at eb2 <;> first | (cases eb2; done) | skip
    · cases eb2
      exact op_notN pins s σ H x y v u Q I rx ry ⟨cy.non, by rw [cx.non]; exact fin.here hr (.bl _)⟩
    · cases eb2
      rename_i hn
      refine op_notN pins s σ H x y v u Q I rx ry ⟨cy.non, ?_⟩
      have hx : x ≠ .non := by
        rintro rfl
        rcases cx with cx | ⟨_, z, _⟩
        · cases cx; exact hn rfl
        · cases z
      rw [decide_eq_false hx]; exact fin.here hr (.bl _)
    · cases eb2
      exact op_isnot_bl pins s σ H x y v u Q I rx ry ⟨_, _, cx.bl, cy.bl, by rw [← Bool.beq_eq_decide_eq]; exact fin.here hr (.bl _)⟩
  · obtain ⟨b, eb, rfl⟩ := Option.map_eq_some_iff.mp e
    exact pin_run hu I hr rx ry cx cy eb Q X.xe false (fin.here hr (.bl _))
  · obtain ⟨b, eb, rfl⟩ := Option.map_eq_some_iff.mp e
    obtain ⟨b2, eb2, rfl⟩ := Option.map_eq_some_iff.mp eb
    exact pin_run hu I hr rx ry cx cy eb2 Q X.xe true (fin.here hr (.bl _))
  · cases e

/-! ### subscripts -/
theorem ixP_ixN (n : Nat) (i : Int) : ixP n i = ixN n i := rfl
theorem Rp.of_ct {T : Wd} {g : Gh} {H : Hp} {v : V} {p : PV} (h : isKey p = true) (x : Ct T g H v p) : Rp T g v p := by
  rcases x with x | ⟨z, rfl, w⟩
  · exact x
  · cases p <;> first | (exact w.elim) | (simp [isKey] at h)
theorem ix_pv (hu : X.A.units + 70 < cLine) : IxR X (fun x y H Q => ∃ g c p q z, HR (wd X) g c H ∧ Ct (wd X) g H x p ∧ Ct (wd X) g H y q ∧ item p q c = some z ∧ Fin (wd X) g H c Q z) := by
  intro value slice pins s σ H x y v u Q I rx ry h hs
  obtain ⟨g, c, p, q, z, hr, cx, cy, e, fin⟩ := h
  unfold item at e
  split at e
  · rename_i xs i
    obtain ⟨a, vs, rfl, ea, ra⟩ := cx.tup hr
    obtain ⟨j, ej, ez⟩ := Option.bind_eq_some_iff.mp e
    obtain ⟨w, ew, rw'⟩ := ra.get ez
    refine ix_tup value slice pins s σ H _ _ v u Q I rx ry ⟨a, vs, i, w, rfl, cy.int, ea, ?_, fin.here hr rw'⟩ hs
    unfold atI
    rw [ra.length, ← ixP_ixN, ej]; exact ew
  · rename_i xs i
    obtain ⟨a, vs, rfl, ea, ra⟩ := cx.lst hr
    obtain ⟨j, ej, ez⟩ := Option.bind_eq_some_iff.mp e
    obtain ⟨w, ew, rw'⟩ := ra.get ez
    refine ix_list value slice pins s σ H _ _ v u Q I rx ry ⟨a, vs, i, w, rfl, cy.int, SqL.of ea, ?_, fin.here hr rw'⟩ hs
    unfold atI
    rw [ra.length, ← ixP_ixN, ej]; exact ew
  · rename_i i
    obtain ⟨a, rfl, ec⟩ := cx.cup
    obtain ⟨_, _, vs, ea, ra⟩ := hr.cup1 a ec
    obtain ⟨j, ej, ez⟩ := Option.bind_eq_some_iff.mp e
    obtain ⟨w, ew, rw'⟩ := ra.get ez
    refine ix_list value slice pins s σ H _ _ v u Q I rx ry ⟨a, vs, i, w, rfl, cy.int, SqL.of ea, ?_, fin.here hr rw'⟩ hs
    unfold atI
    rw [ra.length, ← ixP_ixN, ej]; exact ew
  · rename_i z' i
    split at e <;> first | (cases e; done) | skip
    rename_i hl
    obtain ⟨j, ej, ez⟩ := Option.bind_eq_some_iff.mp e
    obtain ⟨d, ed, rfl⟩ := Option.map_eq_some_iff.mp ez
    refine ix_str value slice pins s σ H _ _ v u Q I rx ry ⟨z', i, d, cx.str, cy.int, by rw [lim_eq]; exact Nat.le_of_not_lt hl, ?_, fin.here hr (.str _)⟩ hs
    unfold atI
    rw [show z'.cps.toList.length = z'.length by simp [Str.length], ← ixP_ixN, ej]
    simpa using ed
  · split at e <;> first | (cases e; done) | skip
    rename_i kvs hk
    obtain ⟨a, o, rfl, ea, d⟩ := cx.dic hr
    cases rx
    obtain ⟨ka, rfl, rfl, hi⟩ := (Rp.of_ct hk cy).key I hr hk ry
    obtain ⟨xs, hm, _, _, _, hv⟩ := d.keyed I hr ea
    have hv := hv q hk
    rw [e] at hv
    obtain ⟨w, vv, e1, e2, e3⟩ := hv
    have hroom : (nestedKind X.prog X.w).room X.A.in1 := by
      show X.A.units + 1 + 8 < cLine
      omega
    exact tail_any hm.typeIs PySem.F.slot_dict_getitem.lookup (getItem_keyed (kvs := pairsH xs) hroom hi ⟨xs, hm, rfl⟩ e1 ⟨vv, H, I.tok _, e2, fin.here hr e3⟩) hs
  · cases e
theorem sIxP_eq (n d : Nat) (o : Option Int) : sIxP n d o = HT.sIx n d o := by
  cases o <;> rfl
theorem cut_eq {T : Wd} {g : Gh} {vs : List V} {ps : List PV} (r : RpL T g vs ps) (lo hi : Option Int) : RpL T g (cutV vs lo hi) (cutP ps lo hi) := by
  unfold cutV cutP
  rw [← sIxP_eq, ← sIxP_eq, r.length]
  exact (r.drop _).take _
theorem sl_pvO : SlR X (fun x lo hi H Q => ∃ g c p z, HR (wd X) g c H ∧ Ct (wd X) g H x p ∧ slice p lo hi = some z ∧ isLst z = true ∧ FinO (wd X) g H c Q z) := by
  intro pins s σ H x v vl vu lo hi sl Q I rx hs pl pu h
  obtain ⟨g, c, p, z, hr, cx, e, hz, fin⟩ := h
  unfold slice at e
  split at e
  · cases e; cases hz
  · cases e
    obtain ⟨a, vs, rfl, ea, ra⟩ := cx.lst hr
    exact sl_list pins s σ H _ v vl vu lo hi sl Q I rx hs pl pu ⟨a, vs, rfl, SqL.of ea, fin.newL hr (cut_eq ra lo hi)⟩
  · cases e
theorem sl_pv : SlR X (fun x lo hi H Q => ∃ g c p z, HR (wd X) g c H ∧ Ct (wd X) g H x p ∧ slice p lo hi = some z ∧ Fin (wd X) g H c Q z) := by
  intro pins s σ H x v vl vu lo hi sl Q I rx hs pl pu h
  obtain ⟨g, c, p, z, hr, cx, e, fin⟩ := h
  by_cases hz : isLst z = true
  · exact sl_pvO pins s σ H x v vl vu lo hi sl Q I rx hs pl pu ⟨g, c, p, z, hr, cx, e, hz, fin.own⟩
  unfold slice at e
  split at e
  · rename_i ps
    cases e
    obtain ⟨a, vs, rfl, ea, ra⟩ := cx.tup hr
    refine sl_tupA pins s σ H _ v vl vu lo hi sl Q I rx hs pl pu ⟨a, vs, rfl, ea, fun hw => ?_, fun _ => fin.newT hr (cut_eq ra lo hi)⟩
    rcases cx with cx | ⟨_, _, w⟩
    · refine fin.here hr ?_
      have : cutP ps lo hi = ps := by
        unfold cutP
        rw [sIxP_eq, sIxP_eq, ← ra.length, hw.1, hw.2, List.drop_zero, Nat.sub_zero, ra.length, List.take_length]
      rw [this]; exact cx
    · exact w.elim
  · cases e; exact absurd rfl hz
  · cases e
end
end PP

set_option Elab.async false
set_option linter.all false
set_option maxRecDepth 100000
/-! PP5: built-ins, methods. -/
namespace PP
open PySem PySem.Spec PyProof.Rows L2

/-! ### lists of values to be looked at -/
inductive CtL (T : Wd) (g : Gh) (H : Hp) : List V → List PV → Prop
  | nil : CtL T g H [] []
  | cons {v : V} {p : PV} {vs : List V} {ps : List PV} : Ct T g H v p → CtL T g H vs ps → CtL T g H (v :: vs) (p :: ps)
section
variable {T : Wd} {g : Gh} {H : Hp} {c : List PV}
theorem CtL.one {vs : List V} {p : PV} (x : CtL T g H vs [p]) : ∃ v, vs = [v] ∧ Ct T g H v p := by
  cases x with
  | cons a b => cases b; exact ⟨_, rfl, a⟩
theorem CtL.two {vs : List V} {p q : PV} (x : CtL T g H vs [p, q]) : ∃ v w, vs = [v, w] ∧ Ct T g H v p ∧ Ct T g H w q := by
  cases x with
  | cons a b =>
    obtain ⟨w, rfl, z⟩ := b.one
    exact ⟨_, _, rfl, a, z⟩
theorem RpL.ints_of : ∀ {vs : List V} {ps : List PV} {is : List Int}, RpL T g vs ps → asInts ps = some is → vs = is.map V.int
  | _, _, _, .nil, e => by cases e; rfl
  | _, _, _, .cons (p := p) r t, e => by
    cases p with
    | int i =>
      rw [asInts] at e
      obtain ⟨js, e1, rfl⟩ := Option.map_eq_some_iff.mp e
      cases r
      rw [RpL.ints_of t e1] <;> rfl
    | _ => cases e
theorem RpL.bools_of : ∀ {vs : List V} {ps : List PV} {is : List Bool}, RpL T g vs ps → asBools ps = some is → vs = is.map V.bl
  | _, _, _, .nil, e => by cases e; rfl
  | _, _, _, .cons (p := p) r t, e => by
    cases p with
    | bl i =>
      rw [asBools] at e
      obtain ⟨js, e1, rfl⟩ := Option.map_eq_some_iff.mp e
      cases r
      rw [RpL.bools_of t e1] <;> rfl
    | _ => cases e
theorem RpL.rng (a b : Int) : RpL T g (rgV a b) (rng a b) := by
  unfold rgV PP.rng
  generalize (b - a).toNat = n
  induction List.range n with
  | nil => exact .nil
  | cons i r ih => exact .cons (.int _) ih
end
def rC (T : Wd) (f : List PV → Option PV) : List V → Hp → VK → Prop := fun vs H Q => ∃ g c ps z, HR T g c H ∧ CtL T g H vs ps ∧ f ps = some z ∧ Fin T g H c Q z
def isOwn : PV → Bool
  | .lst _ => true
  | .dic _ => true
  | _ => false
def rCO (T : Wd) (f : List PV → Option PV) : List V → Hp → VK → Prop := fun vs H Q => ∃ g c ps z, HR T g c H ∧ CtL T g H vs ps ∧ f ps = some z ∧ FinO T g H c Q z
section
variable {X : Cx}
theorem b_len : CallR X (.builtin "len") (rC (wd X) (bltop .len)) := by
  intro pins s σ H vs us Q I r h
  obtain ⟨g, c, ps, z, hr, cx, e, fin⟩ := h
  match ps, e with
  | [.tup xs], e =>
    cases e
    obtain ⟨v, rfl, cz⟩ := cx.one
    obtain ⟨a, ws, rfl, ea, ra⟩ := cz.tup hr
    refine call_len pins s σ H _ us Q I r ⟨_, ws.length, rfl, .inr ⟨ws, ea, rfl⟩, ?_⟩
    rw [ra.length]; exact fin.here hr (.int _)
  | [.lst xs], e =>
    cases e
    obtain ⟨v, rfl, cz⟩ := cx.one
    obtain ⟨a, ws, rfl, ea, ra⟩ := cz.lst hr
    refine call_len pins s σ H _ us Q I r ⟨_, ws.length, rfl, .inl ⟨ws, SqL.of ea, rfl⟩, ?_⟩
    rw [ra.length]; exact fin.here hr (.int _)
  | [.str x], e =>
    rw [bltop] at e
    split at e <;> cases e
    rename_i hl
    obtain ⟨v, rfl, cz⟩ := cx.one
    refine call_len pins s σ H _ us Q I r ⟨_, x.length, rfl, ?_, fin.here hr (.int _)⟩
    rw [cz.str]
    exact ⟨by rw [lim_eq]; exact hl, rfl⟩
  | [.dic kvs], e =>
    cases e
    obtain ⟨v, rfl, cz⟩ := cx.one
    obtain ⟨a, o, rfl, ea, d⟩ := cz.dic hr
    obtain ⟨xs, hm, _, hl, _, _⟩ := d.keyed I hr ea
    have hz : (xs.length : Int) < 2 ^ 63 := by
      have q := d.len
      have e : LIM = 16777216 := rfl
      omega
    rw [Vals.ref1 r]
    refine call_len_dictH d.sm hm hz ?_
    refine ⟨.int kvs.length, H, I.tok _, ?_, fin.here hr (.int _)⟩
    rw [hl]; exact ⟨_, rfl⟩
  | [], e => cases e
  | [.non], e => cases e
  | [.bl _], e => cases e
  | [.int _], e => cases e
  | [.cup], e => cases e
  | [.scr _], e => cases e
  | _ :: _ :: _, e => simp [bltop] at e
theorem b_tuple : CallR X (.type "tuple") (rC (wd X) (bltop .tuple)) := by
  intro pins s σ H vs us Q I r h
  obtain ⟨g, c, ps, z, hr, cx, e, fin⟩ := h
  unfold bltop at e
  split at e <;> first | (cases e; done) | skip
  all_goals first | contradiction | skip
  · obtain ⟨v, rfl, cz⟩ := cx.one
    cases e
    obtain ⟨a, ws, rfl, ea, ra⟩ := cz.tup hr
    refine call_tuple_of pins s σ H _ us Q I r ⟨a, ws, rfl, .inr ⟨ea, ?_⟩⟩
    rcases cz with cz | ⟨_, _, w⟩
    · exact fin.here hr cz
    · exact w.elim
  · obtain ⟨v, rfl, cz⟩ := cx.one
    cases e
    obtain ⟨a, ws, rfl, ea, ra⟩ := cz.lst hr
    exact call_tuple_of pins s σ H _ us Q I r ⟨a, ws, rfl, .inl ⟨SqL.of ea, fin.newT hr ra⟩⟩
theorem b_listO : CallR X (.type "list") (rCO (wd X) (bltop .list)) := by
  intro pins s σ H vs us Q I r h
  obtain ⟨g, c, ps, z, hr, cx, e, fin⟩ := h
  unfold bltop at e
  split at e <;> first | (cases e; done) | skip
  all_goals first | contradiction | skip
  · obtain ⟨v, rfl, cz⟩ := cx.one
    cases e
    obtain ⟨a, ws, rfl, ea, ra⟩ := cz.tup hr
    exact call_list_of pins s σ H _ us Q I r ⟨a, ws, rfl, .inr ea, fin.newL hr ra⟩
  · obtain ⟨v, rfl, cz⟩ := cx.one
    cases e
    obtain ⟨a, ws, rfl, ea, ra⟩ := cz.lst hr
    exact call_list_of pins s σ H _ us Q I r ⟨a, ws, rfl, .inl (SqL.of ea), fin.newL hr ra⟩
  · obtain ⟨v, rfl, cz⟩ := cx.one
    cases e
    obtain ⟨a, rfl, ea⟩ := cz.scr hr
    exact call_list_of pins s σ H _ us Q I r ⟨a, _, rfl, .inl ea, fin.newL hr (RpL.ints _)⟩
theorem b_abs : CallR X (.builtin "abs") (rC (wd X) (bltop .abs)) := by
  intro pins s σ H vs us Q I r h
  obtain ⟨g, c, ps, z, hr, cx, e, fin⟩ := h
  unfold bltop at e
  split at e <;> first | (cases e; done) | skip
  all_goals first | contradiction | skip
  obtain ⟨v, rfl, cz⟩ := cx.one
  cases e
  exact call_abs pins s σ H _ us Q I r ⟨_, by rw [cz.int], fin.here hr (.int _)⟩
theorem b_int : CallR X (.type "int") (rC (wd X) (bltop .int)) := by
  intro pins s σ H vs us Q I r h
  obtain ⟨g, c, ps, z, hr, cx, e, fin⟩ := h
  unfold bltop at e
  split at e <;> first | (cases e; done) | skip
  all_goals first | contradiction | skip
  · obtain ⟨v, rfl, cz⟩ := cx.one
    cases e
    exact call_int1 pins s σ H _ us Q I r (.inl ⟨_, by rw [cz.int], fin.here hr (.int _)⟩)
  · obtain ⟨v, rfl, cz⟩ := cx.one
    cases e
    exact call_int1 pins s σ H _ us Q I r (.inr ⟨_, by rw [cz.bl], fin.here hr (.int _)⟩)
theorem b_min2 (hc : X.calm = true) : CallR X (.builtin "min") (rC (wd X) (bltop .min2)) := by
  intro pins s σ H vs us Q I r h
  obtain ⟨g, c, ps, z, hr, cx, e, fin⟩ := h
  unfold bltop at e
  split at e <;> first | (cases e; done) | skip
  all_goals first | contradiction | skip
  obtain ⟨v, w, rfl, cz, cy⟩ := cx.two
  cases e
  exact call_min2 hc pins s σ H _ us Q I r ⟨_, _, by rw [cz.int, cy.int], fin.here hr (.int _)⟩
theorem b_max2 (hc : X.calm = true) : CallR X (.builtin "max") (rC (wd X) (bltop .max2)) := by
  intro pins s σ H vs us Q I r h
  obtain ⟨g, c, ps, z, hr, cx, e, fin⟩ := h
  unfold bltop at e
  split at e <;> first | (cases e; done) | skip
  all_goals first | contradiction | skip
  obtain ⟨v, w, rfl, cz, cy⟩ := cx.two
  cases e
  exact call_max2 hc pins s σ H _ us Q I r ⟨_, _, by rw [cz.int, cy.int], fin.here hr (.int _)⟩
theorem b_sum (hc : X.calm = true) : CallR X (.builtin "sum") (rC (wd X) (bltop .sum)) := by
  intro pins s σ H vs us Q I r h
  obtain ⟨g, c, ps, z, hr, cx, e, fin⟩ := h
  unfold bltop at e
  split at e <;> first | (cases e; done) | skip
  all_goals first | contradiction | skip
  obtain ⟨v, rfl, cz⟩ := cx.one
  obtain ⟨is, e1, rfl⟩ := Option.map_eq_some_iff.mp e
  obtain ⟨a, ws, rfl, ea, ra⟩ := cz.lst hr
  exact cr_sum hc pins s σ H _ us Q I r ⟨a, is, rfl, by rw [← ra.ints_of e1]; exact SqL.of ea, fin.here hr (.int _)⟩
theorem b_all (hc : X.calm = true) : CallR X (.builtin "all") (rC (wd X) (bltop .all)) := by
  intro pins s σ H vs us Q I r h
  obtain ⟨g, c, ps, z, hr, cx, e, fin⟩ := h
  unfold bltop at e
  split at e <;> first | (cases e; done) | skip
  all_goals first | contradiction | skip
  obtain ⟨v, rfl, cz⟩ := cx.one
  obtain ⟨is, e1, rfl⟩ := Option.map_eq_some_iff.mp e
  obtain ⟨a, ws, rfl, ea, ra⟩ := cz.lst hr
  exact cr_all hc pins s σ H _ us Q I r ⟨a, is, rfl, by rw [← ra.bools_of e1]; exact SqL.of ea, fin.here hr (.bl _)⟩
theorem b_any (hc : X.calm = true) : CallR X (.builtin "any") (rC (wd X) (bltop .any)) := by
  intro pins s σ H vs us Q I r h
  obtain ⟨g, c, ps, z, hr, cx, e, fin⟩ := h
  unfold bltop at e
  split at e <;> first | (cases e; done) | skip
  all_goals first | contradiction | skip
  obtain ⟨v, rfl, cz⟩ := cx.one
  obtain ⟨is, e1, rfl⟩ := Option.map_eq_some_iff.mp e
  obtain ⟨a, ws, rfl, ea, ra⟩ := cz.lst hr
  exact cr_any hc pins s σ H _ us Q I r ⟨a, is, rfl, by rw [← ra.bools_of e1]; exact SqL.of ea, fin.here hr (.bl _)⟩
theorem max_mem {is : List Int} {m : Int} (e : is.max? = some m) : 0 < is.length ∧ ∀ k, k ∈ is → (∀ y, y ∈ is → y ≤ k) → k = m := by
  have hm := List.max?_eq_some_iff.mp e
  refine ⟨List.length_pos_iff.mpr (fun z => by rw [z] at hm; cases hm.1), fun k hk hy => Int.le_antisymm (hm.2 k hk) (hy m hm.1)⟩
theorem min_mem {is : List Int} {m : Int} (e : is.min? = some m) : 0 < is.length ∧ ∀ k, k ∈ is → (∀ y, y ∈ is → k ≤ y) → k = m := by
  have hm := List.min?_eq_some_iff.mp e
  refine ⟨List.length_pos_iff.mpr (fun z => by rw [z] at hm; cases hm.1), fun k hk hy => Int.le_antisymm (hy m hm.1) (hm.2 k hk)⟩
theorem b_maxL (hc : X.calm = true) : CallR X (.builtin "max") (rC (wd X) (bltop .maxL)) := by
  intro pins s σ H vs us Q I r h
  obtain ⟨g, c, ps, z, hr, cx, e, fin⟩ := h
  unfold bltop at e
  split at e <;> first | (cases e; done) | skip
  all_goals first | contradiction | skip
  obtain ⟨v, rfl, cz⟩ := cx.one
  obtain ⟨is, e1, e2⟩ := Option.bind_eq_some_iff.mp e
  obtain ⟨m, e3, rfl⟩ := Option.map_eq_some_iff.mp e2
  obtain ⟨a, ws, rfl, ea, ra⟩ := cz.lst hr
  obtain ⟨h1, h2⟩ := max_mem e3
  exact cr_max hc pins s σ H _ us Q I r ⟨a, is, rfl, by rw [← ra.ints_of e1]; exact SqL.of ea, h1, fun k hk hy => by rw [h2 k hk hy]; exact fin.here hr (.int _)⟩
theorem b_minL (hc : X.calm = true) : CallR X (.builtin "min") (rC (wd X) (bltop .minL)) := by
  intro pins s σ H vs us Q I r h
  obtain ⟨g, c, ps, z, hr, cx, e, fin⟩ := h
  unfold bltop at e
  split at e <;> first | (cases e; done) | skip
  all_goals first | contradiction | skip
  obtain ⟨v, rfl, cz⟩ := cx.one
  obtain ⟨is, e1, e2⟩ := Option.bind_eq_some_iff.mp e
  obtain ⟨m, e3, rfl⟩ := Option.map_eq_some_iff.mp e2
  obtain ⟨a, ws, rfl, ea, ra⟩ := cz.lst hr
  obtain ⟨h1, h2⟩ := min_mem e3
  exact cr_min hc pins s σ H _ us Q I r ⟨a, is, rfl, by rw [← ra.ints_of e1]; exact SqL.of ea, h1, fun k hk hy => by rw [h2 k hk hy]; exact fin.here hr (.int _)⟩
end
end PP

set_option Elab.async false
set_option linter.all false
set_option maxRecDepth 100000
/-! PP7: expressions: the hand layer's judgements for pure meanings. -/
namespace PP
open PySem PySem.Spec PyProof.Rows L2

/-! ### an exception, as it is wanted -/
/-- the class named cl, its own dict -/
def ExcR (T : Wd) (mg : Str → Option Value) (g : Gh) (H : Hp) (cl : Str) (arg : PV) (cls : Value) (d : Option Addr) : Prop := mg cl = some cls ∧ (∃ C, cls = .ref C) ∧ match arg with
  | .non => d = none
  | p => ∃ dd nm v, d = some dd ∧ H dd = some (.xd [(nm, v)]) ∧ Rp T g v p

/-- what comes of R is good: K behind, W for an exception -/
def GoodR {α : Type} (T : Wd) (mg : Str → Option Value) (W : WX) (g : Gh) (H : Hp) (σ : L2.St) (K : α → Gh → List PV → Hp → Prop) : R α → Prop
  | .ok a c => ∀ g' H', Pres g H g' H' → HR T g' c H' → K a g' c H'
  | .exc cl arg c => ∀ g' H', Pres g H g' H' → HR T g' c H' → ∀ cls d, ExcR T mg g' H' cl arg cls d → W cls d σ H'
  | .stuck => False
section
variable {α β : Type} {T : Wd} {mg : Str → Option Value} {W : WX} {g g1 : Gh} {H H1 : Hp} {σ : L2.St} {K K' : α → Gh → List PV → Hp → Prop}
theorem GoodR.mono {x : R α} (h : GoodR T mg W g H σ K x) (k : ∀ a g' c H', Pres g H g' H' → HR T g' c H' → K a g' c H' → K' a g' c H') : GoodR T mg W g H σ K' x := by
  cases x with
  | ok a c => exact fun g' H' p q => k a g' c H' p q (h g' H' p q)
  | exc cl arg c => exact h
  | stuck => exact h
theorem GoodR.pres {x : R α} (h : GoodR T mg W g H σ K x) (p : Pres g H g1 H1) : GoodR T mg W g1 H1 σ K x := by
  cases x with
  | ok a c => exact fun g' H' q r => h g' H' (p.trans q) r
  | exc cl arg c => exact fun g' H' q r => h g' H' (p.trans q) r
  | stuck => exact h
theorem GoodR.bind {K : β → Gh → List PV → Hp → Prop} {x : R α} {f : α → List PV → R β} (h : GoodR T mg W g H σ K (x.bind f)) : GoodR T mg W g H σ (fun a g1 c1 H1 => GoodR T mg W g1 H1 σ K (f a c1)) x := by
  cases x with
  | ok a c => exact fun g' H' p q => GoodR.pres (x := f a c) h p
  | exc cl arg c => exact h
  | stuck => exact h
theorem GoodR.pure {K : PV → Gh → List PV → Hp → Prop} {o : Option PV} {c : List PV} (h : GoodR T mg W g H σ K (pureR o c)) : ∃ z, o = some z ∧ ∀ g' H', Pres g H g' H' → HR T g' c H' → K z g' c H' := by
  cases o with
  | some z => exact ⟨z, rfl, h⟩
  | none => exact h.elim
end

/-! ### slots -/
def SlotR (T : Wd) (g : Gh) (H : Hp) (B : Addr → Prop) : Slot → Option (Option V) → Prop
  | .no, _ => True
  | .val p, s => ∃ v, s = some (some v) ∧ Rp T g v p
  | .own p, s => ∃ a, s = some (some (.ref a)) ∧ B a ∧ g.F a = none ∧ OwnR T g H a p
structure EnvR (T : Wd) (g : Gh) (H : Hp) (B : Addr → Prop) (env : Env) (σ : L2.St) : Prop where
  len : σ.length = env.length
  at_ : ∀ (i : Nat) (s : Slot), env[i]? = some s → SlotR T g H B s σ[i]?
  inj : ∀ (i j : Nat) (p q : PV) (a : Addr), env[i]? = some (.own p) → env[j]? = some (.own q) → σ[i]? = some (some (.ref a)) → σ[j]? = some (some (.ref a)) → i = j
section
variable {T : Wd} {g g' : Gh} {H H' : Hp} {B : Addr → Prop} {env : Env} {σ : L2.St}
theorem EnvR.pres (e : EnvR T g H B env σ) (x : Pres g H g' H') : EnvR T g' H' B env σ := by
  refine ⟨e.len, fun i s hs => ?_, e.inj⟩
  have q := e.at_ i s hs
  cases s with
  | no => trivial
  | val p => obtain ⟨v, h1, h2⟩ := q; exact ⟨v, h1, h2.ext x.ext⟩
  | own p =>
    obtain ⟨a, h1, hb, h2, h4⟩ := q
    obtain ⟨u, hu⟩ := h4.there
    refine ⟨a, h1, hb, ?_, h4.pres x⟩
    cases z : g'.F a with
    | none => rfl
    | some o =>
      rcases x.newF a o z with y | y
      · rw [h2] at y; cases y
      · rw [hu] at y; cases y
end

/-! ### the readings -/
abbrev Ev := Env → List PV → R PV
abbrev MG := Str → Option Value
def tR {α : Type} (T : Wd) (mg : MG) (W : WX) (ev : Env → List PV → R α) (K : α → Gh → List PV → Hp → Prop) : L2.St → Hp → Prop := fun σ H => ∃ g env c B, EnvR T g H B env σ ∧ HR T g c H ∧ GoodR T mg W g H σ K (ev env c)
def tE (T : Wd) (mg : MG) (W : WX) (ev : Ev) : TE := fun σ H Q => tR T mg W ev (fun p g' _ H' => ∀ v, Rp T g' v p → Q v H') σ H
def tEb (T : Wd) (mg : MG) (W : WX) (ev : Ev) : TE := fun σ H Q => tR T mg W ev (fun p g' _ H' => ∀ v, Ct T g' H' v p → Q v H') σ H
/-- the value is a new object of one's own -/
def tO (T : Wd) (mg : MG) (W : WX) (ev : Ev) : TE := fun σ H Q => tR T mg W ev (fun p g' _ H' => ∀ a, H a = none → g'.F a = none → g'.c ≠ some a → OwnR T g' H' a p → Q (.ref a) H') σ H
def tT (T : Wd) (mg : MG) (W : WX) (ev : Env → List PV → R Bool) : TT := fun σ H Q => tR T mg W ev (fun b _ _ H' => Q b H') σ H
def tA (T : Wd) (mg : MG) (W : WX) (ev : Env → List PV → R (List PV)) : TA := fun σ H Q => tR T mg W ev (fun ps g' _ H' => ∀ vs, RpL T g' vs ps → Q vs H') σ H
def tAb (T : Wd) (mg : MG) (W : WX) (ev : Env → List PV → R (List PV)) : TA := fun σ H Q => tR T mg W ev (fun ps g' _ H' => ∀ vs, CtL T g' H' vs ps → Q vs H') σ H
abbrev XE' (X : Cx) (W : WX) (e : Expr) (ev : Ev) : Prop := L2.PE X e (tE (wd X) X.mg W ev)
abbrev XB (X : Cx) (W : WX) (e : Expr) (ev : Ev) : Prop := L2.PE X e (tEb (wd X) X.mg W ev)
abbrev XO (X : Cx) (W : WX) (e : Expr) (ev : Ev) : Prop := L2.PE X e (tO (wd X) X.mg W ev)
abbrev XT (X : Cx) (W : WX) (e : Expr) (ev : Env → List PV → R Bool) : Prop := L2.PT X e (tT (wd X) X.mg W ev)
abbrev XA (X : Cx) (W : WX) (es : List Expr) (ev : Env → List PV → R (List PV)) : Prop := L2.PA X es (tA (wd X) X.mg W ev)
abbrev XAb (X : Cx) (W : WX) (es : List Expr) (ev : Env → List PV → R (List PV)) : Prop := L2.PA X es (tAb (wd X) X.mg W ev)
section
variable {X : Cx} {W : WX} {e a b d : Expr} {es : List Expr} {ev ea eb ed : Ev} {pos : Pos} {t t' : TE}
theorem pe_weak (h : L2.PE X e t) (w : ∀ σ H Q, t' σ H Q → t σ H Q) : L2.PE X e t' := ⟨fun pins s σ H Q I q => h.run pins s σ H Q I (w σ H Q q)⟩
theorem pt_weak {t t' : TT} (h : L2.PT X e t) (w : ∀ σ H Q, t' σ H Q → t σ H Q) : L2.PT X e t' := ⟨fun pins s σ H Q I q => h.run pins s σ H Q I (w σ H Q q)⟩
theorem pa_weak {t t' : TA} (h : L2.PA X es t) (w : ∀ σ H Q, t' σ H Q → t σ H Q) : L2.PA X es t' := ⟨fun pos pins s σ H Q I q => h.run pos pins s σ H Q I (w σ H Q q)⟩
theorem tR.mono {α : Type} {T : Wd} {mg : MG} {ev : Env → List PV → R α} {K K' : α → Gh → List PV → Hp → Prop} {σ : L2.St} {H : Hp} (h : tR T mg W ev K σ H) (k : ∀ a g' c H', K a g' c H' → K' a g' c H') : tR T mg W ev K' σ H := by
  obtain ⟨g, env, c, B, er, hr, gd⟩ := h
  exact ⟨g, env, c, B, er, hr, gd.mono fun a g' c H' _ _ z => k a g' c H' z⟩
theorem RpL.ctl {T : Wd} {g : Gh} {H : Hp} : ∀ {vs : List V} {ps : List PV}, RpL T g vs ps → CtL T g H vs ps
  | _, _, .nil => .nil
  | _, _, .cons r t => .cons (.inl r) (RpL.ctl t)
theorem XE'.bor (h : XE' X W e ev) : XB X W e ev := pe_weak h fun σ H Q q => q.mono fun p g' c H' k v r => k v (.inl r)
theorem XA.bor {ev : Env → List PV → R (List PV)} (h : XA X W es ev) : XAb X W es ev := pa_weak h fun σ H Q q => q.mono fun p g' c H' k vs r => k vs r.ctl
/-- frozen -/
theorem XO.frz (h : XO X W e ev) : XE' X W e ev := pe_weak h fun σ H Q q => by
  obtain ⟨g, env, c, B, er, hr, gd⟩ := q
  refine ⟨g, env, c, B, er, hr, ?_⟩
  cases hx : ev env c with
  | ok p c' =>
    rw [hx] at gd
    intro g' H' x hr' a na nf nc o
    obtain ⟨u, eu, r⟩ := o.rp nf
    exact gd (g'.put a u) H' (x.freeze nf na) (hr'.freeze eu nf nc) (.ref a) r
  | exc cl arg c' => rw [hx] at gd; exact gd
  | stuck => rw [hx] at gd; exact gd

/-! ### constants, names -/
theorem x_con {v : V} {p : PV} (h : L2.PE X e (tC v)) (r : ∀ g : Gh, Rp (wd X) g v p) : XE' X W e (fun _ c => .ok p c) := pe_weak h fun σ H Q q => by
  obtain ⟨g, env, c, B, er, hr, gd⟩ := q
  exact gd g H Pres.refl hr v (r g)
theorem x_int {i j pos} : XE' X W (.Constant (.int i) j pos) (fun _ c => .ok (.int i) c) := x_con pe_int fun _ => .int i
theorem x_bl {b j pos} : XE' X W (.Constant (.bool b) j pos) (fun _ c => .ok (.bl b) c) := x_con pe_bl fun _ => .bl b
theorem x_non {j pos} : XE' X W (.Constant .none j pos) (fun _ c => .ok .non c) := x_con pe_non fun _ => .non
theorem x_str {x j pos} : XE' X W (.Constant (.str x) j pos) (fun _ c => .ok (.str x) c) := x_con pe_str fun _ => .str x
theorem x_var {i : Nat} {x : Str} (h : L2.PE X (.Name x pos) (tVar i)) : XE' X W (.Name x pos) (fun env c => pureR (varv env i) c) := pe_weak h fun σ H Q q => by
  obtain ⟨g, env, c, B, er, hr, gd⟩ := q
  obtain ⟨z, ez, k⟩ := gd.pure
  unfold varv at ez
  split at ez <;> cases ez
  rename_i hs
  obtain ⟨v, h1, h2⟩ := er.at_ i _ hs
  exact ⟨v, h1, k g H Pres.refl hr v h2⟩
theorem x_bor {i : Nat} {x : Str} (h : L2.PE X (.Name x pos) (tVar i)) : XB X W (.Name x pos) (fun env c => pureR (borv env i) c) := pe_weak h fun σ H Q q => by
  obtain ⟨g, env, c, B, er, hr, gd⟩ := q
  obtain ⟨z, ez, k⟩ := gd.pure
  unfold borv at ez
  split at ez <;> cases ez
  · rename_i hs
    obtain ⟨v, h1, h2⟩ := er.at_ i _ hs
    exact ⟨v, h1, k g H Pres.refl hr v (.inl h2)⟩
  · rename_i hs
    obtain ⟨a, h1, _, h2, h4⟩ := er.at_ i _ hs
    exact ⟨.ref a, h1, k g H Pres.refl hr _ (.inr ⟨a, rfl, h4⟩)⟩

/-! ### two in a row -/
theorem tR.one {α γ : Type} {T : Wd} {mg : MG} {ea : Env → List PV → R α} {f : α → List PV → R γ} {K : γ → Gh → List PV → Hp → Prop} {σ : L2.St} {H : Hp}
    (h : tR T mg W (fun env c => (ea env c).bind fun x c => f x c) K σ H) :
    tR T mg W ea (fun x g1 c1 H1 => HR T g1 c1 H1 ∧ (∀ a, H1 a = none → H a = none) ∧ GoodR T mg W g1 H1 σ K (f x c1)) σ H := by
  obtain ⟨g, env, c, B, er, hr, gd⟩ := h
  exact ⟨g, env, c, B, er, hr, gd.bind.mono fun x g1 c1 H1 p1 h1 k1 => ⟨h1, fun a => p1.dead, k1⟩⟩
theorem tR.two {α β γ : Type} {T : Wd} {mg : MG} {ea : Env → List PV → R α} {eb : Env → List PV → R β} {f : α → β → List PV → R γ} {K : γ → Gh → List PV → Hp → Prop} {σ : L2.St} {H : Hp}
    (h : tR T mg W (fun env c => (ea env c).bind fun x c => (eb env c).bind fun y c => f x y c) K σ H) :
    tR T mg W ea (fun x g1 c1 H1 => tR T mg W eb (fun y g2 c2 H2 => Pres g1 H1 g2 H2 ∧ (∀ a, H2 a = none → H a = none) ∧ HR T g2 c2 H2 ∧ GoodR T mg W g2 H2 σ K (f x y c2)) σ H1) σ H := by
  obtain ⟨g, env, c, B, er, hr, gd⟩ := h
  refine ⟨g, env, c, B, er, hr, gd.bind.mono fun x g1 c1 H1 p1 h1 k1 => ?_⟩
  exact ⟨g1, env, c1, B, er.pres p1, h1, k1.bind.mono fun y g2 c2 H2 p2 h2 k2 => ⟨p2, fun a z => p1.dead (p2.dead z), h2, k2⟩⟩
/-- two operands of a rule by values -/
theorem tR.op {T : Wd} {mg : MG} {f : PV → PV → List PV → Option PV} {σ : L2.St} {H : Hp} {Q : VK} {ta tb : TE} (r : R2)
    (h : tE T mg W (fun env c => (ea env c).bind fun x c => (eb env c).bind fun y c => pureR (f x y c) c) σ H Q)
    (ha : ta = tEb T mg W ea) (hb : tb = tEb T mg W eb)
    (hr : ∀ x y H Q g c p q z, HR T g c H → Ct T g H x p → Ct T g H y q → f p q c = some z → Fin T g H c Q z → r x y H Q) : tOp r ta tb σ H Q := by
  subst ha hb
  refine h.two.mono fun x g1 c1 H1 k v cv => ?_
  refine k.mono fun y g2 c2 H2 ⟨p2, _, h2, k2⟩ w cw => ?_
  obtain ⟨z, ez, kz⟩ := k2.pure
  exact hr v w H2 Q g2 c2 x y z h2 (cv.pres p2) cw ez fun g' H' u p' h' ru => kz g' H' p' h' u ru
theorem tR.opO {T : Wd} {mg : MG} {f : PV → PV → List PV → Option PV} {σ : L2.St} {H : Hp} {Q : VK} {ta tb : TE} (r : R2)
    (h : tO T mg W (fun env c => (ea env c).bind fun x c => (eb env c).bind fun y c => pureR (f x y c) c) σ H Q)
    (ha : ta = tEb T mg W ea) (hb : tb = tEb T mg W eb)
    (hr : ∀ x y H Q g c p q z, HR T g c H → Ct T g H x p → Ct T g H y q → f p q c = some z → FinO T g H c Q z → r x y H Q) : tOp r ta tb σ H Q := by
  subst ha hb
  refine h.two.mono fun x g1 c1 H1 k v cv => ?_
  refine k.mono fun y g2 c2 H2 ⟨p2, d2, h2, k2⟩ w cw => ?_
  obtain ⟨z, ez, kz⟩ := k2.pure
  exact hr v w H2 Q g2 c2 x y z h2 (cv.pres p2) cw ez fun g' H' a p' h' na nf nc o => kz g' H' p' h' a (d2 a na) nf nc o
theorem x_bin (o : Bop) (ha : XB X W a ea) (hb : XB X W b eb) : XE' X W (.BinOp a (bopOf o) b pos) (fun env c => (ea env c).bind fun x c => (eb env c).bind fun y c => pureR (binop o x y) c) :=
  pe_weak (pe_op (op_bin o) ha hb) fun σ H Q h => tR.op (f := fun x y _ => binop o x y) _ h rfl rfl fun x y H Q g c p q z h1 h2 h3 h4 h5 => ⟨g, c, p, q, z, h1, h2, h3, h4, h5⟩
end
end PP

set_option Elab.async false
set_option linter.all false
set_option maxRecDepth 100000
/-! PP8: more expressions; tests. -/
namespace PP
open PySem PySem.Spec PyProof.Rows L2

theorem ownO_some {o : Option PV} {z : PV} (h : ownO o = some z) : o = some z ∧ isOwn z = true := by
  unfold ownO at h
  split at h <;> cases h <;> exact ⟨rfl, rfl⟩
section
variable {X : Cx} {W : WX} {e a b d : Expr} {es : List Expr} {ev ea eb ed : Ev} {et eu : Env → List PV → R Bool} {pos : Pos} {rest : List Expr}
theorem binop_dic {o : Bop} {p q : PV} {z : PV} (h : binop o p q = some z) (hz : isOwn z = true) : isLst z = true := by
  unfold binop at h
  split at h <;> first | (cases h; done) | skip
  all_goals first | (cases h; cases hz; done) | skip
  · unfold mkStr at h; split at h <;> cases h; cases hz
  · unfold mkTup at h; split at h <;> cases h; cases hz
  · unfold mkLst at h; split at h <;> cases h; rfl
  all_goals first | (split at h <;> cases h <;> first | rfl | (cases hz; done)) | skip
theorem x_binO (o : Bop) (ha : XB X W a ea) (hb : XB X W b eb) : XO X W (.BinOp a (bopOf o) b pos) (fun env c => (ea env c).bind fun x c => (eb env c).bind fun y c => pureR (ownO (binop o x y)) c) :=
  pe_weak (pe_op (op_binO o) ha hb) fun σ H Q h => tR.opO (f := fun x y _ => ownO (binop o x y)) _ h rfl rfl fun x y H Q g c p q z h1 h2 h3 h4 h5 =>
    ⟨g, c, p, q, z, h1, h2, h3, (ownO_some h4).1, binop_dic (ownO_some h4).1 (ownO_some h4).2, h5⟩
theorem x_neg (ha : XB X W a ea) : XE' X W (.UnaryOp .USub a pos) (fun env c => (ea env c).bind fun x c => match x with
    | .int i => .ok (.int (-i)) c
    | _ => .stuck) := pe_weak (pe_un un_neg ha) fun σ H Q h => by
  refine h.one.mono fun x g1 c1 H1 ⟨h1, _, k⟩ v cv => ?_
  cases x with
  | int i => exact ⟨i, cv.int, k g1 H1 Pres.refl h1 _ (.int _)⟩
  | _ => exact k.elim
/-! ### tests -/
/-- the truth of a value -/
theorem t_tru {σ : L2.St} {H : Hp} {K : Bool → Gh → List PV → Hp → Prop} (h : tR (wd X) X.mg W (fun env c => truthR (ea env c)) K σ H) :
    tR (wd X) X.mg W ea (fun p g1 c1 H1 => ∃ b, truth p = some b ∧ HR (wd X) g1 c1 H1 ∧ K b g1 c1 H1) σ H := by
  refine (tR.one (f := fun v c => match truth v with
    | some b => .ok b c
    | none => .stuck) h).mono fun p g1 c1 H1 ⟨h1, _, k⟩ => ?_
  cases hp : truth p with
  | some b => rw [hp] at k; exact ⟨b, rfl, h1, k g1 H1 Pres.refl h1⟩
  | none => rw [hp] at k; exact k.elim
theorem xt_val (ha : XB X W a ea) (he : ∀ whole, isTrue a X.env whole = (do let v ← whole; standAt a.pos; holding [v] (truthy v))) : XT X W a (fun env c => truthR (ea env c)) :=
  pt_weak (pt_truth ha he) fun σ H Q h => (t_tru h).mono fun p g1 c1 H1 ⟨b, e1, h1, k⟩ v cv => ⟨b, tru_pv h1 cv e1, k⟩
theorem xt_not (ha : XT X W a et) : XT X W (.UnaryOp .Not a pos) (fun env c => (et env c).bind fun b c => .ok (!b) c) :=
  pt_weak (pt_not ha) fun σ H Q h => h.one.mono fun b g1 c1 H1 ⟨h1, _, k⟩ => k g1 H1 Pres.refl h1
theorem xt_ite (ht : XT X W d et) (ha : XB X W a ea) (hb : XB X W b eb) : XB X W (.IfExp d a b pos) (fun env c => (et env c).bind fun k c => if k then ea env c else eb env c) :=
  pe_weak (pe_ifExp ht ha hb) fun σ H Q h => by
    obtain ⟨g, env, c, B, er, hr, gd⟩ := h
    refine ⟨g, env, c, B, er, hr, gd.bind.mono fun k g1 c1 H1 p1 h1 k1 => ?_⟩
    cases k with
    | true => exact ⟨g1, env, c1, B, er.pres p1, h1, k1⟩
    | false => exact ⟨g1, env, c1, B, er.pres p1, h1, k1⟩
theorem x_ite (ht : XT X W d et) (ha : XE' X W a ea) (hb : XE' X W b eb) : XE' X W (.IfExp d a b pos) (fun env c => (et env c).bind fun k c => if k then ea env c else eb env c) :=
  pe_weak (pe_ifExp ht ha hb) fun σ H Q h => by
    obtain ⟨g, env, c, B, er, hr, gd⟩ := h
    refine ⟨g, env, c, B, er, hr, gd.bind.mono fun k g1 c1 H1 p1 h1 k1 => ?_⟩
    cases k with
    | true => exact ⟨g1, env, c1, B, er.pres p1, h1, k1⟩
    | false => exact ⟨g1, env, c1, B, er.pres p1, h1, k1⟩
/-- a comparison -/
theorem x_cmp (hu : X.A.units + 70 < cLine) (o : Cop) (ha : XB X W a ea) (hb : XB X W b eb) (hm : behindInMarks (copOf o) b = false) : XE' X W (.Compare a [copOf o] [b] pos) (fun env c => (ea env c).bind fun x c => (eb env c).bind fun y c => pureR (cmpop o x y) c) :=
  pe_weak (pe_cmpR (op_cmp hu o) ha hb hm) fun σ H Q h => tR.op (f := fun x y _ => cmpop o x y) _ h rfl rfl fun x y H Q g c p q z h1 h2 h3 h4 h5 => ⟨g, c, p, q, z, h1, h2, h3, h4, h5⟩
theorem cmpop_bl {o : Cop} {p q z : PV} (h : cmpop o p q = some z) : ∃ b, z = .bl b := by
  unfold cmpop at h
  split at h <;> first | (cases h; done) | skip
  all_goals first
    | (split at h <;> cases h <;> exact ⟨_, rfl⟩)
    | (cases h; exact ⟨_, rfl⟩)
    | (obtain ⟨b, _, rfl⟩ := Option.map_eq_some_iff.mp h; exact ⟨b, rfl⟩)
theorem xt_cmp (hu : X.A.units + 70 < cLine) (o : Cop) (ha : XB X W a ea) (hb : XB X W b eb) (hm : behindInMarks (copOf o) b = false) : XT X W (.Compare a [copOf o] [b] pos) (fun env c => truthR ((ea env c).bind fun x c => (eb env c).bind fun y c => pureR (cmpop o x y) c)) :=
  pt_weak (pt_cmpR (op_cmp hu o) ha hb hm) fun σ H Q h => by
    have h' := t_tru (ea := fun env c => (ea env c).bind fun x c => (eb env c).bind fun y c => pureR (cmpop o x y) c) h
    refine h'.two.mono fun x g1 c1 H1 k v cv => ?_
    refine k.mono fun y g2 c2 H2 ⟨p2, _, h2, k2⟩ w cw => ?_
    obtain ⟨z, ez, kz⟩ := k2.pure
    refine ⟨g2, c2, x, y, z, h2, cv.pres p2, cw, ez, fun g' H' u p' h' ru => ?_⟩
    obtain ⟨b, eb, _, kk⟩ := kz g' H' p' h'
    obtain ⟨b', rfl⟩ := cmpop_bl ez
    cases eb
    cases ru
    exact ⟨_, rfl, kk⟩
/-- a <= b <= d -/
def chainR (ea eb ed : Ev) : Ev := fun env c => (ea env c).bind fun x c => (eb env c).bind fun y c => match cmpop .le x y with
    | some (.bl true) => (ed env c).bind fun z c => pureR (cmpop .le y z) c
    | some (.bl false) => .ok (.bl false) c
    | _ => .stuck
theorem chain_read {T : Wd} {mg : MG} {σ : L2.St} {H : Hp} {Q : V → Hp → Prop} {K : PV → Gh → List PV → Hp → Prop} (hk : ∀ b g' c' H', HR T g' c' H' → K (.bl b) g' c' H' → Q (.bl b) H') (h : tR T mg W (chainR ea eb ed) K σ H) :
    tChain (rB T (cmpop .le)) (rB T (cmpop .le)) (tEb T mg W ea) (tEb T mg W eb) (tEb T mg W ed) σ H Q := by
  obtain ⟨g, env, c, B, er, hr, gd⟩ := h
  refine ⟨g, env, c, B, er, hr, gd.bind.mono fun x g1 c1 H1 p1 h1 k1 v cv => ?_⟩
  refine ⟨g1, env, c1, B, er.pres p1, h1, k1.bind.mono fun y g2 c2 H2 p2 h2 k2 w cw => ?_⟩
  cases hz : cmpop .le x y with
  | none => rw [hz] at k2; exact k2.elim
  | some z =>
    rw [hz] at k2
    obtain ⟨b, rfl⟩ := cmpop_bl hz
    refine ⟨g2, c2, x, y, .bl b, h2, cv.pres p2, cw, hz, fun g3 H3 u p3 h3 ru => ?_⟩
    cases ru
    refine ⟨b, rfl, ?_⟩
    cases b with
    | false => exact hk _ g3 c2 H3 h3 (k2 g3 H3 p3 h3)
    | true =>
      rw [if_pos rfl]
      refine ⟨g3, env, c2, B, ((er.pres p1).pres p2).pres p3, h3, ((k2.pres p3).bind).mono fun z' g4 c4 H4 p4 h4 k4 w' cw' => ?_⟩
      obtain ⟨q, eq, kq⟩ := k4.pure
      refine ⟨g4, c4, y, z', q, h4, (cw.pres p3).pres p4, cw', eq, fun g5 H5 u5 p5 h5 ru5 => ?_⟩
      obtain ⟨b5, rfl⟩ := cmpop_bl eq
      cases ru5
      exact hk _ g5 c4 H5 h5 (kq g5 H5 p5 h5)
theorem x_chain (hu : X.A.units + 70 < cLine) (ha : XB X W a ea) (hb : XB X W b eb) (hd : XB X W d ed) (hm : lastMarks [.LtE, .LtE] [b, d] = false) : XE' X W (.Compare a [.LtE, .LtE] [b, d] pos) (chainR ea eb ed) :=
  pe_weak (pe_chain (op_cmp hu .le) (op_cmp hu .le) ha hb hd hm) fun σ H Q h => chain_read (fun b g' c' H' h' k => k _ (.bl b)) h
theorem xt_chain (hu : X.A.units + 70 < cLine) (ha : XB X W a ea) (hb : XB X W b eb) (hd : XB X W d ed) (hm : lastMarks [.LtE, .LtE] [b, d] = false) : XT X W (.Compare a [.LtE, .LtE] [b, d] pos) (fun env c => truthR (chainR ea eb ed env c)) :=
  pt_weak (pt_chain (op_cmp hu .le) (op_cmp hu .le) ha hb hd hm) fun σ H Q h => chain_read (fun b g' c' H' h' ⟨b', e1, _, k⟩ => by cases e1; exact ⟨_, rfl, k⟩) (t_tru (ea := chainR ea eb ed) h)
/-! ### and, or -/
def andR (ea eb : Ev) : Ev := fun env c => (ea env c).bind fun x c => match truth x with
    | some true => eb env c
    | some false => .ok x c
    | none => .stuck
def orR (ea eb : Ev) : Ev := fun env c => (ea env c).bind fun x c => match truth x with
    | some true => .ok x c
    | some false => eb env c
    | none => .stuck
theorem xt_and1 (ha : XT X W a et) : L2.PW X (.BoolOp .And [a] pos) (tT (wd X) X.mg W et) := pw_and1 ha
theorem xt_or1 (ha : XT X W a et) : L2.PW X (.BoolOp .Or [a] pos) (tT (wd X) X.mg W et) := pw_or1 ha
theorem pw_weak {t t' : TT} (h : L2.PW X e t) (w : ∀ σ H Q, t' σ H Q → t σ H Q) : L2.PW X e t' := ⟨fun wh pins s σ H Q I q => h.run wh pins s σ H Q I (w σ H Q q)⟩
theorem xt_and (ha : XT X W a (fun env c => truthR (ea env c))) (hb : L2.PW X (.BoolOp .And (b :: rest) pos) (tT (wd X) X.mg W fun env c => truthR (eb env c))) :
    L2.PW X (.BoolOp .And (a :: b :: rest) pos) (tT (wd X) X.mg W fun env c => truthR (andR ea eb env c)) :=
  pw_weak (pw_and ha hb) fun σ H Q h => by
    obtain ⟨g, env, c, B, er, hr, gd⟩ := h
    refine ⟨g, env, c, B, er, hr, ?_⟩
    have gd : GoodR (wd X) X.mg W g H σ (fun b _ _ H' => Q b H') (truthR (andR ea eb env c)) := gd
    show GoodR (wd X) X.mg W g H σ _ (truthR (ea env c))
    unfold truthR andR at gd
    unfold truthR
    cases hx : ea env c with
    | stuck => rw [hx] at gd; exact gd
    | exc cl arg c1 => rw [hx] at gd; exact gd
    | ok p c1 =>
      rw [hx] at gd
      simp only [R.bind_ok] at gd ⊢
      cases hp : truth p with
      | none => rw [hp] at gd; exact gd
      | some k =>
        rw [hp] at gd
        intro g1 H1 p1 h1
        cases k with
        | true => exact ⟨g1, env, c1, B, er.pres p1, h1, gd.pres p1⟩
        | false =>
          simp only [R.bind_ok, hp] at gd
          exact gd g1 H1 p1 h1
theorem xt_or (ha : XT X W a (fun env c => truthR (ea env c))) (hb : L2.PW X (.BoolOp .Or (b :: rest) pos) (tT (wd X) X.mg W fun env c => truthR (eb env c))) :
    L2.PW X (.BoolOp .Or (a :: b :: rest) pos) (tT (wd X) X.mg W fun env c => truthR (orR ea eb env c)) :=
  pw_weak (pw_or ha hb) fun σ H Q h => by
    obtain ⟨g, env, c, B, er, hr, gd⟩ := h
    refine ⟨g, env, c, B, er, hr, ?_⟩
    have gd : GoodR (wd X) X.mg W g H σ (fun b _ _ H' => Q b H') (truthR (orR ea eb env c)) := gd
    show GoodR (wd X) X.mg W g H σ _ (truthR (ea env c))
    unfold truthR orR at gd
    unfold truthR
    cases hx : ea env c with
    | stuck => rw [hx] at gd; exact gd
    | exc cl arg c1 => rw [hx] at gd; exact gd
    | ok p c1 =>
      rw [hx] at gd
      simp only [R.bind_ok] at gd ⊢
      cases hp : truth p with
      | none => rw [hp] at gd; exact gd
      | some k =>
        rw [hp] at gd
        intro g1 H1 p1 h1
        cases k with
        | false => exact ⟨g1, env, c1, B, er.pres p1, h1, gd.pres p1⟩
        | true =>
          simp only [R.bind_ok, hp] at gd
          exact gd g1 H1 p1 h1
theorem x_and (ha : XE' X W a ea) (hb : XE' X W (.BoolOp .And (b :: rest) pos) eb) : XE' X W (.BoolOp .And (a :: b :: rest) pos) (andR ea eb) :=
  pe_weak (pe_andT ha hb) fun σ H Q h => by
    obtain ⟨g, env, c, B, er, hr, gd⟩ := h
    refine ⟨g, env, c, B, er, hr, gd.bind.mono fun p g1 c1 H1 p1 h1 k1 v rv => ?_⟩
    cases hp : truth p with
    | none => rw [hp] at k1; exact k1.elim
    | some k =>
      rw [hp] at k1
      refine ⟨k, tru_pv h1 (.inl rv) hp, ?_⟩
      cases k with
      | true => exact ⟨g1, env, c1, B, er.pres p1, h1, k1⟩
      | false => exact k1 g1 H1 Pres.refl h1 v rv
theorem x_or (ha : XE' X W a ea) (hb : XE' X W (.BoolOp .Or (b :: rest) pos) eb) : XE' X W (.BoolOp .Or (a :: b :: rest) pos) (orR ea eb) :=
  pe_weak (pe_orT ha hb) fun σ H Q h => by
    obtain ⟨g, env, c, B, er, hr, gd⟩ := h
    refine ⟨g, env, c, B, er, hr, gd.bind.mono fun p g1 c1 H1 p1 h1 k1 v rv => ?_⟩
    cases hp : truth p with
    | none => rw [hp] at k1; exact k1.elim
    | some k =>
      rw [hp] at k1
      refine ⟨k, tru_pv h1 (.inl rv) hp, ?_⟩
      cases k with
      | false => exact ⟨g1, env, c1, B, er.pres p1, h1, k1⟩
      | true => exact k1 g1 H1 Pres.refl h1 v rv
theorem x_one {op} (ha : XE' X W a ea) : XE' X W (.BoolOp op [a] pos) ea := pe_one ha
theorem x_nt (ha : XB X W a ea) : XE' X W (.UnaryOp .Not a pos) (fun env c => (truthR (ea env c)).bind fun b c => .ok (.bl (!b)) c) :=
  pe_weak (pe_notT ha) fun σ H Q h => by
    have h1 := tR.one (α := Bool) (γ := PV) (ea := fun env c => truthR (ea env c)) (f := fun b c => R.ok (PV.bl (!b)) c) (K := fun p g' _ H' => ∀ v, Rp (wd X) g' v p → Q v H') h
    refine (t_tru h1).mono fun p g1 c1 H1 ⟨b, e1, h1, h2, _, k⟩ v cv => ⟨b, tru_pv h1 cv e1, k g1 H1 Pres.refl h1 _ (.bl _)⟩
/-! ### lists of expressions, displays -/
theorem xa_nil : XA X W [] (fun _ c => .ok [] c) := pa_weak pa_nil fun σ H Q h => by
  obtain ⟨g, env, c, B, er, hr, gd⟩ := h
  exact gd g H Pres.refl hr [] .nil
theorem RpL.ext' {T : Wd} {g g' : Gh} {vs : List V} {ps : List PV} (r : RpL T g vs ps) (x : Ext g g') : RpL T g' vs ps := RpL.ext x r
theorem xa_cons {er : Env → List PV → R (List PV)} (ha : XE' X W e ev) (hr : XA X W es er) (hs : starEach (e :: es) X.env = (false, eval e X.env) :: starEach es X.env) :
    XA X W (e :: es) (fun env c => (ev env c).bind fun x c => (er env c).bind fun xs c => .ok (x :: xs) c) :=
  pa_weak (pa_cons ha hr hs) fun σ H Q h => h.two.mono fun x g1 c1 H1 k v rv => k.mono fun xs g2 c2 H2 ⟨p2, _, h2, k2⟩ vs rvs => k2 g2 H2 Pres.refl h2 _ (.cons (rv.ext p2.ext) rvs)
theorem CtL.pres {T : Wd} {g g' : Gh} {H H' : Hp} (x : Pres g H g' H') : ∀ {vs : List V} {ps : List PV}, CtL T g H vs ps → CtL T g' H' vs ps
  | _, _, .nil => .nil
  | _, _, .cons a b => .cons (a.pres x) (CtL.pres x b)
theorem xab_nil : XAb X W [] (fun _ c => .ok [] c) := xa_nil.bor
theorem xab_cons {er : Env → List PV → R (List PV)} (ha : XB X W e ev) (hr : XAb X W es er) (hs : starEach (e :: es) X.env = (false, eval e X.env) :: starEach es X.env) :
    XAb X W (e :: es) (fun env c => (ev env c).bind fun x c => (er env c).bind fun xs c => .ok (x :: xs) c) :=
  pa_weak (pa_cons ha hr hs) fun σ H Q h => h.two.mono fun x g1 c1 H1 k v rv => k.mono fun xs g2 c2 H2 ⟨p2, _, h2, k2⟩ vs rvs => k2 g2 H2 Pres.refl h2 _ (.cons (rv.pres p2) rvs)
theorem x_tup {x1} {er : Env → List PV → R (List PV)} (h : XA X W es er) : XE' X W (.Tuple es x1 pos) (fun env c => (er env c).bind fun xs c => pureR (mkTup xs) c) :=
  pe_weak (pe_tup h) fun σ H Q q => q.one.mono fun ps g1 c1 H1 ⟨h1, _, k⟩ vs rv => by
    obtain ⟨z, ez, kz⟩ := k.pure
    unfold mkTup at ez
    split at ez <;> cases ez
    rename_i hl
    exact ⟨by rw [rv.length, lim_eq]; exact hl, Fin.newT (T := wd X) (c := c1) (fun g' H' v p' h' r => kz g' H' p' h' v r) h1 rv⟩
theorem x_lstO {er : Env → List PV → R (List PV)} (h : XA X W es er) : XO X W (.List es pos) (fun env c => (er env c).bind fun xs c => pureR (mkLst xs) c) :=
  pe_weak (pe_lst h) fun σ H Q q => q.one.mono fun ps g1 c1 H1 ⟨h1, d1, k⟩ vs rv => by
    obtain ⟨z, ez, kz⟩ := k.pure
    unfold mkLst at ez
    split at ez <;> cases ez
    rename_i hl
    exact ⟨by rw [rv.length, lim_eq]; exact hl, FinO.newL (T := wd X) (c := c1) (fun g' H' a p' h' na nf nc o => kz g' H' p' h' a (d1 a na) nf nc o) h1 rv⟩
/-! ### subscripts, slices -/
theorem tR.opc {T : Wd} {mg : MG} {f : PV → PV → List PV → Option PV} {σ : L2.St} {H : Hp} {Q : VK} (r : R2)
    (h : tE T mg W (fun env c => (ea env c).bind fun x c => (eb env c).bind fun y c => pureR (f x y c) c) σ H Q)
    (hr : ∀ x y H Q g c p q z, HR T g c H → Ct T g H x p → Ct T g H y q → f p q c = some z → Fin T g H c Q z → r x y H Q) : tOp r (tEb T mg W ea) (tEb T mg W eb) σ H Q := tR.op r h rfl rfl hr
theorem x_ix (hu : X.A.units + 70 < cLine) (ha : XB X W a ea) (hb : XB X W b eb) (hs : PlainIx b) : XE' X W (.Subscript a b pos) (fun env c => (ea env c).bind fun x c => (eb env c).bind fun y c => pureR (item x y c) c) :=
  pe_weak (pe_ix (ix_pv hu) ha hb hs) fun σ H Q h => tR.opc (f := item) _ h fun x y H Q g c p q z h1 h2 h3 h4 h5 => ⟨g, c, p, q, z, h1, h2, h3, h4, h5⟩
end
/-! ### the parts of a slice -/
abbrev EvO := Env → List PV → R (Option Int)
def tPO (T : Wd) (mg : MG) (W : WX) (ev : EvO) : TO := fun σ H Q => tR T mg W ev (fun o _ _ H' => Q o H') σ H
abbrev XP (X : Cx) (W : WX) (e : Option Expr) (ev : EvO) : Prop := L2.PO X e (tPO (wd X) X.mg W ev)
section
variable {X : Cx} {W : WX} {e a b d : Expr} {es : List Expr} {ev ea eb ed : Ev} {pos p2 : Pos} {lo hi : Option Expr} {el eh : EvO}
theorem po_weak {e : Option Expr} {t t' : TO} (h : L2.PO X e t) (w : ∀ σ H Q, t' σ H Q → t σ H Q) : L2.PO X e t' := ⟨fun pins s σ H Q I q => h.run pins s σ H Q I (w σ H Q q)⟩
theorem xp_none : XP X W none (fun _ c => .ok none c) := po_weak po_none fun σ H Q h => by
  obtain ⟨g, env, c, B, er, hr, gd⟩ := h
  exact gd g H Pres.refl hr
theorem xp_some (h : XB X W e ev) : XP X W (some e) (fun env c => (ev env c).bind fun x c => match x with
    | .int i => .ok (some i) c
    | _ => .stuck) := po_weak (po_some h) fun σ H Q q => q.one.mono fun x g1 c1 H1 ⟨h1, _, k⟩ v cv => by
  cases x with
  | int i => exact ⟨i, cv.int, k g1 H1 Pres.refl h1⟩
  | _ => exact k.elim
theorem sl_read {T : Wd} {mg : MG} {K : PV → Gh → List PV → Hp → Prop} {σ : L2.St} {H : Hp} {R2' : V → Option Int → Option Int → Hp → Prop}
    (h : tR T mg W (fun env c => (ea env c).bind fun x c => (el env c).bind fun l c => (eh env c).bind fun h c => pureR (slice x l h) c) K σ H)
    (hr : ∀ x l u H2 g c p z, HR T g c H2 → Ct T g H2 x p → slice p l u = some z → (∀ a, H2 a = none → H a = none) → (∀ g' H', Pres g H2 g' H' → HR T g' c H' → K z g' c H') → R2' x l u H2) :
    tEb T mg W ea σ H (fun x H1 => tPO T mg W el σ H1 fun l H2 => tPO T mg W eh σ H2 fun u H3 => R2' x l u H3) := by
  obtain ⟨g, env, c, B, er, h0, gd⟩ := h
  refine ⟨g, env, c, B, er, h0, gd.bind.mono fun x g1 c1 H1 p1 h1 k1 v cv => ?_⟩
  refine ⟨g1, env, c1, B, er.pres p1, h1, k1.bind.mono fun l g2 c2 H2 p2 h2 k2 => ?_⟩
  refine ⟨g2, env, c2, B, (er.pres p1).pres p2, h2, k2.bind.mono fun u g3 c3 H3 p3 h3 k3 => ?_⟩
  obtain ⟨z, ez, kz⟩ := k3.pure
  exact hr v l u H3 g3 c3 x z h3 ((cv.pres p2).pres p3) ez (fun a na => p1.dead (p2.dead (p3.dead na))) kz
theorem x_sl (ha : XB X W a ea) (hl : XP X W lo el) (hh : XP X W hi eh) : XE' X W (.Subscript a (.Slice lo hi none p2) pos) (fun env c => (ea env c).bind fun x c => (el env c).bind fun l c => (eh env c).bind fun h c => pureR (slice x l h) c) :=
  pe_weak (pe_slice sl_pv ha hl hh) fun σ H Q h => sl_read h fun x l u H2 g c p z h1 h2 h3 _ h5 => ⟨g, c, p, z, h1, h2, h3, fun g' H' v p' h' r => h5 g' H' p' h' v r⟩
theorem slice_own {p z : PV} {l u : Option Int} (h : slice p l u = some z) (hz : isOwn z = true) : isLst z = true := by
  unfold slice at h
  split at h <;> cases h <;> first | rfl | cases hz
theorem x_slO (ha : XB X W a ea) (hl : XP X W lo el) (hh : XP X W hi eh) : XO X W (.Subscript a (.Slice lo hi none p2) pos) (fun env c => ((ea env c).bind fun x c => (el env c).bind fun l c => (eh env c).bind fun h c => pureR (slice x l h) c).bind fun z c => pureR (ownO (some z)) c) :=
  pe_weak (pe_slice sl_pvO ha hl hh) fun σ H Q h => by
    have h1 := tR.one (f := fun z c => pureR (ownO (some z)) c) h
    refine sl_read h1 fun x l u H2 g c p z h1 h2 h3 hd h5 => ⟨g, c, p, z, h1, h2, h3, ?_, fun g' H' a p' h' na nf nc o => ?_⟩
    · obtain ⟨_, _, k⟩ := h5 g H2 Pres.refl h1
      obtain ⟨y, ey, _⟩ := k.pure
      have q := ownO_some ey
      cases q.1
      exact slice_own h3 q.2
    · obtain ⟨_, _, k⟩ := h5 g' H' p' h'
      obtain ⟨y, ey, ky⟩ := k.pure
      cases (ownO_some ey).1
      exact ky g' H' Pres.refl h' a (hd a na) nf nc o
end
end PP

set_option Elab.async false
set_option linter.all false
set_option maxRecDepth 100000
/-! PP9: calls of built-ins, methods. -/
namespace PP
open PySem PySem.Spec PyProof.Rows L2

def notStar : Expr → Bool
  | .Starred _ _ => false
  | _ => true
theorem star_cons {e : Expr} {es : List Expr} {env : PySem.Env} (h : notStar e = true) : starEach (e :: es) env = (false, eval e env) :: starEach es env := by
  cases e <;> first | rfl | cases h
theorem star_map {env : PySem.Env} : ∀ {es : List Expr}, es.all notStar = true → starEach es env = es.map fun e => (false, eval e env)
  | [], _ => rfl
  | e :: es, h => by
    rw [List.all_cons, Bool.and_eq_true] at h
    rw [star_cons h.1, star_map h.2]; rfl
theorem star_any {pos : Pos} {es : List Expr} {env : PySem.Env} (h : es.all notStar = true) : (backTo pos (starEach es env)).any (·.1) = false := by
  rw [star_map h]
  unfold backTo
  rw [List.map_map, List.any_map]
  simp
def ownG (ev : Ev) : Ev := fun env c => (ev env c).bind fun z c => pureR (ownO (some z)) c
section
variable {X : Cx} {W : WX} {e a b d : Expr} {es : List Expr} {ev ea eb ed : Ev} {ex : Env → List PV → R (List PV)} {pos p p2 : Pos} {x : Str} {id : String} {f : List PV → Option PV}
theorem XO.g (h : XO X W e ev) : XO X W e (ownG ev) := pe_weak h fun σ H Q q => by
  obtain ⟨g, env, c, B, er, hr, gd⟩ := q
  refine ⟨g, env, c, B, er, hr, ?_⟩
  have gd : GoodR (wd X) X.mg W g H σ _ (ownG ev env c) := gd
  unfold ownG at gd
  cases hx : ev env c with
  | ok z c1 =>
    rw [hx] at gd
    obtain ⟨y, ey, ky⟩ := GoodR.pure (o := ownO (some z)) gd
    cases (ownO_some ey).1
    exact ky
  | exc cl arg c1 => rw [hx] at gd; exact gd
  | stuck => rw [hx] at gd; exact gd
theorem XO.as {ev' : Ev} (h : XO X W e ev) (q : ev = ev') : XO X W e ev' := q ▸ h
theorem tCB_read {ev : Env → List PV → R (List PV)} {mg : MG} {T : Wd} {σ : L2.St} {H : Hp} {Q : VK} (h : tE T mg W (fun env c => (ev env c).bind fun xs c => pureR (f xs) c) σ H Q) : tCB (rC T f) (tAb T mg W ev) σ H Q :=
  h.one.mono fun ps g1 c1 H1 ⟨h1, _, k⟩ vs cv => by
    obtain ⟨z, ez, kz⟩ := k.pure
    exact ⟨g1, c1, ps, z, h1, cv, ez, fun g' H' v p' h' r => kz g' H' p' h' v r⟩
theorem tCB_readO {ev : Env → List PV → R (List PV)} {mg : MG} {T : Wd} {σ : L2.St} {H : Hp} {Q : VK} (h : tO T mg W (fun env c => (ev env c).bind fun xs c => pureR (f xs) c) σ H Q) : tCB (rCO T f) (tAb T mg W ev) σ H Q :=
  h.one.mono fun ps g1 c1 H1 ⟨h1, d1, k⟩ vs cv => by
    obtain ⟨z, ez, kz⟩ := k.pure
    exact ⟨g1, c1, ps, z, h1, cv, ez, fun g' H' a p' h' na nf nc o => kz g' H' p' h' a (d1 a na) nf nc o⟩
structure BOk (X : Cx) (x : Str) : Prop where
  gl : Gl X x
  no : X.mg x = none
  nn : x ≠ "__name__"
  nd : (x == ("__debug__" : Str)) = false
theorem x_callB (hb : CallR X (.builtin id) (rC (wd X) f)) (k : BOk X x) (hv : bootBuiltins x = some (.builtin id)) (ha : XAb X W (e :: es) ex) (hs : (e :: es).all notStar = true) :
    XE' X W (.Call (.Name x p) (e :: es) [] pos) (fun env c => (ex env c).bind fun xs c => pureR (f xs) c) := by
  have hs' := hs
  rw [List.all_cons, Bool.and_eq_true] at hs'
  exact pe_weak (pe_callB hb k.gl k.no hv ha k.nn k.nd (star_cons hs'.1) (star_any hs'.2)) fun σ H Q h => tCB_read h
theorem x_callTy {T : String} (hb : CallR X (.type T) (rC (wd X) f)) (k : BOk X x) (hv : bootBuiltins x = some (.type T)) (ha : XAb X W (e :: es) ex) (hs : (e :: es).all notStar = true) :
    XE' X W (.Call (.Name x p) (e :: es) [] pos) (fun env c => (ex env c).bind fun xs c => pureR (f xs) c) := by
  have hs' := hs
  rw [List.all_cons, Bool.and_eq_true] at hs'
  exact pe_weak (pe_callTy hb k.gl k.no hv ha k.nn k.nd (star_cons hs'.1) (star_any hs'.2)) fun σ H Q h => tCB_read h
theorem x_callTyO {T : String} (hb : CallR X (.type T) (rCO (wd X) f)) (k : BOk X x) (hv : bootBuiltins x = some (.type T)) (ha : XAb X W (e :: es) ex) (hs : (e :: es).all notStar = true) :
    XO X W (.Call (.Name x p) (e :: es) [] pos) (fun env c => (ex env c).bind fun xs c => pureR (f xs) c) := by
  have hs' := hs
  rw [List.all_cons, Bool.and_eq_true] at hs'
  exact pe_weak (pe_callTy hb k.gl k.no hv ha k.nn k.nd (star_cons hs'.1) (star_any hs'.2)) fun σ H Q h => tCB_readO h
/-! ### list(range(..)), tuple(range(..)) -/
def b1 (b : Blt) (ea : Ev) : Ev := fun env c => ((ea env c).bind fun x c => .ok [x] c).bind fun xs c => pureR (bltop b xs) c
def b2 (b : Blt) (ea eb : Ev) : Ev := fun env c => ((ea env c).bind fun x c => (eb env c).bind fun y c => .ok [x, y] c).bind fun xs c => pureR (bltop b xs) c
theorem rg_ok {a b : Int} (h : (okR a && okR b && decide (b - a ≤ 16777216)) = true) : RgOk a b := by
  unfold okR at h
  simp only [Bool.and_eq_true, decide_eq_true_eq] at h
  exact ⟨by omega, by omega, by omega, by omega, by omega⟩
theorem x_listRg1 (hc : X.calm = true) (k : BOk X "list") (kr : BOk X "range") (ha : XB X W a ea) (hs : notStar a = true) : XO X W (.Call (.Name "list" p) [.Call (.Name "range" p2) [a] [] pos] [] pos') (b1 .listRange1 ea) :=
  pe_weak (pe_listRg hc k.gl k.no (prg_1 kr.gl kr.no ha (star_cons hs))) fun σ H Q h => by
    have h' := tR.one (f := fun xs c => pureR (bltop .listRange1 xs) c) h
    refine (tR.one h').mono fun x g1 c1 H1 ⟨h1, d1, k1⟩ v cv => ?_
    obtain ⟨_, d2, k2⟩ := k1 g1 H1 Pres.refl h1
    obtain ⟨z, ez, kz⟩ := k2.pure
    cases x with
    | int n =>
      rw [bltop] at ez
      split at ez <;> cases ez
      rename_i hk
      refine ⟨n, cv.int, rg_ok (a := 0) (by rw [Bool.and_eq_true] at hk; rw [Bool.and_eq_true, Bool.and_eq_true, show (n - 0 : Int) = n by omega]; exact ⟨⟨by decide, hk.1⟩, hk.2⟩), FinO.newL (T := wd X) (c := c1) (fun g' H' a p' h' na nf nc o => kz g' H' p' h' a (d1 a na) nf nc o) h1 (RpL.rng _ _)⟩
    | _ => cases ez
theorem x_listRg2 (hc : X.calm = true) (k : BOk X "list") (kr : BOk X "range") (ha : XB X W a ea) (hb : XB X W b eb) (hs : notStar a = true) (hs2 : notStar b = true) : XO X W (.Call (.Name "list" p) [.Call (.Name "range" p2) [a, b] [] pos] [] pos') (b2 .listRange2 ea eb) :=
  pe_weak (pe_listRg hc k.gl k.no (prg_2 kr.gl kr.no ha hb (star_cons hs) (nb := star_cons hs2) (hp := star_any (by simp [hs2])))) fun σ H Q h => by
    have h' := tR.one (f := fun xs c => pureR (bltop .listRange2 xs) c) h
    refine (tR.two h').mono fun x g1 c1 H1 k1 v cv => k1.mono fun y g2 c2 H2 ⟨p2, d2, h2, k2⟩ w cw => ?_
    obtain ⟨_, _, k3⟩ := k2 g2 H2 Pres.refl h2
    obtain ⟨z, ez, kz⟩ := k3.pure
    unfold bltop at ez
    split at ez <;> first | (cases ez; done) | skip
    all_goals first | contradiction | skip
    rename_i hq
    cases hq
    split at ez <;> cases ez
    rename_i hk
    exact ⟨_, _, (cv.pres p2).int, cw.int, rg_ok hk, FinO.newL (T := wd X) (c := c2) (fun g' H' a p' h' na nf nc o => kz g' H' p' h' a (d2 a na) nf nc o) h2 (RpL.rng _ _)⟩
theorem x_tupRg1 (hc : X.calm = true) (k : BOk X "tuple") (kr : BOk X "range") (ha : XB X W a ea) (hs : notStar a = true) : XE' X W (.Call (.Name "tuple" p) [.Call (.Name "range" p2) [a] [] pos] [] pos') (b1 .tupRange1 ea) :=
  pe_weak (pe_tupRg hc k.gl k.no (prg_1 kr.gl kr.no ha (star_cons hs))) fun σ H Q h => by
    have h' := tR.one (f := fun xs c => pureR (bltop .tupRange1 xs) c) h
    refine (tR.one h').mono fun x g1 c1 H1 ⟨h1, d1, k1⟩ v cv => ?_
    obtain ⟨_, d2, k2⟩ := k1 g1 H1 Pres.refl h1
    obtain ⟨z, ez, kz⟩ := k2.pure
    cases x with
    | int n =>
      rw [bltop] at ez
      split at ez <;> cases ez
      rename_i hk
      refine ⟨n, cv.int, rg_ok (a := 0) (by rw [Bool.and_eq_true] at hk; rw [Bool.and_eq_true, Bool.and_eq_true, show (n - 0 : Int) = n by omega]; exact ⟨⟨by decide, hk.1⟩, hk.2⟩), Fin.newT (T := wd X) (c := c1) (fun g' H' v p' h' r => kz g' H' p' h' v r) h1 (RpL.rng _ _)⟩
    | _ => cases ez
theorem x_tupRg2 (hc : X.calm = true) (k : BOk X "tuple") (kr : BOk X "range") (ha : XB X W a ea) (hb : XB X W b eb) (hs : notStar a = true) (hs2 : notStar b = true) : XE' X W (.Call (.Name "tuple" p) [.Call (.Name "range" p2) [a, b] [] pos] [] pos') (b2 .tupRange2 ea eb) :=
  pe_weak (pe_tupRg hc k.gl k.no (prg_2 kr.gl kr.no ha hb (star_cons hs) (nb := star_cons hs2) (hp := star_any (by simp [hs2])))) fun σ H Q h => by
    have h' := tR.one (f := fun xs c => pureR (bltop .tupRange2 xs) c) h
    refine (tR.two h').mono fun x g1 c1 H1 k1 v cv => k1.mono fun y g2 c2 H2 ⟨p2, d2, h2, k2⟩ w cw => ?_
    obtain ⟨_, _, k3⟩ := k2 g2 H2 Pres.refl h2
    obtain ⟨z, ez, kz⟩ := k3.pure
    unfold bltop at ez
    split at ez <;> first | (cases ez; done) | skip
    all_goals first | contradiction | skip
    rename_i hq
    cases hq
    split at ez <;> cases ez
    rename_i hk
    exact ⟨_, _, (cv.pres p2).int, cw.int, rg_ok hk, Fin.newT (T := wd X) (c := c2) (fun g' H' v p' h' r => kz g' H' p' h' v r) h2 (RpL.rng _ _)⟩
/-! ### isinstance -/
def tyS : Ty → String
  | .int => "int"
  | .bool => "bool"
  | .str => "str"
  | .tuple => "tuple"
  | .list => "list"
  | .dict => "dict"
def tyN (t : Ty) : Str := tyS t
theorem boot_ty (t : Ty) : bootBuiltins (tyN t) = some (.type (tyS t)) := by cases t <;> decide +kernel
theorem Ct.ty {T : Wd} {g : Gh} {H : Hp} {c : List PV} {v : V} {q : PV} (h : HR T g c H) (x : Ct T g H v q) (t : Ty) (r : Bool) (hr : isTy t q = some r) : ∃ n, TyX T.K H v (.type n) ∧ kitB n (tyS t) = some r := by
  have sqt : ∀ a vs, SqT T.K H a vs → TyX T.K H (.ref a) (.type "tuple") := fun a vs z => by
    rcases z with (z | ⟨o, z⟩) | ⟨o, its, n, z, zc, _⟩
    · exact .base (.tup z)
    · exact .fTuple z
    · exact .kTuple z zc
  cases q with
  | non => cases x.non; exact ⟨_, .base .non, by cases t <;> cases hr <;> decide +kernel⟩
  | bl b => cases x.bl; exact ⟨_, .base (.bl b), by cases t <;> cases hr <;> decide +kernel⟩
  | int b => cases x.int; exact ⟨_, .base (.int b), by cases t <;> cases hr <;> decide +kernel⟩
  | str b => cases x.str; exact ⟨_, .base (.str b), by cases t <;> cases hr <;> decide +kernel⟩
  | tup ps =>
    obtain ⟨a, vs, rfl, e, _⟩ := x.tup h
    exact ⟨_, sqt a vs e, by cases t <;> cases hr <;> decide +kernel⟩
  | lst ps =>
    obtain ⟨a, vs, rfl, e, _⟩ := x.lst h
    exact ⟨_, .base (.lst e), by cases t <;> cases hr <;> decide +kernel⟩
  | dic k => cases t <;> cases hr
  | cup => cases t <;> cases hr
  | scr ns => cases t <;> cases hr
theorem x_isin (t : Ty) (k : BOk X "isinstance") (kt : BOk X (tyN t)) (ha : XB X W a ea) (hs : notStar a = true) : XE' X W (.Call (.Name "isinstance" p) [a, .Name (tyN t) p2] [] pos) (fun env c => (ea env c).bind fun x c => pureR (blV (isTy t x)) c) := by
  refine pe_weak (pe_callB call_isi k.gl k.no (by decide +kernel) (pa_cons ha (pa_cons (pe_bltn (v := .ty (tyS t)) kt.gl kt.no (boot_ty t) rfl kt.nn kt.nd) pa_nil rfl) (star_cons hs)) k.nn k.nd (star_cons hs) rfl) fun σ H Q h => ?_
  refine h.one.mono fun x g1 c1 H1 ⟨h1, _, k1⟩ v cv => ?_
  obtain ⟨z, ez, kz⟩ := k1.pure
  cases hq : isTy t x with
  | none => rw [hq] at ez; cases ez
  | some r =>
    rw [hq] at ez; cases ez
    obtain ⟨n, h2, h3⟩ := cv.ty h1 t r hq
    exact ⟨v, .ty (tyS t), .type n, .type (tyS t), r, rfl, .ty _, h2, kit_ty h3, kz g1 H1 Pres.refl h1 _ (.bl r)⟩
end
end PP

set_option Elab.async false
set_option linter.all false
set_option maxRecDepth 100000
/-! PP6: sets of a tuple's items; more built-ins. -/
namespace PP
open PySem PySem.Spec PyProof.Rows L2

abbrev newSet (w : World) : Obj := { cls := .type "set", dict := none, data := .set #[] 0 (.fresh 0 0 (!w.params.followText "set-order")) }
def itT (t : Addr) : Obj := { cls := .type "tuple_iterator", data := .fields #[.ref t, .int 0 0] }
section
variable {prog : Program} {w : World} {A : Around} {E : Value → Shared → Prop} {s : Shared}
set_option maxHeartbeats 2000000 in
/-- set(t) of a tuple, by what its loop leaves -/
theorem set_tup {t : Addr} {its : Array Value} {Q : Value → Shared → Prop} {G : Heap → Prop} (hh : A.handled = none) (ht : s.heap.IsTuple t its)
    (loop : ∀ (R : Result → Shared → Prop) (I : Addr) (s1 : Shared),
      WalksS prog w A.in1.in1.in1 I [I, t] [I] (fun a b => b = a) its.size (fun i v => its[i]? = some v) (fun i s => s.heap.IsTupleIter I t i ∧ s.heap.IsTuple t its) →
      s.heap.objs.size ∉ [I, t] → (s1.heap.IsTupleIter I t 0 ∧ s1.heap.IsTuple t its) → s1.heap.get? s.heap.objs.size = some (newSet w) → s.heap.get? I = none → (∀ b o, s.heap.get? b = some o → s1.heap.get? b = some o) →
      (∀ s', Moved [s.heap.objs.size, I] (fun a b => b = a) s1 s' → G s'.heap → R (.ok (.ret .none)) s') →
      codeAny (model prog w) A.in1.in1 (.builtin "set.update.loop" ⟨[.ref s.heap.objs.size, .ref I], []⟩) R s1)
    (h : ∀ (h' : Heap) (tk : Nat), G h' → (∀ b o, s.heap.get? b = some o → h'.get? b = some o) → Q (.ref s.heap.objs.size) { s with heap := h', toks := tk }) :
    wpAny (model prog w) A (call (.type "set") [.ref t]) Q E s := by
  have ⟨kind, rest, mro1⟩ := F.called_set.mro
  have made1 := F.called_set.made
  have sub1 := F.called_set.sub
  refine wpAny_call (codeAny_of_tree ?_)
  show wpAny _ _ (callAny (.type "set") ⟨[.ref t], []⟩) _ _ _
  refine wpAny_pure ⟨Code.quiet_builtin _ (by decide +kernel), ?_⟩
  refine codeAny_builtin F.entry_type_call ?_
  rw [Around.under_plain (weight_type_call_type "set" [.ref t] []) rfl]
  have noty := F.called_set.notType
  have cancr := F.called_set.canCreate
  have tyck := F.typeCall_set_1 (.ref t)
  repeat (any_goals (first | assumption | wp_step))
  refine codeAny_mono (code_set_led1 (.ref t) (E := E) (Q₁ := fun ob s1 => ob = .ref s.heap.objs.size ∧ s1 = { s with heap := s.heap.push (newSet w) }) ⟨rfl, rfl⟩) fun r s1 hr => ?_
  match r, hr with
  | .error e, hr => exact hr
  | .ok (.ret ob), hr =>
    obtain ⟨rfl, rfl⟩ := hr
    have atS : (s.heap.push (newSet w)).get? s.heap.objs.size = some (newSet w) := Heap.get?_push_size _ rfl
    have tyS : Shared.TypeIs { s with heap := s.heap.push (newSet w) } (.ref s.heap.objs.size) "set" := ⟨_, atS, rfl⟩
    have look1 := F.called_set.init.lookup
    have bind1 := F.called_set.init.bind (.ref s.heap.objs.size)
    repeat (any_goals (first | assumption | wp_step))
    refine codeAny_mono (codeAny_call_builtin (R := wants (fun r s2 => r = .none ∧ ∃ (h' : Heap) (tk : Nat), s2 = { s with heap := h', toks := tk } ∧ G h' ∧ ∀ b o, s.heap.get? b = some o → h'.get? b = some o) E)
      F.called_set.init.plain F.entry_set_init (check_set_init_1 tyS ?_)) fun r2 s2 hr2 => ?_
    · have ht1 : (s.heap.push (newSet w)).IsTuple t its := ht.push _
      obtain ⟨⟨oc, od, oda, osl⟩, ho, hoc, on, hod⟩ := id ht
      simp only at hoc hod
      subst hoc hod
      have ho1 : (s.heap.push (newSet w)).get? t = some { cls := .type "tuple", dict := od, data := .seq its on, slots := osl } := Heap.get?_push_of_some _ ho
      have sub2 := F.sub_tuple_set
      have sub3 := F.sub_tuple_frozenset
      have ned : (Value.type "tuple" == Value.type "dict") = false := by decide
      unfold Builtin.«set.__init__» noKeywords Builtin.Frozenset.updateFrom
      generalize gpi : pyIter = PI
      wp_walk
      subst gpi
      refine wpAny_pyIter_tuple ht1 ?_
      refine wpAny_bind (wpAny_runValue ?_)
      have lt : t < s.heap.objs.size := Heap.lt_size ho
      have hh3 : A.in1.in1.in1.handled = none := by simp [hh]
      have szI : (s.heap.push (newSet w)).objs.size = s.heap.objs.size + 1 := Heap.size_push ..
      have kept : ∀ b o, s.heap.get? b = some o → ((s.heap.push (newSet w)).push (itT t)).get? b = some o := fun b o e => Heap.get?_push_of_some _ (Heap.get?_push_of_some _ e)
      have dead : ∀ b : Nat, s.heap.objs.size ≤ b → s.heap.get? b = none := fun b hb => by
        cases q : s.heap.get? b with
        | none => rfl
        | some o => exact absurd (Heap.lt_size q) (Nat.not_lt.mpr hb)
      have deadI : s.heap.get? (s.heap.push (newSet w)).objs.size = none := dead _ (by rw [szI]; exact Nat.le_succ _)
      have deadS : s.heap.get? s.heap.objs.size = none := dead _ (Nat.le_refl _)
      have neI : t ≠ (s.heap.push (newSet w)).objs.size := by
        rw [szI]; exact Nat.ne_of_lt (Nat.lt_succ_of_lt lt)
      have neS : s.heap.objs.size ≠ (s.heap.push (newSet w)).objs.size := by
        rw [szI]; exact Nat.ne_of_lt (Nat.lt_succ_self _)
      refine loop _ (s.heap.push (newSet w)).objs.size _ (Walks.tuple hh3 _ t neI its).toS ?_ ⟨⟨_, Heap.get?_push_size _ rfl, rfl, rfl⟩, ht1.push _⟩ (Heap.get?_push_of_some _ atS) deadI kept ?_
      · simp only [List.mem_cons, List.not_mem_nil, or_false, not_or]
        exact ⟨neS, Nat.ne_of_gt lt⟩
      · rintro ⟨h', g', d', tk', os'⟩ hm hG
        obtain rfl : g' = s.gens := hm.gens
        obtain rfl : d' = s.drawn := hm.drawn
        obtain rfl : os' = s.os := hm.os
        show wpAny _ _ _ _ _ _
        refine wpAny_pure ?_
        show wpAny _ _ (ret Value.none) _ _ _
        refine wpAny_pure ⟨rfl, h', tk', rfl, hG, fun b o e => hm.heap b o ?_ (kept b o e)⟩
        simp only [List.mem_cons, List.not_mem_nil, or_false, not_or]
        refine ⟨?_, ?_⟩
        · rintro rfl; rw [deadS] at e; cases e
        · rintro rfl; rw [deadI] at e; cases e
    · match r2, hr2 with
      | .error e, hr2 => exact hr2
      | .ok (.ret r), hr2 =>
        obtain ⟨rfl, h', tk, rfl, hG, kp⟩ := hr2
        repeat (any_goals (first | assumption | wp_step))
        exact h _ _ hG kp
end
end PP

set_option Elab.async false
set_option linter.all false
set_option maxRecDepth 100000
/-! PP6b: built-ins around a set; a tuple turned round; dict of pairs. -/
namespace PP
open PySem PySem.Spec PyProof.Rows L2

/-! ### a tuple turned round -/
theorem adj_rev (n : Nat) : Builtin.Slice.sliceAdjust none none (-1) (n : Int) = ((n : Int) - 1, -1) := by
  unfold Builtin.Slice.sliceAdjust
  simp
theorem places_rev (n : Nat) : Builtin.Slice.slicePlaces ((n : Int) - 1) (-1) (-1) = n := by
  unfold Builtin.Slice.slicePlaces
  have h : ¬ ((-1 : Int) > 0) := by decide
  simp only [h, if_false]
  split
  · rw [show ((n : Int) - 1 - -1 - 1) = (n : Int) - 1 by omega, show (-(-1) : Int) = 1 by decide, Int.ediv_one]; omega
  · omega
theorem pick_rev (xs : Array Value) : ((List.range xs.size).filterMap fun (k : Nat) => xs[(((xs.size : Int) - 1) + (k : Int) * (-1)).toNat]?).toArray = xs.toList.reverse.toArray := by
  congr 1
  apply List.ext_getElem?
  intro j
  have e : (List.range xs.size).filterMap (fun (k : Nat) => xs[(((xs.size : Int) - 1) + (k : Int) * (-1)).toNat]?) = (List.range xs.size).map fun k => xs.toList.reverse.getD k default := by
    rw [← List.filterMap_eq_map]
    have cong : ∀ (f g : Nat → Option Value) (l : List Nat), (∀ k ∈ l, f k = g k) → l.filterMap f = l.filterMap g := fun f g l => by
      induction l with
      | nil => intro _; rfl
      | cons k l ih =>
        intro hfg
        rw [List.filterMap_cons, List.filterMap_cons, hfg k List.mem_cons_self, ih fun k hk => hfg k (List.mem_cons_of_mem _ hk)]
    refine cong _ _ _ fun k hk => ?_
    have hk' : k < xs.size := List.mem_range.mp hk
    have e1 : (((xs.size : Int) - 1) + (k : Int) * (-1)).toNat = xs.size - 1 - k := by omega
    have hkl : k < xs.toList.length := by simpa using hk'
    have e3 : xs.toList.reverse[k]? = xs.toList[xs.toList.length - 1 - k]? := List.getElem?_reverse hkl
    have hl : xs.toList.length - 1 - k < xs.toList.length := by omega
    rw [e1, Function.comp, List.getD_eq_getElem?_getD, e3, List.getElem?_eq_getElem hl, Option.getD_some, ← Array.getElem?_toList, show xs.size = xs.toList.length by simp, List.getElem?_eq_getElem hl]
  rw [e, List.getElem?_map]
  by_cases hj : j < xs.size
  · rw [List.getElem?_range hj]
    have : j < xs.toList.reverse.length := by simpa using hj
    rw [List.getElem?_eq_getElem this]
    simp [List.getD_eq_getElem?_getD, List.getElem?_eq_getElem this]
  · rw [List.getElem?_eq_none (by simpa using hj), List.getElem?_eq_none (by simpa using hj)]
    rfl
section
variable {prog : Program} {w : World} {A : Around} {E : Value → Shared → Prop} {s : Shared}
theorem getItem_tup_rev {t sl : Addr} {items : Array Value} {vl vu vs : Value} {Q : Value → Shared → Prop} (ht : IsTup s.heap t items) (hs : s.heap.IsSliceOf sl vl vu vs) (pl : IsPart vl none) (pu : IsPart vu none) (ps : IsPart vs (some (-1)))
    (h : Q (.ref s.heap.objs.size) { s with heap := s.heap.push { cls := .type "tuple", data := .seq items.toList.reverse.toArray } }) (hsz : items.size ≤ sizeLine) : wpAny (model prog w) A (getItem (.ref t) (.ref sl)) Q E s := by
  obtain ⟨ob, hob, hcl, hdt⟩ := id hs
  have tySl : s.TypeIs (.ref sl) "slice" := ⟨ob, hob, hcl⟩
  have room : sizeOk (.seq items.toList.reverse.toArray) := by
    show items.toList.reverse.toArray.size ≤ sizeLine
    simpa using hsz
  have app : ∀ {Q : Int × Int × Nat → Shared → Prop}, Q ((items.size : Int) - 1, -1, items.size) s → wpAny (model prog w) A.in1 (Builtin.Slice.sliceApplied (.ref sl) (pure (items.size : Int))) Q E s := fun {Q} hq => by
    unfold Builtin.Slice.sliceApplied Builtin.Slice.sliceFields
    refine wpAny_bind (wpAny_bind (wpAny_field hob hdt (x := vl) rfl (wpAny_bind (wpAny_field hob hdt (x := vu) rfl (wpAny_bind (wpAny_field hob hdt (x := vs) rfl (wpAny_pure ?_)))))))
    refine wpAny_bind (HT.slicePart_ ps ?_)
    show wpAny _ _ (if ((-1 : Int) == 0) = true then _ else _) _ _ s
    rw [if_neg (by decide)]
    refine wpAny_bind (HT.slicePart_ pl (wpAny_bind (HT.slicePart_ pu (wpAny_bind (wpAny_pure ?_)))))
    show wpAny _ _ (match Builtin.Slice.sliceAdjust none none (-1) (items.size : Int) with | (lo, hi) => pure (lo, (-1 : Int), Builtin.Slice.slicePlaces lo hi (-1))) _ _ s
    rw [adj_rev]
    show wpAny _ _ (pure ((items.size : Int) - 1, (-1 : Int), Builtin.Slice.slicePlaces ((items.size : Int) - 1) (-1) (-1))) _ _ s
    rw [places_rev]
    exact wpAny_pure hq
  unfold getItem
  try with_reducible refine wpAny_holding ?_
  first | refine wpAny_bind (wpAny_pure ?_) | skip
  refine wpAny_bind (wpAny_sequenceKey ht.typeIs (by decide) ?_)
  refine wpAny_bind (wpAny_callSpecial?_slot (name := Str.ofString "__getitem__") ht.typeIs PyProof.Rows.slot_tuple_getitem (wpAny_call_entry PyProof.Rows.slot_tuple_getitem ht.typeIs PyProof.Rows.entry_tuple_getitem ?_ (PyProof.Rows.args_tuple_getitem _ _)))
  show wpAny _ _ (Builtin.Tuple.tupleItemsOf (.ref t) >>= _) _ _ s
  refine wpAny_bind (PyProof.Rows.tupleItemsOf_ ht (wpAny_bind (wpAny_typeOf tySl ?_)))
  rw [if_pos (by decide)]
  refine wpAny_bind (app ?_)
  show wpAny _ _ (if (((items.size : Int) - 1) == 0 && (-1 : Int) == 1 && items.size == items.size) = true then _ else _) _ _ s
  rw [if_neg (by simp), pick_rev]
  first
    | exact wpAny_bind (m := Builtin.Tuple.tupleExact _) (wpAny_newObj_type (wpAny_pure ⟨_, rfl, wpAny_pure h⟩) room)
    | exact wpAny_bind (m := Builtin.Tuple.tupleExact _) (wpAny_newObj_type (wpAny_bind (wpAny_pure (wpAny_pure ⟨_, rfl, wpAny_pure h⟩))) room)
    | exact wpAny_bind (wpAny_bind (m := Builtin.Tuple.tupleExact _) (wpAny_newObj_type (wpAny_pure (wpAny_pure ⟨_, rfl, wpAny_pure h⟩)) room))
end
section
variable {X : Cx} {W : WX} {e a b d : Expr} {es : List Expr} {ev ea eb ed : Ev} {pos p p2 : Pos}
def tRevT (K : PySem.W.Frag) (te : TE) : TE := fun σ H Q => te σ H fun x H1 => ∃ a xs, x = .ref a ∧ ((SqT K H1 a xs ∧ ∀ p, H1 p = none → Q (.ref p) (upd H1 p (.tup xs.reverse))) ∨ (SqL K H1 a xs ∧ ∀ p, H1 p = none → Q (.ref p) (upd H1 p (.lst xs.reverse))))
/-- x[::-1], of a tuple or of a list -/
theorem pe_revT {te : TE} {k : Nat} {p1 p2 p3 pos : Pos} (he : L2.PE X e te) : L2.PE X (.Subscript e (.Slice none none (some (.UnaryOp .USub (.Constant (.int 1) k p1) p2)) p3) pos) (tRevT X.K te) := by
  refine ⟨fun pins s σ H Q I h => ?_⟩
  refine Subscript_ (thn (he.run pins s σ H _ I h) fun v sa ⟨x, Ha, Ia, ra, a, xs, ex, q⟩ => ?_)
  subst ex
  cases ra
  refine wpAny_Slice (thn (po_none.run pins sa σ Ha (fun o H2 => o = none ∧ H2 = Ha) Ia ⟨rfl, rfl⟩) fun v1 sb ⟨o1, Hb, Ib, k1, z1, y1⟩ => ?_)
  subst z1 y1
  refine thn (po_none.run pins sb σ Hb (fun o H3 => o = none ∧ H3 = Hb) Ib ⟨rfl, rfl⟩) fun v2 sc ⟨o2, Hc, Ic, k2, z2, y2⟩ => ?_
  subst z2 y2
  refine thn ((po_some (pe_un un_neg pe_int)).run pins sc σ Hc (fun o H4 => o = some (-1) ∧ H4 = Hc) Ic ⟨1, rfl, -1, rfl, rfl, rfl⟩) fun v3 sd ⟨o3, Hd, Id, k3, z3, y3⟩ => ?_
  subst z3 y3
  have Ie : Inv X pins σ Hd { sd with heap := sd.heap.push { cls := .type "slice", data := .fields #[v1, v2, v3] } } := Id.kept (t' := sd.toks) fun b ob q => Heap.get?_push_of_some _ q
  show wpAny (model X.prog X.w) X.A (subscriptTail e (.Slice none none (some (.UnaryOp .USub (.Constant (.int 1) k p1) p2)) p3) (.ref a) (.ref sd.heap.objs.size)) (EP X pins σ Q) X.xe _
  rcases q with ⟨hx, q⟩ | ⟨hx, q⟩
  · obtain ⟨its, r, ht, hz⟩ := Ie.tuple hx
    have hl := r.length
    refine tail_any (ops := [.ref a, .ref sd.heap.objs.size]) ht.typeIs PyProof.Rows.slot_tuple_getitem.lookup (getItem_tup_rev ht (Heap.IsSliceOf.new _ v1 v2 v3) k1 k2 k3 ?_ (by rw [List.size_toArray]; omega)) (by with_unfolding_all rfl)
    exact ⟨.ref _, _, Ie.laid (t' := sd.toks) (o := .tup xs.reverse) (fun b ob q => Heap.get?_push_of_some _ q) (Nat.le_refl _) ⟨by rw [List.length_reverse]; exact hz, _, r.reverse, IsTup.new _ _⟩, rfl, q _ (Ie.hok.fresh (Nat.le_refl _))⟩
  · obtain ⟨its, r, ht, hz⟩ := Ie.list hx
    have hl := r.length
    refine tail_any (ops := [.ref a, .ref sd.heap.objs.size]) ht.isList.typeIs PySem.slot_list_getitem.lookup (wpAny_getItem_list_slice ht.isList (Heap.IsSliceOf.new _ v1 v2 v3) k1 k2 k3 (by decide) ?_ (by rw [List.size_toArray]; omega)) (by with_unfolding_all rfl)
    rw [PySem.W.krv_pick]
    exact ⟨.ref _, _, Ie.laid (t' := sd.toks) (o := .lst xs.reverse) (fun b ob q => Heap.get?_push_of_some _ q) (Nat.le_refl _) ⟨by rw [List.length_reverse]; exact hz, _, 0, r.reverse, Heap.get?_push_size _ rfl⟩, rfl, q _ (Ie.hok.fresh (Nat.le_refl _))⟩
theorem RpL.rev {T : Wd} {g : Gh} : ∀ {vs : List V} {ps : List PV}, RpL T g vs ps → RpL T g vs.reverse ps.reverse
  | _, _, .nil => .nil
  | _, _, .cons r t => by
    rw [List.reverse_cons, List.reverse_cons]
    exact (RpL.rev t).append (.cons r .nil)
theorem x_rev {k : Nat} {p1 p2 p3 pos : Pos} (ha : XB X W a ea) : XE' X W (.Subscript a (.Slice none none (some (.UnaryOp .USub (.Constant (.int 1) k p1) p2)) p3) pos) (b1 .rev ea) :=
  pe_weak (pe_revT ha) fun σ H Q h => by
    have h' := tR.one (f := fun xs c => pureR (bltop .rev xs) c) h
    refine (tR.one h').mono fun x g1 c1 H1 ⟨h1, d1, k1⟩ v cv => ?_
    obtain ⟨_, d2, k2⟩ := k1 g1 H1 Pres.refl h1
    obtain ⟨z, ez, kz⟩ := k2.pure
    have fin : Fin (wd X) g1 H1 c1 Q z := fun g' H' v p' h' r => kz g' H' p' h' v r
    cases x with
    | tup ps =>
      cases ez
      obtain ⟨a, vs, rfl, ea, ra⟩ := cv.tup h1
      exact ⟨a, vs, rfl, .inl ⟨ea, fin.newT h1 ra.rev⟩⟩
    | lst ps =>
      cases ez
      obtain ⟨a, vs, rfl, ea, ra⟩ := cv.lst h1
      exact ⟨a, vs, rfl, .inr ⟨SqL.of ea, fin.own.newL h1 ra.rev⟩⟩
    | _ => cases ez
/-! ### len(set(x)) -/
def LenO (a : Addr) (n : Nat) : HO := .ext fun h => ∃ o es ep t, h.get? a = some o ∧ o.ExactSet ∧ o.data = .set es ep t ∧ t.fits es.size = true ∧ es.size = n
theorem lenO_new {w : World} {P : Program} {H : Hp} {h : Heap} {a : Addr} {n : Nat} (R : ∃ o es ep t, h.get? a = some o ∧ o.ExactSet ∧ o.data = .set es ep t ∧ t.fits es.size = true ∧ es.size = n) : ObjOk P w H h a (LenO a n) := by
  refine ⟨R, ?_, fun h1 h2 p k => ?_⟩
  · obtain ⟨o, es, ep, t, ho, _⟩ := R; exact ⟨o, ho⟩
  · have p' : ∃ o es ep t, h1.get? a = some o ∧ o.ExactSet ∧ o.data = .set es ep t ∧ t.fits es.size = true ∧ es.size = n := p
    obtain ⟨o, es, ep, t, ho, r⟩ := p'
    exact ⟨o, es, ep, t, k o ho, r⟩
def metN (is : List Int) : Nat := (firstMet (fun i => is.getD i 0) is.length).length
theorem metN_le (is : List Int) : metN is ≤ is.length := firstMet_length_le _ _
theorem cr_setI (hc : X.calm = true) : CallR X (.type "set") (fun vs H Q => ∃ (t : Addr) (is : List Int), vs = [.ref t] ∧ (SqT X.K H t (is.map V.int) ∨ SqL X.K H t (is.map V.int)) ∧ is.length < 64 ∧ ∀ a, H a = none → Q (.ref a) (upd H a (LenO a (metN is)))) := by
  intro pins s σ H vs us Q I r h
  obtain ⟨t, is, rfl, ht, hl, q⟩ := h
  rw [Vals.ref1 r]
  have hn : H s.heap.objs.size = none := I.hok.fresh (Nat.le_refl _)
  have fin : ∀ (h' : Heap) (tk : Nat), h'.SetOf (intKind X.prog X.w) s.heap.objs.size (fun k' => (firstMet (fun i => is.getD i 0) is.length).any (· == k')) (metN is) → (∀ b o, s.heap.get? b = some o → h'.get? b = some o) → EP X pins σ Q (.ref s.heap.objs.size) { s with heap := h', toks := tk } := fun h' tk hS kp => by
    obtain ⟨o, es, ep, t, ho, hex, hd, _, _, _, hf, hn'⟩ := hS
    exact ⟨.ref _, _, I.laid (t' := tk) kp (Nat.le_refl _) (lenO_new ⟨o, es, ep, t, ho, hex, hd, hf, hn'⟩), rfl, q _ hn⟩
  rcases ht with ht | ht
  · obtain ⟨its, rv, pt, hz⟩ := I.tuple ht
    have hsz : its.toArray.size = is.length := by rw [List.size_toArray, ← rv.length, List.length_map]
    refine set_tup (I.ok.hd hc) pt (G := fun h' => h'.SetOf (intKind X.prog X.w) s.heap.objs.size (fun k' => (firstMet (fun i => is.getD i 0) is.length).any (· == k')) (metN is)) (fun R J s1 Wk nS st atS dJ kp k => ?_) fin
    refine codeAny_set_update_loopS Wk _ nS (fun i => is.getD i 0) (fun i v hv => ?_) (by rw [hsz]; unfold scanBound; omega) its.toArray.size 0 s1 (Nat.sub_zero _) (Nat.zero_le _) st ?_ ?_
    · exact IntsAre.int_at rv.ints i v (by rw [← Array.getElem?_toList] at hv; exact hv)
    · exact SetOf_congr ((setObjOf_fresh (knd := intKind X.prog X.w) _).setOf atS (by unfold scanBound; omega)) (fun _ => rfl) rfl
    · intro s' hm hS
      rw [hsz] at hS
      exact k s' hm hS
  · obtain ⟨its, rv, pl, hz⟩ := I.list ht
    have hsz : its.toArray.size = is.length := by rw [List.size_toArray, ← rv.length, List.length_map]
    refine call_set_list (I.ok.hd hc) pl.isList (ns := is) (by simpa using rv.ints) (by rw [hsz]; unfold scanBound; omega) fun h' tk hS kp => ?_
    rw [hsz] at hS
    exact fin h' tk hS fun b o e => kp b o (Heap.lt_size e) e
theorem cr_lenO : CallR X (.builtin "len") (fun vs H Q => ∃ (a : Addr) (n : Nat), vs = [.ref a] ∧ H a = some (LenO a n) ∧ n < 64 ∧ Q (.int n) H) := by
  intro pins s σ H vs us Q I r h
  obtain ⟨a, n, rfl, ha, hn, q⟩ := h
  rw [Vals.ref1 r]
  have x : ∃ o es ep t, s.heap.get? a = some o ∧ o.ExactSet ∧ o.data = .set es ep t ∧ t.fits es.size = true ∧ es.size = n := (I.hok a _ ha).1
  obtain ⟨o, es, ep, t, ho, hex, hd, hf, hs⟩ := x
  exact call_len_set ho hex hd hf (by rw [hs]; omega) ⟨.int n, H, I.tok _, ⟨_, by rw [hs]⟩, q⟩
theorem seqOf_ct {T : Wd} {g : Gh} {c : List PV} {H : Hp} (h : HR T g c H) {v : V} {x : PV} {xs : List PV} (e : seqOf x = some xs) (cv : Ct T g H v x) : ∃ a vs, v = .ref a ∧ (SqT T.K H a vs ∨ SqL T.K H a vs) ∧ RpL T g vs xs := by
  cases x with
  | tup ps => cases e; obtain ⟨a, vs, r, ea, ra⟩ := cv.tup h; exact ⟨a, vs, r, .inl ea, ra⟩
  | lst ps => cases e; obtain ⟨a, vs, r, ea, ra⟩ := cv.lst h; exact ⟨a, vs, r, .inr (SqL.of ea), ra⟩
  | _ => cases e
theorem x_lenSet (hc : X.calm = true) (k : BOk X "len") (k2 : BOk X "set") (ha : XB X W a ea) (hs : notStar a = true) : XE' X W (.Call (.Name "len" p) [.Call (.Name "set" p2) [a] [] pos2] [] pos) (b1 .lenSet ea) := by
  refine pe_weak (pe_callB cr_lenO k.gl k.no (by decide +kernel) (pa_cons (pe_callTy (cr_setI hc) k2.gl k2.no (by decide +kernel) (pa_cons ha pa_nil (star_cons hs)) k2.nn k2.nd (star_cons hs) rfl) pa_nil rfl) k.nn k.nd rfl rfl) fun σ H Q h => ?_
  have h' := tR.one (f := fun xs c => pureR (bltop .lenSet xs) c) h
  refine (tR.one h').mono fun x g1 c1 H1 ⟨h1, d1, k1⟩ v cv => ?_
  obtain ⟨_, d2, k2⟩ := k1 g1 H1 Pres.refl h1
  obtain ⟨z, ez, kz⟩ := k2.pure
  obtain ⟨xs, e1, e2⟩ := Option.bind_eq_some_iff.mp (show (seqOf x).bind _ = some z from ez)
  obtain ⟨is, e3, e4⟩ := Option.bind_eq_some_iff.mp e2
  split at e4
  · rename_i hlt
    cases e4
    obtain ⟨a, vs, rfl, ea, ra⟩ := seqOf_ct h1 e1 cv
    rw [ra.ints_of e3] at ea
    refine ⟨a, is, rfl, ea, hlt, fun b hb => ?_⟩
    obtain ⟨p', h''⟩ := h1.fresh (o := LenO b (metN is)) hb
    exact ⟨b, metN is, rfl, upd_same, Nat.lt_of_le_of_lt (metN_le is) hlt, kz _ _ p' h'' _ (.int _)⟩
  · cases e4
end
end PP

set_option Elab.async false
set_option linter.all false
set_option maxRecDepth 100000
/-! PP6c: sorted(set(x)) of pairs; dict of pairs. -/
namespace PP
open PySem PySem.Spec PyProof.Rows L2

theorem nodup_dups {α : Type} [BEq α] [LawfulBEq α] : ∀ (n : Nat) (l : List α), l.length ≤ n → l.eraseDups.Nodup
  | 0, l, h => by
    obtain rfl : l = [] := List.length_eq_zero_iff.mp (by omega)
    simp
  | n + 1, [], _ => by simp
  | n + 1, a :: l, h => by
    rw [List.eraseDups_cons, List.nodup_cons]
    refine ⟨fun hm => ?_, nodup_dups n _ ?_⟩
    · have := List.mem_eraseDups.mp hm
      rw [List.mem_filter] at this
      simp at this
    · have := List.length_filter_le (fun b => !b == a) l
      rw [List.length_cons] at h
      omega
theorem sortPr_perm (ps : List (Int × Int)) : (sortPr ps).Perm ps.eraseDups := List.mergeSort_perm _ _
theorem sortPr_pw (ps : List (Int × Int)) : (sortPr ps).Pairwise fun p q => prLe p q = true := by
  refine List.pairwise_mergeSort (fun a b c h1 h2 => ?_) (fun a b => ?_) _
  · unfold prLe at *
    simp only [decide_eq_true_eq] at *
    omega
  · unfold prLe
    simp only [Bool.or_eq_true, decide_eq_true_eq]
    omega
theorem sortPr_uniq {ps M : List (Int × Int)} (hb : ∀ p ∈ ps, 0 ≤ p.1 ∧ p.1 < 64 ∧ 0 ≤ p.2 ∧ p.2 < 64) (nd : M.Nodup) (hm : ∀ x, x ∈ M ↔ x ∈ ps) (pw : M.Pairwise fun p q => prLe p q = true) : M = sortPr ps := by
  have pm : M.Perm (sortPr ps) := ((List.perm_ext_iff_of_nodup nd (nodup_dups _ _ (Nat.le_refl _))).mpr fun x => by rw [hm x, List.mem_eraseDups]).trans (sortPr_perm ps).symm
  refine List.Perm.eq_of_pairwise (fun a b ha hb' h1 h2 => ?_) pw (sortPr_pw ps) pm
  have b1 := hb a ((hm a).mp ha)
  have b2 := hb b ((hm b).mp (pm.mem_iff.mpr hb'))
  unfold prLe at h1 h2
  simp only [decide_eq_true_eq] at h1 h2
  refine Prod.ext ?_ ?_ <;> omega
theorem asPrs_some : ∀ {xs : List PV} {ps : List (Int × Int)}, asPrs xs = some ps → xs = ps.map prV ∧ ∀ p ∈ ps, 0 ≤ p.1 ∧ p.1 < 64 ∧ 0 ≤ p.2 ∧ p.2 < 64
  | [], ps, h => by cases h; exact ⟨rfl, fun p hp => nomatch hp⟩
  | x :: xs, ps, h => by
    unfold asPrs at h
    split at h
    · rename_i heq; cases heq
    · rename_i heq
      cases heq
      split at h
      · rename_i hb
        obtain ⟨qs, e, rfl⟩ := Option.map_eq_some_iff.mp h
        obtain ⟨h1, h2⟩ := asPrs_some e
        refine ⟨by rw [h1]; rfl, fun p hp => ?_⟩
        rcases List.mem_cons.mp hp with rfl | hp
        · exact hb
        · exact h2 p hp
      · cases h
    · cases h
/-- the two numbers of a pair -/
def l2 (p : Int × Int) : List Int := [p.1, p.2]
theorem RpL.prs {T : Wd} {g : Gh} : ∀ {vs : List V} {ps : List (Int × Int)}, RpL T g vs (ps.map prV) → ∃ ks : List (Addr × List Int), vs = ks.map (fun p => V.ref p.1) ∧ ks.map (·.2) = ps.map l2 ∧ ∀ k ∈ ks, SqT T.K g.F k.1 (k.2.map V.int)
  | _, [], h => by cases h; exact ⟨[], rfl, rfl, fun k hk => nomatch hk⟩
  | _, p :: ps, h => by
    rw [List.map_cons] at h
    cases h with
    | cons r t =>
      obtain ⟨ks, h1, h2, h3⟩ := RpL.prs t
      unfold prV at r
      cases r with
      | @tup a vs _ e r2 =>
        cases r2 with
        | cons q1 q2 =>
          cases q1
          cases q2 with
          | cons q3 q4 =>
            cases q3
            cases q4
            refine ⟨(a, l2 p) :: ks, by rw [h1]; rfl, by rw [List.map_cons, h2]; rfl, fun k hk => ?_⟩
            rcases List.mem_cons.mp hk with rfl | hk
            · exact e
            · exact h3 k hk
section
variable {X : Cx} {W : WX} {e a b d : Expr} {es : List Expr} {ev ea eb ed : Ev} {pos p p2 : Pos}
theorem cr_setP (hc : X.calm = true) (hu : X.A.units + 64 < cLine) : CallR X (.type "set") (fun vs H Q => ∃ (t : Addr) (ks : List (Addr × List Int)), vs = [.ref t] ∧ (SqT X.K H t (ks.map fun p => V.ref p.1) ∨ SqL X.K H t (ks.map fun p => V.ref p.1)) ∧ (∀ p ∈ ks, SqT X.K H p.1 (p.2.map V.int)) ∧ ks.length < 64 ∧
    ∀ a L, H a = none → (∀ p ∈ L, p ∈ ks) → (∀ p ∈ ks, p.2 ∈ L.map (·.2)) → Q (.ref a) (upd H a (SetTO X.prog X.w a L))) := by
  intro pins s σ H vs us Q I r h
  obtain ⟨t, ks, rfl, ht, hk, hl, q⟩ := h
  rcases ht with ht | ht
  · rw [Vals.ref1 r]
    obtain ⟨its, rv, pt, hz⟩ := I.tuple ht
    have er := refs_of_vals rv
    have hsz : its.toArray.size = ks.length := by rw [List.size_toArray, ← rv.length, List.length_map]
    have dead : s.heap.get? s.heap.objs.size = none := by
      cases z : s.heap.get? s.heap.objs.size with
      | none => rfl
      | some o => exact absurd (Heap.lt_size z) (Nat.lt_irrefl _)
    refine set_tup (I.ok.hd hc) pt (G := fun h' => ∃ L es ep t, SetTR X.prog X.w h' s.heap.objs.size L es ep t ∧ Got ks ks.length L) (fun R J s1 Wk nS st atS dJ kp k => ?_) fun h' tk hG kp => ?_
    · refine set_update_tups Wk _ nS ks hsz hl (fun i v hv => ?_) s.heap (fun p hp => I.isT (hk p hp)) dead (fun b hb => by rw [List.mem_singleton.mp hb]; exact dJ) (show X.A.units + 3 < cLine by omega) its.toArray.size 0 s1 (Nat.sub_zero _) (Nat.zero_le _) st kp ⟨[], #[], 0, _, setTR_fresh atS, Got.zero ks⟩ ?_
      · rw [← Array.getElem?_toList] at hv
        have hv : its[i]? = some v := by simpa using hv
        rw [er, List.getElem?_map] at hv
        obtain ⟨p, e1, e2⟩ := Option.map_eq_some_iff.mp hv
        exact ⟨p, e1, e2.symm⟩
      · intro s' L es ep t hm R' g' kp'
        rw [hsz] at g'
        exact k s' hm ⟨L, es, ep, t, R', g'⟩
    · obtain ⟨L, es, ep, t, R', g'⟩ := hG
      refine ⟨.ref s.heap.objs.size, _, I.laid (t' := tk) kp (Nat.le_refl _) (setTO_new R'.t0), rfl, q _ L (I.hok.fresh (Nat.le_refl _)) (fun p hp => ?_) fun p hp => ?_⟩
      · exact List.mem_of_mem_take (g'.sub p hp)
      · exact g'.all p (by rw [List.take_length]; exact hp)
  · exact cr_setOfT hc hu pins s σ H _ us Q I r ⟨t, ks, rfl, ht, hk, hl, q⟩
theorem code_l2 (p : Int × Int) : TS.code 64 (l2 p) = p.1 * 64 + p.2 := code_pair p.1 p.2
theorem x_sortedSet (hc : X.calm = true) (hu : X.A.units + 64 < cLine) (k : BOk X "sorted") (k2 : BOk X "set") (ha : XB X W a ea) (hs : notStar a = true) : XO X W (.Call (.Name "sorted" p) [.Call (.Name "set" p2) [a] [] pos2] [] pos) (b1 .sortedSet ea) := by
  refine pe_weak (pe_callB (cr_sortedT hc) k.gl k.no (by decide +kernel) (pa_cons (pe_callTy (cr_setP hc hu) k2.gl k2.no (by decide +kernel) (pa_cons ha pa_nil (star_cons hs)) k2.nn k2.nd (star_cons hs) rfl) pa_nil rfl) k.nn k.nd rfl rfl) fun σ H Q h => ?_
  have h' := tR.one (f := fun xs c => pureR (bltop .sortedSet xs) c) h
  refine (tR.one h').mono fun x g1 c1 H1 ⟨h1, d1, k1⟩ v cv => ?_
  obtain ⟨_, d2, k2⟩ := k1 g1 H1 Pres.refl h1
  obtain ⟨z, ez, kz⟩ := k2.pure
  obtain ⟨xs, e1, e2⟩ := Option.bind_eq_some_iff.mp (show (seqOf x).bind _ = some z from ez)
  obtain ⟨ps, e3, e4⟩ := Option.bind_eq_some_iff.mp e2
  split at e4
  · rename_i hlt
    cases e4
    obtain ⟨a, vs, rfl, ea, ra⟩ := seqOf_ct h1 e1 cv
    obtain ⟨rfl, hb⟩ := asPrs_some e3
    obtain ⟨ks, rfl, hk2, hk3⟩ := ra.prs
    have hlen : ks.length = ps.length := by have := congrArg List.length hk2; simpa using this
    have hks : ∀ q ∈ ks, ∃ p ∈ ps, q.2 = l2 p := fun q hq => by
      have : q.2 ∈ ks.map (·.2) := List.mem_map.mpr ⟨q, hq, rfl⟩
      rw [hk2] at this
      obtain ⟨p, hp, e⟩ := List.mem_map.mp this
      exact ⟨p, hp, e.symm⟩
    refine ⟨a, ks, rfl, ea, fun q hq => h1.sqT (hk3 q hq), by omega, fun b L hb0 hL1 hL2 => ?_⟩
    obtain ⟨p', h''⟩ := h1.fresh (o := SetTO X.prog X.w b L) hb0
    refine ⟨b, L, 2, 64, rfl, upd_same, fun q hq => ?_, by decide, fun q hq => ?_, fun L' p0 pm nd hl' pw hp0 => ?_⟩
    · exact h''.sqT (hk3 q (hL1 q hq))
    · obtain ⟨p, hp, e⟩ := hks q (hL1 q hq)
      rw [e]
      refine ⟨rfl, fun m hm => ?_⟩
      have := hb p hp
      unfold l2 at hm
      rcases List.mem_cons.mp hm with rfl | hm
      · exact ⟨this.1, this.2.1⟩
      · rw [List.mem_singleton.mp hm]; exact ⟨this.2.2.1, this.2.2.2⟩
    · have hL' : ∀ q ∈ L', q ∈ ks := fun q hq => hL1 q (pm.mem_iff.mp hq)
      have toP : ∀ M : List (Addr × List Int), (∀ q ∈ M, q ∈ ks) → ∃ N : List (Int × Int), M.map (·.2) = N.map l2 := fun M => by
        induction M with
        | nil => intro _; exact ⟨[], rfl⟩
        | cons q M ih =>
          intro hq
          obtain ⟨N, e⟩ := ih fun r hr => hq r (List.mem_cons_of_mem _ hr)
          obtain ⟨p, _, e2⟩ := hks q (hq q List.mem_cons_self)
          exact ⟨p :: N, by rw [List.map_cons, List.map_cons, e, e2]⟩
      obtain ⟨N, eN⟩ := toP L' hL'
      have inj : ∀ p q : Int × Int, l2 p = l2 q → p = q := fun p q e => by
        unfold l2 at e
        injection e with e1 e2
        injection e2 with e2 _
        exact Prod.ext e1 e2
      have eN2 : N = sortPr ps := by
        refine sortPr_uniq hb ?_ (fun x => ?_) ?_
        · rw [eN] at nd
          exact List.Pairwise.of_map l2 (fun _ _ hne e => hne (congrArg l2 e)) nd
        · constructor
          · intro hx
            have : l2 x ∈ L'.map (·.2) := by rw [eN]; exact List.mem_map.mpr ⟨x, hx, rfl⟩
            obtain ⟨q, hq, e⟩ := List.mem_map.mp this
            obtain ⟨p, hp, e2⟩ := hks q (hL' q hq)
            rw [← inj p x (e2.symm.trans e)]
            exact hp
          · intro hx
            have : l2 x ∈ ks.map (·.2) := by rw [hk2]; exact List.mem_map.mpr ⟨x, hx, rfl⟩
            obtain ⟨q, hq, e⟩ := List.mem_map.mp this
            have m2 := hL2 q hq
            obtain ⟨q', hq', e'⟩ := List.mem_map.mp m2
            have : l2 x ∈ L'.map (·.2) := List.mem_map.mpr ⟨q', pm.mem_iff.mpr hq', e'.trans e⟩
            rw [eN] at this
            obtain ⟨y, hy, ey⟩ := List.mem_map.mp this
            rw [← inj y x ey]
            exact hy
        · have z : (L'.map (·.2)).Pairwise fun k1 k2 => TS.code 64 k1 ≤ TS.code 64 k2 := List.pairwise_map.mpr pw
          rw [eN, List.pairwise_map] at z
          refine z.imp fun {p q} h => ?_
          rw [code_l2, code_l2] at h
          exact decide_eq_true h
      have rl : ∀ (M : List (Addr × List Int)) (N : List (Int × Int)), (∀ q ∈ M, q ∈ ks) → M.map (·.2) = N.map l2 → RpL (wd X) g1 (M.map fun q => V.ref q.1) (N.map prV) := fun M => by
        induction M with
        | nil =>
          intro N _ e
          cases N with
          | nil => exact .nil
          | cons p N => cases e
        | cons q M ih =>
          intro N hq e
          cases N with
          | nil => cases e
          | cons p N =>
            rw [List.map_cons, List.map_cons] at e
            injection e with e1 e2
            refine .cons ?_ (ih N (fun r hr => hq r (List.mem_cons_of_mem _ hr)) e2)
            have := hk3 q (hq q List.mem_cons_self)
            rw [e1] at this
            exact .tup this (.cons (.int _) (.cons (.int _) .nil))
      have rr := rl L' N hL' eN
      rw [eN2] at rr
      have fin : FinO (wd X) g1 (upd H1 b (SetTO X.prog X.w b L)) c1 Q (.lst ((sortPr ps).map prV)) := fun g' H' a p'' h' na nf nc o => kz g' H' (p'.trans p'') h' a (d1 a (p'.dead na)) nf nc o
      exact fin.newL h'' rr p0 hp0
  · cases e4
end
end PP

set_option Elab.async false
set_option linter.all false
set_option maxRecDepth 100000
/-! PP6d: dict of pairs. -/
namespace PP
open PySem PySem.Spec PyProof.Rows L2
theorem isKey_tup {k : PV} (h : isKey k = true) : ∃ xs, k = .tup xs ∧ xs.all (keyd 7) = true := by
  cases k with
  | tup xs => exact ⟨xs, rfl, by simpa [isKey, keyd] using h⟩
  | _ => simp [isKey] at h
section
variable {X : Cx} {W : WX} {e a b d : Expr} {es : List Expr} {ev ea eb ed : Ev} {pos p p2 : Pos}
variable {g : Gh} {H : Hp} {c : List PV} {s : Shared} {σ : L2.St} {pins : List (Addr × Obj)}
theorem RpL.pairs (I : Inv X pins σ H s) (hr : HR (wd X) g c H) : ∀ {vs : List V} {items : List PV} {kvs : List (PV × PV)}, RpL (wd X) g vs items → asPairs items = some kvs →
    ∃ (ts : List Addr) (xs : List (NestedKey × Addr × Value)), vs = ts.map V.ref ∧ ts.length = xs.length ∧ xs.length = kvs.length ∧ (∀ (j : Nat) (x : NestedKey × Addr × Value), xs[j]? = some x → ∃ t : Addr, ts[j]? = some t ∧ PairAt s.heap t (.ref x.2.1) x.2.2) ∧
      (∀ x ∈ xs, (nestedKind X.prog X.w).is s.heap x.1 x.2.1) ∧ xs.map (·.1) = kvs.map (fun p => nk p.1) ∧ RpD (wd X) g (xs.map (entryOfKey (nestedKind X.prog X.w))) kvs
  | _, _, kvs, .nil, h => by
    cases h
    exact ⟨[], [], rfl, rfl, rfl, fun j x e => by simp at e, fun x hx => (nomatch hx), rfl, .nil⟩
  | _, _, kvs, .cons (v := v0) (p := p0) (vs := vs) (ps := ps) rp rt, h => by
    unfold asPairs at h
    split at h
    · rename_i heq; cases heq
    · rename_i k v r heq
      cases heq
      split at h
      · rename_i hk
        obtain ⟨kvs', e, rfl⟩ := Option.map_eq_some_iff.mp h
        obtain ⟨ts, xs, h1, h2, h3, h4, h5, h6, h7⟩ := RpL.pairs I hr rt e
        cases rp with
        | @tup t ws _ et rw =>
          cases rw with
          | @cons kv _ _ _ rk rw2 =>
            cases rw2 with
            | @cons vv _ _ _ rv rw3 =>
              cases rw3
              obtain ⟨its, rvs, pt, _⟩ := I.tuple (hr.sqT et)
              cases rvs with
              | @cons _ u1 _ us1 z1 z2 =>
                cases z2 with
                | @cons _ u2 _ us2 z3 z4 =>
                  cases z4
                  obtain ⟨ka, rfl, rfl, hi⟩ := rk.key I hr hk z1
                  refine ⟨t :: ts, (nk k, ka, u2) :: xs, by rw [h1]; rfl, by simp [h2], by simp [h3], fun j x ex => ?_, fun x hx => ?_, by rw [List.map_cons, h6]; rfl, ?_⟩
                  · cases j with
                    | zero =>
                      simp at ex
                      subst ex
                      exact ⟨t, rfl, .inl pt⟩
                    | succ j =>
                      obtain ⟨t', e1, e2⟩ := h4 j x (by simpa using ex)
                      exact ⟨t', by simpa using e1, e2⟩
                  · rcases List.mem_cons.mp hx with rfl | hx
                    · exact hi
                    · exact h5 x hx
                  · rw [List.map_cons]
                    exact .cons hk rfl rk rfl z3 rv h7
      · cases h
    · cases h
theorem distK_nd : ∀ {kvs : List (PV × PV)}, (∀ p ∈ kvs, isKey p.1 = true) → distK kvs = true → (kvs.map fun p => nk p.1).Nodup
  | [], _, _ => .nil
  | (k, v) :: r, hk, h => by
    rw [distK, Bool.and_eq_true] at h
    rw [List.map_cons, List.nodup_cons]
    refine ⟨fun hm => ?_, distK_nd (fun p hp => hk p (List.mem_cons_of_mem _ hp)) h.2⟩
    obtain ⟨q, hq, e⟩ := List.mem_map.mp hm
    have k0 : isKey k = true := hk _ List.mem_cons_self
    have key : ∀ r : List (PV × PV), (∀ p ∈ r, isKey p.1 = true) → q ∈ r → (dget r k).isSome = true := fun r => by
      induction r with
      | nil => intro _ z; cases z
      | cons x r ih =>
        obtain ⟨k1, v1⟩ := x
        intro hr hm
        rw [dget]
        by_cases hh : peq k1 k = true
        · rw [if_pos hh]; rfl
        · rw [if_neg hh]
          rcases List.mem_cons.mp hm with rfl | hm
          · rw [key_eq (hr _ List.mem_cons_self) k0] at hh
            exact absurd (decide_eq_true e) hh
          · exact ih (fun p hp => hr p (List.mem_cons_of_mem _ hp)) hm
    have := key r (fun p hp => hk p (List.mem_cons_of_mem _ hp)) hq
    have h1 := h.1
    cases hd : dget r k with
    | none => rw [hd] at this; cases this
    | some z => rw [hd] at h1; cases h1
theorem asPairs_keys : ∀ {xs : List PV} {kvs : List (PV × PV)}, asPairs xs = some kvs → (∀ p ∈ kvs, isKey p.1 = true) ∧ kvs.length = xs.length
  | [], kvs, h => by cases h; exact ⟨fun p hp => (nomatch hp), rfl⟩
  | x :: xs, kvs, h => by
    unfold asPairs at h
    split at h
    · rename_i heq; cases heq
    · rename_i heq
      cases heq
      split at h
      · rename_i hk
        obtain ⟨r, e, rfl⟩ := Option.map_eq_some_iff.mp h
        obtain ⟨h1, h2⟩ := asPairs_keys e
        refine ⟨fun p hp => ?_, by simp [h2]⟩
        rcases List.mem_cons.mp hp with rfl | hp
        · exact hk
        · exact h1 p hp
      · cases h
    · cases h
theorem objO_new {P : Program} {w : World} {H : Hp} {h : Heap} {a : Addr} {o : Obj} (ho : h.get? a = some o) : ObjOk P w H h a (objO a o) :=
  ⟨ho, ⟨o, ho⟩, fun h1 h2 p k => k o p⟩
theorem b_dictO (hc : X.calm = true) (hu : X.A.units + 70 < cLine) : CallR X (.type "dict") (rCO (wd X) (bltop .dict)) := by
  intro pins s σ H vs us Q I r h
  obtain ⟨g, c, ps, z, hr, cx, e, fin⟩ := h
  unfold bltop at e
  split at e <;> first | (cases e; done) | skip
  all_goals first | contradiction | skip
  rename_i items
  obtain ⟨v, rfl, cz⟩ := cx.one
  obtain ⟨kvs, e1, e2⟩ := Option.bind_eq_some_iff.mp e
  split at e2
  · rename_i hcond
    cases e2
    rw [Bool.and_eq_true, decide_eq_true_eq] at hcond
    obtain ⟨a, ws, rfl, ea, ra⟩ := cz.lst hr
    rw [Vals.ref1 r]
    obtain ⟨ts, xs, rfl, l1, l2', h4, h5, h6, h7⟩ := ra.pairs I hr e1
    obtain ⟨hkeys, hklen⟩ := asPairs_keys e1
    obtain ⟨its, rv, pl, hz⟩ := I.list (SqL.of ea)
    have er := refs_at rv
    subst er
    have nd : (xs.map (·.1)).Nodup := by rw [h6]; exact distK_nd hkeys hcond.2
    have lenx : (xs.map fun x => (Value.ref x.2.1, x.2.2)).length = xs.length := List.length_map _
    refine call_dict_pairsH (knd := nestedKind X.prog X.w) (ps := xs) (PairArg.list a (ts.map Value.ref).toArray (fun j => ts.getD j 0) (xs.map fun x => (Value.ref x.2.1, x.2.2))) (I.ok.hd hc) ?_ ⟨pl, ?_⟩ ⟨by rw [lenx], ?_⟩ ?_ ?_ ?_
    · show X.A.units + 2 + 8 < cLine
      omega
    · refine ⟨by rw [lenx, List.size_toArray, List.length_map, l1], fun j k v hj => ?_⟩
      rw [List.getElem?_map] at hj
      obtain ⟨x, hx, ex⟩ := Option.map_eq_some_iff.mp hj
      cases ex
      obtain ⟨t, ht, pa⟩ := h4 j x hx
      have : ts.getD j 0 = t := by rw [List.getD_eq_getElem?_getD, ht]; rfl
      show _ = some (Value.ref (ts.getD j 0)) ∧ PairAt s.heap (ts.getD j 0) _ _
      rw [this]
      exact ⟨by simp [ht], pa⟩
    · intro i key v hrel
      have hrel : (xs.map fun x => (Value.ref x.2.1, x.2.2))[i]? = some (key, v) := hrel
      rw [List.getElem?_map] at hrel
      obtain ⟨x, hx, ex⟩ := Option.map_eq_some_iff.mp hrel
      cases ex
      exact ⟨x.1, x.2.1, hx, rfl⟩
    · intro h' hk x hx
      refine nestedKind_stays.stays (fun b o vs n ho hd => hk b o (Nat.ne_of_lt (Heap.lt_size ho)) (by simp) ho) (h5 x hx)
    · rw [lenx, l2', hklen, lim_eq]
      exact hcond.1
    · intro h' tk hd' hk
      rw [storedAllH_nil_of_nodup xs nd] at hd'
      obtain ⟨o, es, ep, ho, hex, hdat, hes, _, _⟩ := hd'
      have hm : (s.heap.objs.size == sysModules) = false := beq_eq_false_iff_ne.mpr (Nat.ne_of_gt I.big)
      have hn : H s.heap.objs.size = none := I.hok.fresh (Nat.le_refl _)
      obtain ⟨p', h''⟩ := hr.fresh (o := objO s.heap.objs.size o) hn
      obtain ⟨n1, n2⟩ := hr.ne hn
      refine ⟨.ref s.heap.objs.size, _, I.laid (t' := tk) (fun b o e => hk b o (by simp) e) (Nat.le_refl _) (objO_new ho), rfl, fin _ _ _ p' h'' hn n1 n2 ⟨n2, o, upd_same, hm, hex, ⟨es, ep, hdat, ?_⟩, distK_nd hkeys hcond.2, by rw [hklen]; exact hcond.1⟩⟩
      rw [hes]
      exact h7
  · cases e2
end
end PP

set_option Elab.async false
set_option linter.all false
set_option maxRecDepth 100000
/-! PP10: targets, iterators, comprehensions. -/
namespace PP
open PySem PySem.Spec PyProof.Rows L2

/-! ### slots written -/
mutual
def Tg.vars : Tg → List Nat
  | .name i => [i]
  | .tup ts => Tg.varss ts
def Tg.varss : List Tg → List Nat
  | [] => []
  | t :: ts => Tg.vars t ++ Tg.varss ts
end
section
variable {T : Wd} {g g' : Gh} {H H' : Hp} {B : Addr → Prop} {env : Env} {σ : L2.St}
theorem EnvR.put (e : EnvR T g H B env σ) {i : Nat} {v : V} {p : PV} (r : Rp T g v p) : EnvR T g H B (env.set i (.val p)) (σ.set i (some v)) := by
  refine ⟨by simp [e.len], fun j s hs => ?_, fun j k p q a hj hk sj sk => ?_⟩
  · by_cases h : i = j
    · subst h
      obtain ⟨h1, h2⟩ := List.getElem?_eq_some_iff.mp hs
      have h1' : i < env.length := by simpa using h1
      rw [List.getElem?_set_self h1'] at hs
      cases hs
      exact ⟨v, by rw [List.getElem?_set_self (by rw [e.len]; exact h1')], r⟩
    · rw [List.getElem?_set_ne h] at hs
      rw [List.getElem?_set_ne h]
      exact e.at_ j s hs
  · by_cases h : i = j
    · subst h
      obtain ⟨h1, _⟩ := List.getElem?_eq_some_iff.mp hj
      rw [List.getElem?_set_self (by simpa using h1)] at hj
      cases hj
    · by_cases h' : i = k
      · subst h'
        obtain ⟨h1, _⟩ := List.getElem?_eq_some_iff.mp hk
        rw [List.getElem?_set_self (by simpa using h1)] at hk
        cases hk
      · rw [List.getElem?_set_ne h] at hj sj
        rw [List.getElem?_set_ne h'] at hk sk
        exact e.inj j k p q a hj hk sj sk
theorem EnvR.clear (e : EnvR T g H B env σ) (i : Nat) (x : Option V) : EnvR T g H B (env.set i .no) (σ.set i x) := by
  refine ⟨by simp [e.len], fun j s hs => ?_, fun j k p q a hj hk sj sk => ?_⟩
  · by_cases h : i = j
    · subst h
      obtain ⟨h1, h2⟩ := List.getElem?_eq_some_iff.mp hs
      rw [List.getElem?_set_self (by simpa using h1)] at hs
      cases hs
      trivial
    · rw [List.getElem?_set_ne h] at hs
      rw [List.getElem?_set_ne h]
      exact e.at_ j s hs
  · by_cases h : i = j
    · subst h
      obtain ⟨h1, _⟩ := List.getElem?_eq_some_iff.mp hj
      rw [List.getElem?_set_self (by simpa using h1)] at hj
      cases hj
    · by_cases h' : i = k
      · subst h'
        obtain ⟨h1, _⟩ := List.getElem?_eq_some_iff.mp hk
        rw [List.getElem?_set_self (by simpa using h1)] at hk
        cases hk
      · rw [List.getElem?_set_ne h] at hj sj
        rw [List.getElem?_set_ne h'] at hk sk
        exact e.inj j k p q a hj hk sj sk
theorem EnvR.wipe (e : EnvR T g H B env σ) : ∀ vs : List Nat, EnvR T g H B (wipeP env vs) (L2.wipe σ vs)
  | [] => e
  | v :: vs => by
    rw [wipeP, L2.wipe]
    exact (EnvR.wipe e vs).clear v none
theorem wipe_get {σ : L2.St} {i : Nat} : ∀ {vs : List Nat}, i ∉ vs → (L2.wipe σ vs)[i]? = σ[i]?
  | [], _ => rfl
  | v :: vs, h => by
    rw [L2.wipe, List.getElem?_set_ne (by intro z; exact h (by simp [z]))]
    exact wipe_get fun z => h (by simp [z])
theorem wipe_mem {σ : L2.St} {i : Nat} : ∀ {vs : List Nat}, i ∈ vs → i < σ.length → (L2.wipe σ vs)[i]? = some none
  | [], h, _ => nomatch h
  | v :: vs, h, l => by
    rw [L2.wipe]
    by_cases q : v = i
    · subst q
      rw [List.getElem?_set_self (by rw [L2.wipe_length]; exact l)]
    · rw [List.getElem?_set_ne q]
      rcases List.mem_cons.mp h with z | z
      · exact absurd z.symm q
      · exact wipe_mem z l
theorem wipe_same {σ τ : L2.St} {vs : List Nat} (hl : σ.length = τ.length) (h : ∀ i, i ∉ vs → σ[i]? = τ[i]?) : L2.wipe σ vs = L2.wipe τ vs := by
  apply List.ext_getElem?
  intro i
  by_cases hi : i ∈ vs
  · by_cases hl' : i < σ.length
    · rw [wipe_mem hi hl', wipe_mem hi (by omega)]
    · rw [List.getElem?_eq_none (by rw [L2.wipe_length]; omega), List.getElem?_eq_none (by rw [L2.wipe_length]; omega)]
  · rw [wipe_get hi, wipe_get hi]; exact h i hi
end

/-! ### targets -/
def tG (T : Wd) (t : Tg) : TG := fun v σ H Q => ∃ g env c B p env', EnvR T g H B env σ ∧ HR T g c H ∧ Rp T g v p ∧ bindT t p env = some env' ∧
  ∀ σ', EnvR T g H B env' σ' → (∀ i, i ∉ t.vars → σ'[i]? = σ[i]?) → Q σ' H
def tGs (T : Wd) (ts : List Tg) : TGs := fun vs σ H Q => ∃ g env c B ps env', EnvR T g H B env σ ∧ HR T g c H ∧ RpL T g vs ps ∧ bindTs ts ps env = some env' ∧
  ∀ σ', EnvR T g H B env' σ' → (∀ i, i ∉ Tg.varss ts → σ'[i]? = σ[i]?) → Q σ' H
section
variable {X : Cx} {e : Expr} {es : List Expr} {pos : Pos} {x : Str}
theorem pg_weak {t t' : TG} (h : L2.PG X e t) (w : ∀ v σ H Q, t' v σ H Q → t v σ H Q) : L2.PG X e t' := ⟨fun pins s σ H v u Q I r q => h.run pins s σ H v u Q I r (w v σ H Q q)⟩
theorem pgs_weak {t t' : TGs} (h : L2.PGs X es t) (w : ∀ v σ H Q, t' v σ H Q → t v σ H Q) : L2.PGs X es t' := ⟨fun pins s σ H v u Q I r q => h.run pins s σ H v u Q I r (w v σ H Q q)⟩
theorem xg_name {i : Nat} (hN : X.N.Nodup) (hi : X.N[i]? = some x) (hx : Loc X.env.scope x) (hf : X.fn x = true ∨ X.env.scope.names.lookup x = some .local) : L2.PG X (.Name x pos) (tG (wd X) (.name i)) :=
  pg_weak (pg_name hN hi hx hf) fun v σ H Q ⟨g, env, c, B, p, env', er, hr, rp, hb, k⟩ => by
    rw [bindT] at hb
    cases hb
    exact k _ (er.put rp) fun j hj => List.getElem?_set_ne fun z => hj (by simp [Tg.vars, z])
theorem xgs_nil : L2.PGs X [] (tGs (wd X) []) := pgs_weak pgs_nil fun vs σ H Q ⟨g, env, c, B, ps, env', er, hr, rp, hb, k⟩ => by
  cases rp with
  | nil =>
    rw [bindTs] at hb
    cases hb
    exact ⟨rfl, k σ er fun _ _ => rfl⟩
  | cons r t => simp [bindTs] at hb
theorem assignEach_cons {env : PySem.Env} (h : notStar e = true) : assignEach (e :: es) env = (false, assign e env) :: assignEach es env := by
  cases e <;> first | rfl | cases h
theorem assignEach_len {env : PySem.Env} : ∀ {es : List Expr}, (assignEach es env).length = es.length
  | [] => rfl
  | e :: es => by
    cases e <;> (first | (show (_ :: assignEach es env).length = _); rw [List.length_cons, List.length_cons, assignEach_len])
theorem assignEach_no {env : PySem.Env} : ∀ {es : List Expr}, es.all notStar = true → (assignEach es env).findIdx? (·.1) = none
  | [], _ => rfl
  | e :: es, h => by
    rw [List.all_cons, Bool.and_eq_true] at h
    rw [assignEach_cons h.1, List.findIdx?_cons]
    simp [assignEach_no h.2]
theorem xgs_cons {t : Tg} {ts : List Tg} (h1 : L2.PG X e (tG (wd X) t)) (h2 : L2.PGs X es (tGs (wd X) ts)) (hs : notStar e = true) : L2.PGs X (e :: es) (tGs (wd X) (t :: ts)) :=
  pgs_weak (pgs_cons h1 h2 (by rw [assignEach_cons hs]; rfl)) fun vs σ H Q ⟨g, env, c, B, ps, env', er, hr, rp, hb, k⟩ => by
    cases rp with
    | nil => simp [bindTs] at hb
    | @cons v p vs' ps' r rt =>
      rw [bindTs] at hb
      cases h0 : bindT t p env with
      | none => rw [h0] at hb; cases hb
      | some env1 =>
        rw [h0] at hb
        refine ⟨_, _, rfl, g, env, c, B, _, env1, er, hr, r, h0, fun σ1 er1 k1 => ?_⟩
        refine ⟨g, env1, c, B, _, env', er1, hr, rt, hb, fun σ2 er2 k2 => k σ2 er2 fun i hi => ?_⟩
        rw [k2 i fun z => hi (by simp [Tg.varss, z]), k1 i fun z => hi (by simp [Tg.varss, z])]
theorem bindTs_len : ∀ {ts : List Tg} {ps : List PV} {env env' : Env}, bindTs ts ps env = some env' → ps.length = ts.length
  | [], [], _, _, _ => rfl
  | [], _ :: _, _, _, h => by simp [bindTs] at h
  | _ :: _, [], _, _, h => by simp [bindTs] at h
  | t :: ts, p :: ps, env, env', h => by
    rw [bindTs] at h
    cases h0 : bindT t p env with
    | none => rw [h0] at h; cases h
    | some e1 => rw [h0] at h; rw [List.length_cons, List.length_cons, bindTs_len h]
theorem xg_tup {ts : List Tg} {k : Nat} (hc : X.calm = true) (h : L2.PGs X es (tGs (wd X) ts)) (hs : es.all notStar = true) (hl : ts.length = es.length) : L2.PG X (.Tuple es k pos) (tG (wd X) (.tup ts)) :=
  pg_weak (pg_tup (n := es.length) hc h assignEach_len (assignEach_no hs)) fun v σ H Q ⟨g, env, c, B, p, env', er, hr, rp, hb, k⟩ => by
    cases p with
    | tup xs =>
      rw [bindT] at hb
      cases rp with
      | tup e r =>
        refine ⟨_, _, rfl, hr.sqT e, ?_, g, env, c, B, xs, env', er, hr, r, hb, fun σ' er' k' => k σ' er' fun i hi => k' i (by simpa [Tg.vars] using hi)⟩
        rw [r.length, bindTs_len hb, hl]
    | _ => simp [bindT] at hb
end

/-! ### iterators -/
structure ItP (T : Wd) (J : It) (g1 : Gh) (items : List PV) : Prop where
  item : ∀ i p g c H, items[i]? = some p → Ext g1 g → HR T g c H → J.go i H ∧ ∀ x H', J.yld i H x H' → ∃ g', Pres g H g' H' ∧ HR T g' c H' ∧ Rp T g' x p
  stop : ∀ i g c H, items.length ≤ i → Ext g1 g → HR T g c H → J.stop i H
abbrev EvI := Env → List PV → R (List PV)
def tI (T : Wd) (mg : MG) (W : WX) (ev : EvI) : TI := fun σ H R => tR T mg W ev (fun items g' _ H' => ∀ J, ItP T J g' items → R J H') σ H
abbrev XI (X : Cx) (W : WX) (tg e : Expr) (ev : EvI) : Prop := L2.PI X tg e (tI (wd X) X.mg W ev)
section
variable {T : Wd} {g g' : Gh} {H : Hp} {c : List PV}
theorem RpL.get' : ∀ {vs : List V} {ps : List PV} {i : Nat} {v : V} {p : PV}, RpL T g vs ps → ps[i]? = some p → vs[i]? = some v → Rp T g v p := fun r h1 h2 => by
  obtain ⟨v', e, r'⟩ := r.get h1
  rw [h2] at e; cases e; exact r'
theorem it_list {a : Addr} {vs : List V} {ps : List PV} (e : SqL T.K g.F a vs) (r : RpL T g vs ps) : ItP T (Itl T.K a) g ps := by
  refine ⟨fun i p g2 c H hp x hr => ?_, fun i g2 c H hi x hr => ⟨vs, hr.sqL (x.sqL e), by rw [r.length]; exact hi⟩⟩
  obtain ⟨v, hv, rv⟩ := r.get hp
  have q := hr.sqL (x.sqL e)
  refine ⟨⟨vs, v, q, hv⟩, fun y H' hy => ?_⟩
  obtain ⟨rfl, hy⟩ := hy
  exact ⟨g2, Pres.refl, hr, (r.get' hp (hy vs q)).ext x⟩
theorem it_tup {a : Addr} {vs : List V} {ps : List PV} (e : SqT T.K g.F a vs) (r : RpL T g vs ps) : ItP T (Itt T.K a) g ps := by
  refine ⟨fun i p g2 c H hp x hr => ?_, fun i g2 c H hi x hr => ⟨vs, hr.sqT (x.sqT e), by rw [r.length]; exact hi⟩⟩
  obtain ⟨v, hv, rv⟩ := r.get hp
  have q := hr.sqT (x.sqT e)
  refine ⟨⟨vs, v, q, hv⟩, fun y H' hy => ?_⟩
  obtain ⟨rfl, hy⟩ := hy
  exact ⟨g2, Pres.refl, hr, (r.get' hp (hy vs q)).ext x⟩
theorem it_str (s : Str) : ItP T (Its s) g (s.cps.toList.map fun d => .str ⟨#[d]⟩) := by
  refine ⟨fun i p g2 c H hp x hr => ?_, fun i g2 c H hi x hr => by simpa [Its] using hi⟩
  rw [List.getElem?_map] at hp
  obtain ⟨d, hd, rfl⟩ := Option.map_eq_some_iff.mp hp
  have hd' : s.cps[i]? = some d := by simpa using hd
  obtain ⟨hl, _⟩ := Array.getElem?_eq_some_iff.mp hd'
  refine ⟨hl, fun y H' hy => ?_⟩
  obtain ⟨rfl, d', e', rfl⟩ := hy
  rw [hd'] at e'; cases e'
  exact ⟨g2, Pres.refl, hr, .str _⟩
theorem it_rng (a b : Int) : ItP T (Itr a (b - a).toNat) g (PP.rng a b) := by
  refine ⟨fun i p g2 c H hp x hr => ?_, fun i g2 c H hi x hr => by simpa [Itr, PP.rng] using hi⟩
  unfold PP.rng at hp
  rw [List.getElem?_map] at hp
  obtain ⟨j, hj, rfl⟩ := Option.map_eq_some_iff.mp hp
  obtain ⟨hl, hj⟩ := List.getElem?_eq_some_iff.mp hj
  rw [List.getElem_range] at hj
  subst hj
  rw [List.length_range] at hl
  refine ⟨hl, fun y H' hy => ?_⟩
  obtain ⟨rfl, rfl⟩ := hy
  exact ⟨g2, Pres.refl, hr, .int _⟩
theorem zipV_get : ∀ {xs ys : List PV} {i : Nat} {p : PV}, (zipV xs ys)[i]? = some p → ∃ x y, xs[i]? = some x ∧ ys[i]? = some y ∧ p = .tup [x, y]
  | [], _, _, _, h => by simp [zipV] at h
  | _ :: _, [], _, _, h => by simp [zipV] at h
  | x :: xs, y :: ys, 0, p, h => by
    rw [zipV] at h
    simp at h
    exact ⟨x, y, by simp, by simp, h.symm⟩
  | x :: xs, y :: ys, i + 1, p, h => by
    rw [zipV] at h
    simpa using zipV_get (by simpa using h)
theorem zipV_len : ∀ {xs ys : List PV} {i : Nat}, (zipV xs ys).length ≤ i → xs.length ≤ i ∨ ys.length ≤ i
  | [], _, _, _ => .inl (by simp)
  | _ :: _, [], _, _ => .inr (by simp)
  | x :: xs, y :: ys, 0, h => by simp [zipV] at h
  | x :: xs, y :: ys, i + 1, h => by
    rw [zipV] at h
    have := zipV_len (xs := xs) (ys := ys) (i := i) (by simpa using h)
    simpa using this
theorem new_tup {vs : List V} {ps : List PV} (hr : HR T g c H) {a : Addr} (n : H a = none) (r : RpL T g vs ps) : ∃ g', Pres g H g' (upd H a (.tup vs)) ∧ HR T g' c (upd H a (.tup vs)) ∧ Rp T g' (.ref a) (.tup ps) := by
  obtain ⟨x, h'⟩ := hr.alloc (o := .tup vs) n
  exact ⟨_, x, h', .tup (SqT.of upd_same) (r.ext x.ext)⟩
theorem it_zipL {a b : Addr} {vs ws : List V} {ps qs : List PV} (e : SqL T.K g.F a vs) (r : RpL T g vs ps) (e' : SqL T.K g.F b ws) (r' : RpL T g ws qs) : ItP T (Itz T.K a b) g (zipV ps qs) := by
  refine ⟨fun i p g2 c H hp x hr => ?_, fun i g2 c H hi x hr => ⟨vs, ws, hr.sqL (x.sqL e), hr.sqL (x.sqL e'), by rw [r.length, r'.length]; exact zipV_len hi⟩⟩
  obtain ⟨x1, y1, hx, hy, rfl⟩ := zipV_get hp
  obtain ⟨v, hv, rv⟩ := r.get hx
  obtain ⟨w, hw, rw'⟩ := r'.get hy
  have q := hr.sqL (x.sqL e)
  have q' := hr.sqL (x.sqL e')
  refine ⟨⟨vs, ws, v, w, q, q', hv, hw⟩, fun y H' hyl => ?_⟩
  obtain ⟨Ta, x2, y2, rfl, hn, rfl, k1, k2⟩ := hyl
  exact new_tup hr hn (.cons ((r.get' hx (k1 vs q)).ext x) (.cons ((r'.get' hy (k2 ws q')).ext x) .nil))
theorem it_zipT {a b : Addr} {vs ws : List V} {ps qs : List PV} (e : SqT T.K g.F a vs) (r : RpL T g vs ps) (e' : SqT T.K g.F b ws) (r' : RpL T g ws qs) : ItP T (RZ.ItzT T.K a b) g (zipV ps qs) := by
  refine ⟨fun i p g2 c H hp x hr => ?_, fun i g2 c H hi x hr => ⟨vs, ws, hr.sqT (x.sqT e), hr.sqT (x.sqT e'), by rw [r.length, r'.length]; exact zipV_len hi⟩⟩
  obtain ⟨x1, y1, hx, hy, rfl⟩ := zipV_get hp
  obtain ⟨v, hv, rv⟩ := r.get hx
  obtain ⟨w, hw, rw'⟩ := r'.get hy
  have q := hr.sqT (x.sqT e)
  have q' := hr.sqT (x.sqT e')
  refine ⟨⟨vs, ws, v, w, q, q', hv, hw⟩, fun y H' hyl => ?_⟩
  obtain ⟨Ta, x2, y2, rfl, hn, rfl, k1, k2⟩ := hyl
  exact new_tup hr hn (.cons ((r.get' hx (k1 vs q)).ext x) (.cons ((r'.get' hy (k2 ws q')).ext x) .nil))
theorem enumV_get : ∀ {xs : List PV} {i n : Nat} {p : PV}, (enumV n xs)[i]? = some p → ∃ x, xs[i]? = some x ∧ p = .tup [.int (n + i : Nat), x]
  | [], _, _, _, h => by simp [enumV] at h
  | x :: xs, 0, n, p, h => by
    rw [enumV] at h
    simp at h
    exact ⟨x, by simp, by rw [← h]; rfl⟩
  | x :: xs, i + 1, n, p, h => by
    rw [enumV] at h
    obtain ⟨y, h1, h2⟩ := enumV_get (n := n + 1) (i := i) (xs := xs) (by simpa using h)
    exact ⟨y, by simpa using h1, by rw [h2, show n + 1 + i = n + (i + 1) by omega]⟩
theorem enumV_len : ∀ {xs : List PV} {n : Nat}, (enumV n xs).length = xs.length
  | [], _ => rfl
  | x :: xs, n => by rw [enumV, List.length_cons, List.length_cons, enumV_len]
theorem it_enum {a : Addr} {vs : List V} {ps : List PV} (e : SqL T.K g.F a vs) (r : RpL T g vs ps) : ItP T (Ite T.K a) g (enumV 0 ps) := by
  refine ⟨fun i p g2 c H hp x hr => ?_, fun i g2 c H hi x hr => ⟨vs, hr.sqL (x.sqL e), by rw [r.length]; rw [enumV_len] at hi; exact hi⟩⟩
  obtain ⟨x1, hx, rfl⟩ := enumV_get hp
  obtain ⟨v, hv, rv⟩ := r.get hx
  have q := hr.sqL (x.sqL e)
  refine ⟨⟨vs, v, q, hv⟩, fun y H' hyl => ?_⟩
  obtain ⟨Ta, x2, rfl, hn, rfl, k1⟩ := hyl
  rw [Nat.zero_add]
  exact new_tup hr hn (.cons (.int _) (.cons ((r.get' hx (k1 vs q)).ext x) .nil))
end
section
variable {X : Cx} {W : WX} {tg e a b : Expr} {ev ea eb : Ev} {pos p : Pos}
theorem pi_weak {t t' : TI} (h : L2.PI X tg e t) (w : ∀ σ H R, t' σ H R → t σ H R) : L2.PI X tg e t' := ⟨fun pins s σ H Q I q => h.run pins s σ H Q I (w σ H Q q)⟩
/-- a list, a tuple or a str -/
def iSeq (K : PySem.W.Frag) (tl : TE) : TI := fun σ H R => tl σ H fun x H1 => (∃ a, x = .ref a ∧ (∃ xs, SqL K H1 a xs) ∧ R (Itl K a) H1) ∨ (∃ a, x = .ref a ∧ (∃ xs, SqT K H1 a xs) ∧ R (Itt K a) H1) ∨ ∃ s, x = .str s ∧ R (Its s) H1
theorem pi_seq {l : Expr} {tl : TE} (hl : L2.PE X l tl) : L2.PI X tg l (iSeq X.K tl) := by
  refine ⟨fun pins s σ H R I h => ?_⟩
  refine thn (hl.run pins s σ H _ I h) fun v s1 ⟨x, H1, I1, r1, q1⟩ => ?_
  rcases q1 with ⟨a, rfl, ⟨xs, hq⟩, q⟩ | ⟨a, rfl, ⟨xs, hq⟩, q⟩ | ⟨y, rfl, q⟩
  · cases r1
    obtain ⟨its, rv, p, hz⟩ := I1.list hq
    refine wpAny_pyIter_list p.isList ?_
    refine ⟨s1.heap.objs.size, [s1.heap.objs.size], _, _, H1, rfl, I1.kept (t' := s1.toks) fun b o e => Heap.get?_push_of_some _ e, turn_list a _, ⟨_, Heap.get?_push_size _ rfl, rfl, rfl⟩, fun b hb => ?_, q⟩
    have e : b = s1.heap.objs.size := by simpa using hb
    subst e
    exact I1.fpOk (Nat.le_refl _) (I1.hok.fresh (Nat.le_refl _))
  · cases r1
    obtain ⟨its, rv, p, hz⟩ := I1.tuple hq
    refine wpAny_pyIter_tuple (show s1.heap.IsTuple a its.toArray from p) ?_
    refine ⟨s1.heap.objs.size, [s1.heap.objs.size], _, _, H1, rfl, I1.kept (t' := s1.toks) fun b o e => Heap.get?_push_of_some _ e, turn_tuple a _, ⟨_, Heap.get?_push_size _ rfl, rfl, rfl⟩, fun b hb => ?_, q⟩
    have e : b = s1.heap.objs.size := by simpa using hb
    subst e
    exact I1.fpOk (Nat.le_refl _) (I1.hok.fresh (Nat.le_refl _))
  · obtain ⟨t, rfl⟩ := r1
    cases ha : y.cps.all (· < 128)
    · exact wpAny_pyIter_wide ha (pi_one (tk := s1.toks) I1 _ (turn_str _ y t "str_iterator" (.inr rfl)) ⟨_, Heap.get?_push_size _ rfl, rfl, rfl⟩ q)
    · exact wpAny_pyIter_ascii ha (pi_one (tk := s1.toks) I1 _ (turn_str _ y t "str_ascii_iterator" (.inl rfl)) ⟨_, Heap.get?_push_size _ rfl, rfl, rfl⟩ q)
theorem xi_seq (h : XE' X W e ev) : XI X W tg e (fun env c => (ev env c).bind fun x c => seqR (asSeq x) c) := pi_weak (pi_seq h) fun σ H R q => by
  refine (tR.one (f := fun x c => seqR (asSeq x) c) q).mono fun p g1 c1 H1 ⟨h1, _, k⟩ v rv => ?_
  cases p with
  | lst ps =>
    have k := k g1 H1 Pres.refl h1
    cases rv with
    | lst e r => exact .inl ⟨_, rfl, ⟨_, h1.sqL (SqL.of e)⟩, k _ (it_list (SqL.of e) r)⟩
  | tup ps =>
    have k := k g1 H1 Pres.refl h1
    cases rv with
    | tup e r => exact .inr (.inl ⟨_, rfl, ⟨_, h1.sqT e⟩, k _ (it_tup e r)⟩)
  | str s =>
    have k := k g1 H1 Pres.refl h1
    cases rv
    exact .inr (.inr ⟨s, rfl, k _ (it_str s)⟩)
  | _ => exact k.elim
theorem xi_range1 (kr : BOk X "range") (ha : XB X W a ea) (hs : notStar a = true) : XI X W tg (.Call (.Name "range" p) [a] [] pos) (fun env c => (ea env c).bind fun x c => match x with
    | .int b => if okR b then .ok (PP.rng 0 b) c else .stuck
    | _ => .stuck) := pi_weak (pi_range1 kr.gl kr.no (pa_cons ha pa_nil (star_cons hs)) (star_cons hs)) fun σ H R q => by
  refine q.one.mono fun x g1 c1 H1 ⟨h1, _, k⟩ v cv => ?_
  cases x with
  | int n =>
    simp only at k
    split at k
    · rename_i ho
      unfold okR at ho
      have ho' := of_decide_eq_true ho
      refine ⟨n, by rw [cv.int], ho'.1, ho'.2, ?_⟩
      have z := it_rng (T := wd X) (g := g1) 0 n
      rw [show n - 0 = n by omega] at z
      exact k g1 H1 Pres.refl h1 _ z
    · exact k.elim
  | _ => exact k.elim
theorem xi_range2 (kr : BOk X "range") (ha : XB X W a ea) (hb : XB X W b eb) (hs : notStar a = true) (hs2 : notStar b = true) : XI X W tg (.Call (.Name "range" p) [a, b] [] pos) (fun env c => (ea env c).bind fun x c => (eb env c).bind fun y c => match x, y with
    | .int i, .int j => if okR i && okR j then .ok (PP.rng i j) c else .stuck
    | _, _ => .stuck) := pi_weak (pi_range2 kr.gl kr.no (pa_cons ha (pa_cons hb pa_nil (star_cons hs2)) (star_cons hs)) (by rw [star_cons hs, star_cons hs2]; rfl) (star_cons hs2)) fun σ H R q => by
  refine q.two.mono fun x g1 c1 H1 k v cv => k.mono fun y g2 c2 H2 ⟨p2, _, h2, k2⟩ w cw => ?_
  cases x with
  | int n =>
    cases y with
    | int m =>
      simp only at k2
      split at k2
      · rename_i ho
        unfold okR at ho
        simp only [Bool.and_eq_true, decide_eq_true_eq] at ho
        exact ⟨n, m, by rw [(cv.pres p2).int, cw.int], ⟨ho.1.1, ho.1.2, ho.2.1, ho.2.2⟩, k2 g2 H2 Pres.refl h2 _ (it_rng n m)⟩
      · exact k2.elim
    | _ => exact k2.elim
  | _ => exact k2.elim
theorem xi_zip {elts : List Expr} {kk : Nat} {tpos : Pos} (kr : BOk X "zip") (ha : XE' X W a ea) (hb : XE' X W b eb) (hs : notStar a = true) (hs2 : notStar b = true) : XI X W (.Tuple elts kk tpos) (.Call (.Name "zip" p) [a, b] [] pos) (fun env c => (ea env c).bind fun x c => (eb env c).bind fun y c => match x, y with
    | .lst xs, .lst ys => .ok (zipV xs ys) c
    | .tup xs, .tup ys => .ok (zipV xs ys) c
    | _, _ => .stuck) := pi_weak (RZ.pi_zipA kr.gl kr.no (pa_cons ha (pa_cons hb pa_nil (star_cons hs2)) (star_cons hs)) (star_cons hs) (star_any (by simp [hs2]))) fun σ H R q => by
  refine q.two.mono fun x g1 c1 H1 k v cv => k.mono fun y g2 c2 H2 ⟨p2, _, h2, k2⟩ w cw => ?_
  have cv := cv.ext p2.ext
  cases x with
  | lst xs =>
    cases y with
    | lst ys =>
      have k2 := k2 g2 H2 Pres.refl h2
      cases cv with
      | lst e r =>
        cases cw with
        | lst e' r' => exact ⟨_, _, _, _, rfl, .inl ⟨h2.sqL (SqL.of e), h2.sqL (SqL.of e'), k2 _ (it_zipL (SqL.of e) r (SqL.of e') r')⟩⟩
    | _ => exact k2.elim
  | tup xs =>
    cases y with
    | tup ys =>
      have k2 := k2 g2 H2 Pres.refl h2
      cases cv with
      | tup e r =>
        cases cw with
        | tup e' r' => exact ⟨_, _, _, _, rfl, .inr ⟨h2.sqT e, h2.sqT e', k2 _ (it_zipT e r e' r')⟩⟩
    | _ => exact k2.elim
  | _ => exact k2.elim
theorem xi_enum {elts : List Expr} {kk : Nat} {tpos : Pos} (kr : BOk X "enumerate") (ha : XE' X W a ea) (hs : notStar a = true) : XI X W (.Tuple elts kk tpos) (.Call (.Name "enumerate" p) [a] [] pos) (fun env c => (ea env c).bind fun x c => match x with
    | .lst xs => .ok (enumV 0 xs) c
    | _ => .stuck) := pi_weak (pi_enum kr.gl kr.no (pa_cons ha pa_nil (star_cons hs)) (star_cons hs)) fun σ H R q => by
  refine q.one.mono fun x g1 c1 H1 ⟨h1, _, k⟩ v cv => ?_
  cases x with
  | lst xs =>
    have k := k g1 H1 Pres.refl h1
    cases cv with
    | lst e r => exact ⟨_, _, rfl, h1.sqL (SqL.of e), k _ (it_enum (SqL.of e) r)⟩
  | _ => exact k.elim
end
end PP

set_option Elab.async false
set_option linter.all false
set_option maxRecDepth 100000
/-! PP11: comprehensions. -/
namespace PP
open PySem PySem.Spec PyProof.Rows L2

section
variable {T : Wd} {g g1 g2 : Gh} {H H1 H2 : Hp} {c : List PV}
/-- an object of one's own is written -/
theorem Pres.write (x : Pres g H g1 H1) {D : Addr} {o o' : HO} (n : H D = none) (e : H1 D = some o) : Pres g H g1 (upd H1 D o') := by
  refine ⟨x.ext, fun a u h nc => ?_, x.newF, x.newC, fun a u h => ?_⟩
  · have : a ≠ D := fun z => by rw [z, n] at h; cases h
    rw [upd_ne this]; exact x.keep a u h nc
  · have : a ≠ D := fun z => by rw [z, n] at h; cases h
    rw [upd_ne this]; exact x.live a u h
theorem HR.write (h : HR T g c H) {D : Addr} {o' : HO} (nf : g.F D = none) (nc : g.c ≠ some D) : HR T g c (upd H D o') := by
  refine ⟨fun a u e => ?_, h.cup0, fun a e => ?_⟩
  · have : a ≠ D := fun z => by rw [z, nf] at e; cases e
    rw [upd_ne this]; exact h.sub a u e
  · obtain ⟨f, ne0, vs, q, r⟩ := h.cup1 a e
    have : a ≠ D := fun z => nc (z ▸ e)
    exact ⟨f, ne0, vs, by rw [upd_ne this]; exact q, r⟩
end
section
variable {T : Wd} {g : Gh} {H : Hp} {B B' : Addr → Prop} {env : Env} {σ : L2.St}
theorem EnvR.imp (e : EnvR T g H B env σ) (h : ∀ a u, B a → H a = some u → B' a) : EnvR T g H B' env σ := by
  refine ⟨e.len, fun i s hs => ?_, e.inj⟩
  have q := e.at_ i s hs
  cases s with
  | no => trivial
  | val p => exact q
  | own p =>
    obtain ⟨a, h1, hb, h2, h3⟩ := q
    obtain ⟨u, hu⟩ := h3.there
    exact ⟨a, h1, h a u hb hu, h2, h3⟩
theorem OwnR.upd {a D : Addr} {o : HO} {p : PV} (h : OwnR T g H a p) (n : a ≠ D) : OwnR T g (upd H D o) a p := by
  cases p with
  | lst ps => obtain ⟨h1, vs, h2, h3⟩ := h; exact ⟨h1, vs, by rw [upd_ne n]; exact h2, h3⟩
  | dic ps => obtain ⟨h1, vs, h2, h3⟩ := h; exact ⟨h1, vs, by rw [upd_ne n]; exact h2, h3⟩
  | _ => exact h.elim
theorem EnvR.write {D : Addr} {o : HO} (e : EnvR T g H B env σ) (h : ∀ a, B a → a ≠ D) : EnvR T g (upd H D o) B env σ := by
  refine ⟨e.len, fun i s hs => ?_, e.inj⟩
  have q := e.at_ i s hs
  cases s with
  | no => trivial
  | val p => exact q
  | own p =>
    obtain ⟨a, h1, hb, h2, h3⟩ := q
    exact ⟨a, h1, hb, h2, h3.upd (h a hb)⟩
end
abbrev WF : WX := fun _ _ _ _ => False
theorem loopC_cons {f : PV → Nat → List PV → R (List PV)} {x : PV} {r : List PV} {n : Nat} {c : List PV} : loopC f (x :: r) n c = ((f x n c).calm).bind fun ys c => (loopC f r (n + ys.length) c).bind fun zs c => .ok (ys ++ zs) c := rfl
theorem R.bind_assoc {α β γ : Type} (x : R α) (f : α → List PV → R β) (k : β → List PV → R γ) : (x.bind f).bind k = x.bind fun a c => (f a c).bind k := by cases x <;> rfl
/-- the turn's block -/
def stepC (t : Tg) (vs : List Nat) (ec : Env → List PV → R Bool) (ev : Ev) (env : Env) : PV → Nat → List PV → R (List PV) := fun x n c => match bindT t x (wipeP env vs) with
  | some env1 => (ec env1 c).bind fun k c => if k then (ev env1 c).bind fun y c => guardR (decide (n < LIM)) (.ok [y] c) else .ok [] c
  | none => .stuck
theorem calm_ok {α : Type} {x : R α} {T : Wd} {mg : MG} {W : WX} {g : Gh} {H : Hp} {σ : L2.St} {β : Type} {K : β → Gh → List PV → Hp → Prop} {f : α → List PV → R β} (h : GoodR T mg W g H σ K ((x.calm).bind f)) : ∃ a c, x = .ok a c ∧ GoodR T mg W g H σ K (f a c) := by
  cases x with
  | ok a c => exact ⟨a, c, rfl, h⟩
  | exc cl arg c => exact h.elim
  | stuck => exact h.elim
theorem bind_ok_inv {α β : Type} {x : R α} {f : α → List PV → R β} {b : β} {c : List PV} (h : x.bind f = .ok b c) : ∃ a c1, x = .ok a c1 ∧ f a c1 = .ok b c := by
  cases x with
  | ok a c1 => exact ⟨a, c1, rfl, h⟩
  | exc cl arg c1 => cases h
  | stuck => cases h
theorem guardR_inv {α : Type} {b : Bool} {x : R α} {a : α} {c : List PV} (h : guardR b x = .ok a c) : b = true ∧ x = .ok a c := by
  cases b with
  | true => exact ⟨rfl, h⟩
  | false => cases h
theorem stepC_inv {t : Tg} {vs : List Nat} {ec : Env → List PV → R Bool} {ev : Ev} {env : Env} {x : PV} {n : Nat} {c c2 : List PV} {ys : List PV} (h : stepC t vs ec ev env x n c = .ok ys c2) :
    ∃ env1 k c1, bindT t x (wipeP env vs) = some env1 ∧ ec env1 c = .ok k c1 ∧ ((k = false ∧ ys = [] ∧ c2 = c1) ∨ (k = true ∧ ∃ y, ev env1 c1 = .ok y c2 ∧ ys = [y] ∧ n < LIM)) := by
  unfold stepC at h
  cases hb : bindT t x (wipeP env vs) with
  | none => rw [hb] at h; cases h
  | some env1 =>
    rw [hb] at h
    obtain ⟨k, c1, h1, h2⟩ := bind_ok_inv h
    refine ⟨env1, k, c1, rfl, h1, ?_⟩
    cases k with
    | false => cases h2; exact .inl ⟨rfl, rfl, rfl⟩
    | true =>
      simp only [if_true] at h2
      obtain ⟨y, c3, h3, h4⟩ := bind_ok_inv h2
      obtain ⟨h5, h6⟩ := guardR_inv h4
      cases h6
      exact .inr ⟨rfl, y, h3, rfl, of_decide_eq_true h5⟩
mutual
theorem bindT_len : ∀ {t : Tg} {p : PV} {env env' : Env}, bindT t p env = some env' → env'.length = env.length
  | .name i, p, env, env', h => by rw [bindT] at h; cases h; simp
  | .tup ts, .tup xs, env, env', h => by rw [bindT] at h; exact bindTs_len' h
  | .tup ts, .non, env, env', h => by simp [bindT] at h
  | .tup ts, .bl _, env, env', h => by simp [bindT] at h
  | .tup ts, .int _, env, env', h => by simp [bindT] at h
  | .tup ts, .str _, env, env', h => by simp [bindT] at h
  | .tup ts, .lst _, env, env', h => by simp [bindT] at h
  | .tup ts, .dic _, env, env', h => by simp [bindT] at h
  | .tup ts, .cup, env, env', h => by simp [bindT] at h
  | .tup ts, .scr _, env, env', h => by simp [bindT] at h
theorem bindTs_len' : ∀ {ts : List Tg} {ps : List PV} {env env' : Env}, bindTs ts ps env = some env' → env'.length = env.length
  | [], [], env, env', h => by rw [bindTs] at h; cases h; rfl
  | [], _ :: _, _, _, h => by simp [bindTs] at h
  | _ :: _, [], _, _, h => by simp [bindTs] at h
  | t :: ts, p :: ps, env, env', h => by
    rw [bindTs] at h
    cases h0 : bindT t p env with
    | none => rw [h0] at h; cases h
    | some e1 => rw [h0] at h; rw [bindTs_len' h, bindT_len h0]
end
theorem wipeP_len {env : Env} : ∀ vs : List Nat, (wipeP env vs).length = env.length
  | [] => rfl
  | v :: vs => by rw [wipeP, List.length_set, wipeP_len vs]
/-- the list that grows -/
def LS (T : Wd) (g : Gh) (H : Hp) (D : Addr) (acc : List PV) : Prop := ∃ ws, H D = some (.lst ws) ∧ RpL T g ws acc ∧ g.F D = none ∧ g.c ≠ some D
theorem LS.pres {T : Wd} {g g' : Gh} {H H' : Hp} {D : Addr} {acc : List PV} (l : LS T g H D acc) (x : Pres g H g' H') : LS T g' H' D acc := by
  obtain ⟨ws, e, r, nf, nc⟩ := l
  have nc' : g'.c ≠ some D := fun z => by
    rcases x.newC D z with w | w
    · exact nc w
    · rw [e] at w; cases w
  refine ⟨ws, x.keep D _ e nc', r.ext x.ext, ?_, nc'⟩
  cases z : g'.F D with
  | none => rfl
  | some o =>
    rcases x.newF D o z with y | y
    · rw [nf] at y; cases y
    · rw [e] at y; cases y
theorem LS.app {T : Wd} {g : Gh} {H : Hp} {D : Addr} {acc : List PV} {v : V} {y : PV} (l : LS T g H D acc) (r : Rp T g v y) : ∃ ws, H D = some (.lst ws) ∧ ws.length = acc.length ∧ LS T g (upd H D (.lst (ws ++ [v]))) D (acc ++ [y]) := by
  obtain ⟨ws, e, rw', nf, nc⟩ := l
  exact ⟨ws, e, rw'.length, ws ++ [v], upd_same, rw'.append (.one r), nf, nc⟩
theorem Pres.born {g : Gh} {H : Hp} {D : Addr} {o : HO} (nD : H D = none) : Pres g H g (upd H D o) :=
  ⟨Ext.refl, fun a u e _ => by rw [upd_ne (fun z => by rw [z, nD] at e; cases e)]; exact e, fun _ _ e => .inl e, fun _ e => .inl e, fun a u e => ⟨u, by rw [upd_ne (fun z => by rw [z, nD] at e; cases e)]; exact e⟩⟩
section
variable {X : Cx} {W : WX} {elt tg iter tg1 iter1 : Expr} {ifs ifs1 : List Expr} {scope : Scope} {own : List (Str × Nat)} {pos : Pos} {ei ei1 : EvI} {t t1 : Tg} {ec ec1 : Env → List PV → R Bool} {ev : Ev} {vs vs1 : List Nat}
/-- the meaning of one -/
def compR (ei : EvI) (t : Tg) (vs : List Nat) (ec : Env → List PV → R Bool) (ev : Ev) : Ev := fun env c => (ei env c).bind fun items c => (loopC (stepC t vs ec ev env) items 0 c).bind fun ys c => .ok (.lst ys) c
/-- what the loop's end wants -/
abbrev KL (T : Wd) (H0 : Hp) (Q : VK) : PV → Gh → List PV → Hp → Prop := fun p g' _ H' => ∀ a, H0 a = none → g'.F a = none → g'.c ≠ some a → OwnR T g' H' a p → Q (.ref a) H'
theorem tLc_read (ht : ∀ i ∈ t.vars, i ∈ vs) {σ : L2.St} {H : Hp} {Q : VK} (h : tO (wd X) X.mg W (compR ei t vs ec ev) σ H Q) :
    tLc (tI (wd X) X.mg W ei) (tG (wd X) t) (tT (wd X) X.mg WF ec) (tE (wd X) X.mg WF ev) vs σ H Q := by
  obtain ⟨g0, env, c0, B, er0, hr0, gd⟩ := h
  refine ⟨g0, env, c0, B, er0, hr0, gd.bind.mono fun items g1 c1 H1 p1 h1 k1 => ?_⟩
  intro J hJ D nD
  obtain ⟨nf1, nc1⟩ := h1.ne nD
  have er1 := er0.pres p1
  refine ⟨fun i m H => m = items.length - i ∧ i ≤ items.length ∧ ∃ g c acc, Pres g1 H1 g H ∧ HR (wd X) g c H ∧ LS (wd X) g H D acc ∧
    GoodR (wd X) X.mg W g1 H1 σ (KL (wd X) H1 Q) ((loopC (stepC t vs ec ev env) (items.drop i) acc.length c).bind fun zs c => R.ok (PV.lst (acc ++ zs)) c), ⟨items.length, by simp, Nat.zero_le _, g1, c1, [], Pres.born nD, h1.write nf1 nc1, ⟨[], upd_same, .nil, nf1, nc1⟩, ?_⟩, ?_⟩
  · have k1' : GoodR (wd X) X.mg W g1 H1 σ _ ((loopC (stepC t vs ec ev env) items 0 c1).bind fun ys c => R.ok (PV.lst ys) c) := k1
    exact k1'.mono (K' := KL (wd X) H1 Q) fun p g' c' H' _ _ q a na nf nc o => q a (p1.dead na) nf nc o
  rintro i m H ⟨rfl, hi, g, c, acc, pr, hr, ls, gd⟩
  have er := er1.pres pr
  by_cases hlt : i < items.length
  · refine .inr ?_
    have hx : items[i]? = some items[i] := List.getElem?_eq_getElem hlt
    obtain ⟨hgo, hy⟩ := hJ.item i _ g c H hx pr.ext hr
    rw [List.drop_eq_getElem_cons hlt, loopC_cons, R.bind_assoc] at gd
    obtain ⟨ys, c2, hs, gd⟩ := calm_ok gd
    rw [R.bind_assoc] at gd
    obtain ⟨env1, k, c1', hb, hc, hk⟩ := stepC_inv hs
    have gd : GoodR (wd X) X.mg W g1 H1 σ (KL (wd X) H1 Q) ((loopC (stepC t vs ec ev env) (items.drop (i + 1)) (acc ++ ys).length c2).bind fun zs c => R.ok (PV.lst ((acc ++ ys) ++ zs)) c) := by
      rw [List.length_append]
      simp only [List.append_assoc]
      exact gd
    refine ⟨hgo, fun H' => ∃ g', Pres g1 H1 g' H' ∧ HR (wd X) g' c2 H' ∧ LS (wd X) g' H' D (acc ++ ys), ?_, ?_⟩
    · rintro H' ⟨g', pq, hr', ls'⟩
      exact ⟨items.length - (i + 1), by omega, rfl, hlt, g', c2, acc ++ ys, pq, hr', ls', gd⟩
    · intro x H' hyld
      obtain ⟨g', pr', hr', rx⟩ := hy x H' hyld
      refine ⟨g', wipeP env vs, c, B, _, env1, (er.pres pr').wipe vs, hr', rx, hb, fun σ2 er2 keep => ⟨?_, ?_⟩⟩
      · rw [wipe_same (vs := vs) (σ := σ2) (τ := L2.wipe σ vs) (by rw [er2.len, bindT_len hb, ((er.pres pr').wipe vs).len]) fun i hi => keep i fun z => hi (ht i z)]
        exact wipe_same (by rw [L2.wipe_length]) fun i hi => wipe_get hi
      · refine ⟨g', env1, c, B, er2, hr', ?_⟩
        rw [hc]
        intro g3 H3 pr3 hr3
        have l3 := (ls.pres pr').pres pr3
        have er3 := er2.pres pr3
        rcases hk with ⟨rfl, rfl, rfl⟩ | ⟨rfl, y, hv, rfl, hl⟩
        · refine ⟨g3, pr.trans (pr'.trans pr3), hr3, ?_⟩
          rw [List.append_nil]; exact l3
        · refine ⟨g3, env1, c1', B, er3, hr3, ?_⟩
          rw [hv]
          intro g4 H4 pr4 hr4 v rv
          obtain ⟨ws, e4, hwl, l4⟩ := (l3.pres pr4).app rv
          obtain ⟨ws', e4', _, nf4, nc4⟩ := l3.pres pr4
          exact ⟨ws, e4, by rw [hwl, lim_eq]; exact hl, g4, (pr.trans ((pr'.trans pr3).trans pr4)).write nD e4, hr4.write nf4 nc4, l4⟩
  · have e : i = items.length := by omega
    subst e
    refine .inl ⟨hJ.stop _ g c H (Nat.le_refl _) pr.ext hr, ?_⟩
    rw [List.drop_length] at gd
    obtain ⟨ws, hD, rw', nf, nc⟩ := ls
    have gd' : GoodR (wd X) X.mg W g1 H1 σ (KL (wd X) H1 Q) (R.ok (PV.lst (acc ++ [])) c) := gd
    rw [List.append_nil] at gd'
    exact gd' g H pr hr D nD nf nc ⟨nc, ws, hD, rw'⟩
/-- the inner one: n items stand already -/
def stepC2 (t : Tg) (vs : List Nat) (ec : Env → List PV → R Bool) (ei1 : EvI) (t1 : Tg) (vs1 : List Nat) (ec1 : Env → List PV → R Bool) (ev : Ev) (env : Env) : PV → Nat → List PV → R (List PV) := fun x n c => match bindT t x (wipeP env vs) with
  | some env1 => (ec env1 c).bind fun k c => if k then (ei1 env1 c).bind fun items1 c => loopC (stepC t1 vs1 ec1 ev env1) items1 n c else .ok [] c
  | none => .stuck
theorem stepC2_inv {env : Env} {x : PV} {n : Nat} {c c2 : List PV} {ys : List PV} (h : stepC2 t vs ec ei1 t1 vs1 ec1 ev env x n c = .ok ys c2) :
    ∃ env1 k c1, bindT t x (wipeP env vs) = some env1 ∧ ec env1 c = .ok k c1 ∧ ((k = false ∧ ys = [] ∧ c2 = c1) ∨ (k = true ∧ ∃ items1 c3, ei1 env1 c1 = .ok items1 c3 ∧ loopC (stepC t1 vs1 ec1 ev env1) items1 n c3 = .ok ys c2)) := by
  unfold stepC2 at h
  cases hb : bindT t x (wipeP env vs) with
  | none => rw [hb] at h; cases h
  | some env1 =>
    rw [hb] at h
    obtain ⟨k, c1, h1, h2⟩ := bind_ok_inv h
    refine ⟨env1, k, c1, rfl, h1, ?_⟩
    cases k with
    | false => cases h2; exact .inl ⟨rfl, rfl, rfl⟩
    | true =>
      simp only [if_true] at h2
      obtain ⟨y, c3, h3, h4⟩ := bind_ok_inv h2
      exact .inr ⟨rfl, y, c3, h3, h4⟩
def compR2 (ei : EvI) (t : Tg) (vs : List Nat) (ec : Env → List PV → R Bool) (ei1 : EvI) (t1 : Tg) (vs1 : List Nat) (ec1 : Env → List PV → R Bool) (ev : Ev) : Ev := fun env c => (ei env c).bind fun items c => (loopC (stepC2 t vs ec ei1 t1 vs1 ec1 ev env) items 0 c).bind fun ys c => .ok (.lst ys) c
theorem calm_inv {α : Type} {x : R α} {a : α} {c : List PV} (h : x.calm = .ok a c) : x = .ok a c := by
  cases x with
  | ok b d => exact h
  | exc cl arg d => cases h
  | stuck => cases h
theorem tLc2_read (ht : ∀ i ∈ t.vars, i ∈ vs) (ht1 : ∀ i ∈ t1.vars, i ∈ vs1) (hv1 : ∀ i ∈ vs1, i ∈ vs) {σ : L2.St} {H : Hp} {Q : VK} (h : tO (wd X) X.mg W (compR2 ei t vs ec ei1 t1 vs1 ec1 ev) σ H Q) :
    tLc2 (tI (wd X) X.mg W ei) (tG (wd X) t) (tT (wd X) X.mg WF ec) (tI (wd X) X.mg WF ei1) (tG (wd X) t1) (tT (wd X) X.mg WF ec1) (tE (wd X) X.mg WF ev) vs vs1 σ H Q := by
  obtain ⟨g0, env, c0, B, er0, hr0, gd⟩ := h
  refine ⟨g0, env, c0, B, er0, hr0, gd.bind.mono fun items g1 c1 H1 p1 h1 k1 => ?_⟩
  intro J hJ D nD
  obtain ⟨nf1, nc1⟩ := h1.ne nD
  have er1 := (er0.pres p1).imp (B' := fun a => B a ∧ a ≠ D) fun a u hb hu => ⟨hb, fun z => by rw [z, nD] at hu; cases hu⟩
  refine ⟨fun i m H => m = items.length - i ∧ i ≤ items.length ∧ ∃ g c acc, Pres g1 H1 g H ∧ HR (wd X) g c H ∧ LS (wd X) g H D acc ∧
    GoodR (wd X) X.mg W g1 H1 σ (KL (wd X) H1 Q) ((loopC (stepC2 t vs ec ei1 t1 vs1 ec1 ev env) (items.drop i) acc.length c).bind fun zs c => R.ok (PV.lst (acc ++ zs)) c), ⟨items.length, by simp, Nat.zero_le _, g1, c1, [], Pres.born nD, h1.write nf1 nc1, ⟨[], upd_same, .nil, nf1, nc1⟩, ?_⟩, ?_⟩
  · have k1' : GoodR (wd X) X.mg W g1 H1 σ _ ((loopC (stepC2 t vs ec ei1 t1 vs1 ec1 ev env) items 0 c1).bind fun ys c => R.ok (PV.lst ys) c) := k1
    exact k1'.mono (K' := KL (wd X) H1 Q) fun p g' c' H' _ _ q a na nf nc o => q a (p1.dead na) nf nc o
  rintro i m H ⟨rfl, hi, g, c, acc, pr, hr, ls, gd⟩
  have er := er1.pres pr
  by_cases hlt : i < items.length
  · refine .inr ?_
    have hx : items[i]? = some items[i] := List.getElem?_eq_getElem hlt
    obtain ⟨hgo, hy⟩ := hJ.item i _ g c H hx pr.ext hr
    rw [List.drop_eq_getElem_cons hlt, loopC_cons, R.bind_assoc] at gd
    obtain ⟨ys, c2, hs, gd⟩ := calm_ok gd
    rw [R.bind_assoc] at gd
    obtain ⟨env1, k, c1', hb, hc, hk⟩ := stepC2_inv hs
    have gd : GoodR (wd X) X.mg W g1 H1 σ (KL (wd X) H1 Q) ((loopC (stepC2 t vs ec ei1 t1 vs1 ec1 ev env) (items.drop (i + 1)) (acc ++ ys).length c2).bind fun zs c => R.ok (PV.lst ((acc ++ ys) ++ zs)) c) := by
      rw [List.length_append]
      simp only [List.append_assoc]
      exact gd
    refine ⟨hgo, fun H' => ∃ g', Pres g1 H1 g' H' ∧ HR (wd X) g' c2 H' ∧ LS (wd X) g' H' D (acc ++ ys), ?_, ?_⟩
    · rintro H' ⟨g', pq, hr', ls'⟩
      exact ⟨items.length - (i + 1), by omega, rfl, hlt, g', c2, acc ++ ys, pq, hr', ls', gd⟩
    · intro x H' hyld
      obtain ⟨g', pr', hr', rx⟩ := hy x H' hyld
      refine ⟨g', wipeP env vs, c, _, _, env1, (er.pres pr').wipe vs, hr', rx, hb, fun σ2 er2 keep => ⟨?_, ?_⟩⟩
      · rw [wipe_same (vs := vs) (σ := σ2) (τ := L2.wipe σ vs) (by rw [er2.len, bindT_len hb, ((er.pres pr').wipe vs).len]) fun i hi => keep i fun z => hi (ht i z)]
        exact wipe_same (by rw [L2.wipe_length]) fun i hi => wipe_get hi
      · refine ⟨g', env1, c, _, er2, hr', ?_⟩
        rw [hc]
        intro g3 H3 pr3 hr3
        have l3 := (ls.pres pr').pres pr3
        have er3 := er2.pres pr3
        rcases hk with ⟨rfl, rfl, rfl⟩ | ⟨rfl, items1, c3, hi1, hl1⟩
        · refine ⟨g3, pr.trans (pr'.trans pr3), hr3, ?_⟩
          rw [List.append_nil]; exact l3
        · refine ⟨g3, env1, c1', _, er3, hr3, ?_⟩
          rw [hi1]
          intro g4 H4 pr4 hr4 J1 hJ1
          have l4 := l3.pres pr4
          have er4 := er3.pres pr4
          have prA : Pres g1 H1 g4 H4 := pr.trans ((pr'.trans pr3).trans pr4)
          -- the inner loop
          refine ⟨fun j k H => k = items1.length - j ∧ j ≤ items1.length ∧ ∃ g c acc1, Pres g1 H1 g H ∧ Ext g4 g ∧ EnvR (wd X) g H (fun a => B a ∧ a ≠ D) env1 σ2 ∧ HR (wd X) g c H ∧ LS (wd X) g H D (acc ++ acc1) ∧ ∃ zs, ys = acc1 ++ zs ∧ loopC (stepC t1 vs1 ec1 ev env1) (items1.drop j) (acc ++ acc1).length c = .ok zs c2,
            ⟨items1.length, by simp, Nat.zero_le _, g4, c3, [], prA, Ext.refl, er4, hr4, by rw [List.append_nil]; exact l4, ys, rfl, by rw [List.append_nil]; exact hl1⟩, ?_⟩
          rintro j k H ⟨rfl, hj, g, c, acc1, prB, exB, erB, hrB, lsB, zs, hz, hl⟩
          by_cases hjt : j < items1.length
          · refine .inr ?_
            have hx1 : items1[j]? = some items1[j] := List.getElem?_eq_getElem hjt
            obtain ⟨hgo1, hy1⟩ := hJ1.item j _ g c H hx1 exB hrB
            rw [List.drop_eq_getElem_cons hjt, loopC_cons] at hl
            obtain ⟨ys1, c5, hs1, hl⟩ := bind_ok_inv hl
            have hs1 := calm_inv hs1
            obtain ⟨zs1, c6, hl, hzz⟩ := bind_ok_inv hl
            cases hzz
            obtain ⟨env2, k2, c7, hb2, hc2, hk2⟩ := stepC_inv hs1
            refine ⟨hgo1, fun H' => ∃ g', Pres g1 H1 g' H' ∧ Ext g4 g' ∧ EnvR (wd X) g' H' (fun a => B a ∧ a ≠ D) env1 σ2 ∧ HR (wd X) g' c5 H' ∧ LS (wd X) g' H' D (acc ++ (acc1 ++ ys1)), ?_, ?_⟩
            · rintro H' ⟨g', pq, ex', er', hr', ls'⟩
              refine ⟨items1.length - (j + 1), by omega, rfl, hjt, g', c5, acc1 ++ ys1, pq, ex', er', hr', ls', zs1, by rw [hz, List.append_assoc], ?_⟩
              rw [← List.append_assoc, List.length_append]
              exact hl
            · intro x1 H5 hyld1
              obtain ⟨g5, pr5, hr5, rx5⟩ := hy1 x1 H5 hyld1
              refine ⟨g5, wipeP env1 vs1, c, _, _, env2, (erB.pres pr5).wipe vs1, hr5, rx5, hb2, fun σ3 er5 keep5 => ⟨?_, ?_⟩⟩
              · rw [wipe_same (vs := vs1) (σ := σ3) (τ := L2.wipe σ2 vs1) (by rw [er5.len, bindT_len hb2, ((erB.pres pr5).wipe vs1).len]) fun i hi => keep5 i fun z => hi (ht1 i z)]
                exact wipe_same (by rw [L2.wipe_length]) fun i hi => wipe_get hi
              · refine ⟨g5, env2, c, _, er5, hr5, ?_⟩
                rw [hc2]
                intro g6 H6 pr6 hr6
                have l6 := (lsB.pres pr5).pres pr6
                have er6 := er5.pres pr6
                have prE := pr5.trans pr6
                have e56 : Ext g4 g6 := ⟨fun a o h => prE.ext.F a o (exB.F a o h), fun a h => prE.ext.c a (exB.c a h)⟩
                rcases hk2 with ⟨rfl, rfl, rfl⟩ | ⟨rfl, y, hv, rfl, hlm⟩
                · refine ⟨g6, prB.trans prE, e56, erB.pres prE, hr6, ?_⟩
                  rw [List.append_nil]; exact l6
                · refine ⟨g6, env2, c7, _, er6, hr6, ?_⟩
                  rw [hv]
                  intro g7 H7 pr7 hr7 v rv
                  obtain ⟨ws, e7, hwl, l7⟩ := (l6.pres pr7).app rv
                  obtain ⟨ws', e7', _, nf7, nc7⟩ := l6.pres pr7
                  have prF := prE.trans pr7
                  refine ⟨ws, e7, by rw [hwl, lim_eq]; exact hlm, g7, (prB.trans prF).write nD e7, ⟨fun a o h => pr7.ext.F a o (e56.F a o h), fun a h => pr7.ext.c a (e56.c a h)⟩, (erB.pres prF).write fun a hb => hb.2, hr7.write nf7 nc7, by rw [← List.append_assoc]; exact l7⟩
          · have e : j = items1.length := by omega
            subst e
            refine .inl ⟨hJ1.stop _ g c H (Nat.le_refl _) exB hrB, ?_⟩
            rw [List.drop_length] at hl
            have hl' : R.ok ([] : List PV) c = R.ok zs c2 := hl
            cases hl'
            rw [List.append_nil] at hz
            subst hz
            exact ⟨g, prB, hrB, lsB⟩
  · have e : i = items.length := by omega
    subst e
    refine .inl ⟨hJ.stop _ g c H (Nat.le_refl _) pr.ext hr, ?_⟩
    rw [List.drop_length] at gd
    obtain ⟨ws, hD, rw', nf, nc⟩ := ls
    have gd' : GoodR (wd X) X.mg W g1 H1 σ (KL (wd X) H1 Q) (R.ok (PV.lst (acc ++ [])) c) := gd
    rw [List.append_nil] at gd'
    exact gd' g H pr hr D nD nf nc ⟨nc, ws, hD, rw'⟩
/-! ### the rules -/
abbrev XTs (X : Cx) (W : WX) (ifs : List Expr) (ev : Env → List PV → R Bool) : Prop := L2.PTs X ifs (tT (wd X) X.mg W ev)
theorem pts_weak {X : Cx} {ifs : List Expr} {t t' : TT} (h : L2.PTs X ifs t) (w : ∀ σ H Q, t' σ H Q → t σ H Q) : L2.PTs X ifs t' := ⟨fun pins s σ H Q I q => h.run pins s σ H Q I (w σ H Q q)⟩
theorem xts_nil {X : Cx} {W : WX} : XTs X W [] (fun _ c => .ok true c) := pts_weak pts_nil fun σ H Q h => by
  obtain ⟨g, env, c, B, er, hr, gd⟩ := h
  exact gd g H Pres.refl hr
theorem xts_one {X : Cx} {W : WX} {e : Expr} {et : Env → List PV → R Bool} (h : XT X W e et) : XTs X W [e] et := pts_one h
theorem x_comp (hc : X.calm = true) (hN : X.N.Nodup) (hi : XI X W tg iter ei) (ok : BlkOk X.N X.env.scope scope own) (ht : ∀ i ∈ t.vars, i ∈ own.map (·.2))
    (hg : ∀ (s : Shared) (H : Hp) (C : Addr) (cl : List (Str × Addr)) (fp : List Addr), L2.PG (X.blk s H scope (compEnvC scope cl C X.env) fp) tg (tG (wd X) t))
    (hts : ∀ (s : Shared) (H : Hp) (C : Addr) (cl : List (Str × Addr)) (fp : List Addr), XTs (X.blk s H scope (compEnvC scope cl C X.env) fp) WF ifs ec)
    (he : ∀ (s : Shared) (H : Hp) (C : Addr) (cl : List (Str × Addr)) (fp : List Addr), XE' (X.blk s H scope (compEnvC scope cl C X.env) fp) WF elt ev) (hs : ∀ x, foldedSetIterable iter X.env x = pure x) :
    XO X W (.ListComp elt [⟨tg, iter, ifs, 0⟩] scope pos) (compR ei t (own.map (·.2)) ec ev) :=
  pe_weak (pe_lc hc hN hi ok hg hts he hs) fun σ H Q h => tLc_read ht h
theorem x_comp2 (hc : X.calm = true) (hN : X.N.Nodup) (hi : XI X W tg iter ei) (ok : BlkOk X.N X.env.scope scope own) (ht : ∀ i ∈ t.vars, i ∈ own.map (·.2)) (ht1 : ∀ i ∈ t1.vars, i ∈ vs1) (hv1 : ∀ i ∈ vs1, i ∈ own.map (·.2))
    (hg : ∀ (s : Shared) (H : Hp) (C : Addr) (cl : List (Str × Addr)) (fp : List Addr), L2.PG (X.blk s H scope (compEnvC scope cl C X.env) fp) tg (tG (wd X) t))
    (hts : ∀ (s : Shared) (H : Hp) (C : Addr) (cl : List (Str × Addr)) (fp : List Addr), XTs (X.blk s H scope (compEnvC scope cl C X.env) fp) WF ifs ec)
    (hi1 : ∀ (s : Shared) (H : Hp) (C : Addr) (cl : List (Str × Addr)) (fp : List Addr), XI (X.blk s H scope (compEnvC scope cl C X.env) fp) WF tg1 iter1 ei1)
    (hg1 : ∀ (s : Shared) (H : Hp) (C : Addr) (cl : List (Str × Addr)) (fp : List Addr), L2.PG (X.blk s H scope (compEnvC scope cl C X.env) fp) tg1 (tG (wd X) t1))
    (hts1 : ∀ (s : Shared) (H : Hp) (C : Addr) (cl : List (Str × Addr)) (fp : List Addr), XTs (X.blk s H scope (compEnvC scope cl C X.env) fp) WF ifs1 ec1)
    (he : ∀ (s : Shared) (H : Hp) (C : Addr) (cl : List (Str × Addr)) (fp : List Addr), XE' (X.blk s H scope (compEnvC scope cl C X.env) fp) WF elt ev) (hs : ∀ x, foldedSetIterable iter X.env x = pure x) (hs1 : ∀ env x, foldedSetIterable iter1 env x = pure x) :
    XO X W (.ListComp elt [⟨tg, iter, ifs, 0⟩, ⟨tg1, iter1, ifs1, 0⟩] scope pos) (compR2 ei t (own.map (·.2)) ec ei1 t1 vs1 ec1 ev) :=
  pe_weak (pe_lc2 hc hN hi ok hv1 hg hts hi1 hg1 hts1 he hs hs1) fun σ H Q h => tLc2_read ht ht1 hv1 h
end
end PP

set_option Elab.async false
set_option linter.all false
set_option maxRecDepth 100000
/-! PP12: statements. -/
namespace PP
open PySem PySem.Spec PyProof.Rows L2

def GoodS (T : Wd) (mg : MG) (W : WX) (g0 : Gh) (H0 : Hp) (g : Gh) (D : Ends) : SR → Prop
  | .nx env c => ∀ g' H' σ', EnvR T g' H' (fun a => H0 a = none) env σ' → HR T g' c H' → Pres g0 H0 g' H' → Ext g g' → D.nx σ' H'
  | .rt v c => ∀ g' H' x, HR T g' c H' → Pres g0 H0 g' H' → Ext g g' → Rp T g' x v → D.rt x H'
  | .exc cl arg env c => ∀ g' H' σ', EnvR T g' H' (fun a => H0 a = none) env σ' → HR T g' c H' → Pres g0 H0 g' H' → Ext g g' → ∀ cls d, ExcR T mg g' H' cl arg cls d → W cls d σ' H'
  | .stuck => False
theorem Ext.trans {g g1 g2 : Gh} (x : Ext g g1) (y : Ext g1 g2) : Ext g g2 := ⟨fun a o h => y.F a o (x.F a o h), fun a h => y.c a (x.c a h)⟩
section
variable {T : Wd} {mg : MG} {W : WX} {g0 g g1 : Gh} {H0 H H1 : Hp} {D : Ends} {σ : L2.St} {env : Env} {c : List PV}
theorem GoodS.ext {x : SR} (h : GoodS T mg W g0 H0 g D x) (e : Ext g g1) : GoodS T mg W g0 H0 g1 D x := by
  cases x with
  | nx env c => exact fun g' H' σ' a b c d => h g' H' σ' a b c (e.trans d)
  | rt v c => exact fun g' H' x a b d => h g' H' x a b (e.trans d)
  | exc cl arg env c => exact fun g' H' σ' a b c d => h g' H' σ' a b c (e.trans d)
  | stuck => exact h
theorem ev_st {α : Type} {x : R α} {f : α → List PV → SR} (er : EnvR T g H (fun a => H0 a = none) env σ) (p0 : Pres g0 H0 g H) (h : GoodS T mg W g0 H0 g D (x.st env f)) :
    GoodR T mg W g H σ (fun a g1 c1 H1 => EnvR T g1 H1 (fun a => H0 a = none) env σ ∧ HR T g1 c1 H1 ∧ Pres g0 H0 g1 H1 ∧ Pres g H g1 H1 ∧ GoodS T mg W g0 H0 g1 D (f a c1)) x := by
  cases x with
  | ok a c => exact fun g1 H1 p h1 => ⟨er.pres p, h1, p0.trans p, p, GoodS.ext h p.ext⟩
  | exc cl arg c => exact fun g1 H1 p h1 cls d k => h g1 H1 σ (er.pres p) h1 (p0.trans p) p.ext cls d k
  | stuck => exact h
end
abbrev EvS := Env → List PV → SR
def tS (T : Wd) (mg : MG) (W : WX) (ev : EvS) : TS := fun D σ H => ∃ g0 H0 g env c, EnvR T g H (fun a => H0 a = none) env σ ∧ HR T g c H ∧ Pres g0 H0 g H ∧ GoodS T mg W g0 H0 g D (ev env c)
abbrev XS (X : Cx) (W : WX) (st : Stmt) (ev : EvS) : Prop := L2.PS X st (tS (wd X) X.mg W ev)
abbrev XSs (X : Cx) (W : WX) (st : List Stmt) (ev : EvS) : Prop := L2.PSs X st (tS (wd X) X.mg W ev)
section
variable {T : Wd} {mg : MG} {W : WX} {g g1 : Gh} {H H1 : Hp} {σ : L2.St} {env : Env} {B : Addr → Prop}
/-- a value just made, for a slot -/
def NewV (T : Wd) (H : Hp) (g1 : Gh) (H1 : Hp) : Slot → V → Prop
  | .no, _ => False
  | .val p, v => Rp T g1 v p
  | .own p, v => ∃ a, v = .ref a ∧ H a = none ∧ g1.F a = none ∧ OwnR T g1 H1 a p
theorem NewV.pres {s : Slot} {v : V} {g2 : Gh} {H2 : Hp} (n : NewV T H g1 H1 s v) (x : Pres g1 H1 g2 H2) : NewV T H g2 H2 s v := by
  cases s with
  | no => exact n
  | val p => exact Rp.ext x.ext n
  | own p =>
    obtain ⟨a, rfl, na, nf, o⟩ := n
    obtain ⟨u, hu⟩ := o.there
    refine ⟨a, rfl, na, ?_, o.pres x⟩
    cases z : g2.F a with
    | none => rfl
    | some o =>
      rcases x.newF a o z with y | y
      · rw [nf] at y; cases y
      · rw [hu] at y; cases y
theorem EnvR.slot {B : Addr → Prop} (er : EnvR T g H B env σ) (pr : Pres g H g1 H1) (hB : ∀ a, H a = none → B a) {i : Nat} {s : Slot} {v : V} (n : NewV T H g1 H1 s v) : EnvR T g1 H1 B (env.set i s) (σ.set i (some v)) := by
  have e1 := er.pres pr
  refine ⟨by simp [e1.len], fun j s' hs => ?_, fun j k p q a hj hk sj sk => ?_⟩
  · by_cases h : i = j
    · subst h
      obtain ⟨h1, h2⟩ := List.getElem?_eq_some_iff.mp hs
      have h1' : i < env.length := by simpa using h1
      rw [List.getElem?_set_self h1'] at hs
      cases hs
      rw [List.getElem?_set_self (by rw [e1.len]; exact h1')]
      cases s with
      | no => exact n.elim
      | val p => exact ⟨v, rfl, n⟩
      | own p =>
        obtain ⟨a, rfl, na, nf, o⟩ := n
        exact ⟨a, rfl, hB a na, nf, o⟩
    · rw [List.getElem?_set_ne h] at hs
      rw [List.getElem?_set_ne h]
      exact e1.at_ j s' hs
  · -- an old own slot's object was there before
    have old : ∀ (j : Nat) (p : PV) (b : Addr), env[j]? = some (.own p) → σ[j]? = some (some (.ref b)) → ∃ u, H b = some u := fun j p b hj sj => by
      obtain ⟨b', e', _, _, o⟩ := er.at_ j _ hj
      rw [sj] at e'; cases e'
      exact o.there
    have new : i < env.length → ∀ p, s = .own p → σ.set i (some v) = σ.set i (some v) → ∃ a, v = .ref a ∧ H a = none := fun _ p hp _ => by
      subst hp
      obtain ⟨a, rfl, na, _, _⟩ := n
      exact ⟨a, rfl, na⟩
    by_cases h : i = j
    · subst h
      obtain ⟨h1, _⟩ := List.getElem?_eq_some_iff.mp hj
      have h1' : i < env.length := by simpa using h1
      rw [List.getElem?_set_self h1'] at hj
      rw [List.getElem?_set_self (by rw [e1.len]; exact h1')] at sj
      cases hj
      obtain ⟨a', rfl, na⟩ := new h1' _ rfl rfl
      cases sj
      by_cases h' : i = k
      · exact h'
      · rw [List.getElem?_set_ne h'] at hk sk
        obtain ⟨u, hu⟩ := old k q a hk sk
        rw [na] at hu; cases hu
    · rw [List.getElem?_set_ne h] at hj sj
      by_cases h' : i = k
      · subst h'
        obtain ⟨h1, _⟩ := List.getElem?_eq_some_iff.mp hk
        have h1' : i < env.length := by simpa using h1
        rw [List.getElem?_set_self h1'] at hk
        rw [List.getElem?_set_self (by rw [e1.len]; exact h1')] at sk
        cases hk
        obtain ⟨a', rfl, na⟩ := new h1' _ rfl rfl
        cases sk
        obtain ⟨u, hu⟩ := old j p a hj sj
        rw [na] at hu; cases hu
      · rw [List.getElem?_set_ne h'] at hk sk
        exact e1.inj j k p q a hj hk sj sk
end
/-- an expression for a slot -/
def tSl (T : Wd) (mg : MG) (W : WX) (o : Bool) (ev : Ev) : TE := fun σ H Q => tR T mg W (fun env c => slotR o (ev env c)) (fun s g1 _ H1 => ∀ v, NewV T H g1 H1 s v → Q v H1) σ H
abbrev XSl (X : Cx) (W : WX) (o : Bool) (e : Expr) (ev : Ev) : Prop := L2.PE X e (tSl (wd X) X.mg W o ev)
section
variable {X : Cx} {W : WX} {e a b : Expr} {ev ea eb : Ev} {pos p p2 : Pos} {tg iter : Expr} {t : Tg}
theorem tSl_val {σ : L2.St} {H : Hp} {Q : VK} (h : tSl (wd X) X.mg W false ev σ H Q) : tE (wd X) X.mg W ev σ H Q := by
  obtain ⟨g, env, c, B, er, hr, gd⟩ := h
  refine ⟨g, env, c, B, er, hr, ?_⟩
  unfold slotR at gd
  exact gd.bind.mono fun p g1 c1 H1 _ h1 k v rv => k g1 H1 Pres.refl h1 v rv
theorem tSl_own {σ : L2.St} {H : Hp} {Q : VK} (h : tSl (wd X) X.mg W true ev σ H Q) : tO (wd X) X.mg W (ownG ev) σ H Q := by
  obtain ⟨g, env, c, B, er, hr, gd⟩ := h
  refine ⟨g, env, c, B, er, hr, ?_⟩
  have gd : GoodR (wd X) X.mg W g H σ (fun s g1 _ H1 => ∀ v, NewV (wd X) H g1 H1 s v → Q v H1) (slotR true (ev env c)) := gd
  unfold ownG
  unfold slotR at gd
  cases hx : ev env c with
  | ok p c1 =>
    rw [hx] at gd
    simp only [R.bind_ok, if_true] at gd ⊢
    cases hp : ownO (some p) with
    | none => rw [hp] at gd; exact gd.elim
    | some q =>
      rw [hp] at gd
      exact fun g1 H1 pr h1 a na nf nc o => gd g1 H1 pr h1 _ ⟨a, rfl, na, nf, o⟩
  | exc cl arg c1 => rw [hx] at gd; exact gd
  | stuck => rw [hx] at gd; exact gd
theorem xsl_val (h : XE' X W e ev) : XSl X W false e ev := pe_weak h fun σ H Q q => tSl_val q
theorem xsl_own (h : XO X W e (ownG ev)) : XSl X W true e ev := pe_weak h fun σ H Q q => tSl_own q
/-- name = e -/
theorem ps_weak {st : Stmt} {t t' : TS} (h : L2.PS X st t) (w : ∀ D σ H, t' D σ H → t D σ H) : L2.PS X st t' := ⟨fun pins s σ H D I q => h.run pins s σ H D I (w D σ H q)⟩
theorem pss_weak {st : List Stmt} {t t' : TS} (h : L2.PSs X st t) (w : ∀ D σ H, t' D σ H → t D σ H) : L2.PSs X st t' := ⟨fun pins s σ H D I q => h.run pins s σ H D I (w D σ H q)⟩
theorem xs_set {st : Stmt} {i : Nat} {o : Bool} {te : TE} (h : L2.PS X st (tAsg te (gName i))) (hw : ∀ σ H Q, tSl (wd X) X.mg W o ev σ H Q → te σ H Q) : XS X W st (fun env c => (slotR o (ev env c)).st env fun s c => .nx (env.set i s) c) :=
  ps_weak h fun D σ H ⟨g0, H0, g, env, c, er, hr, p0, gd⟩ => hw σ H _ ⟨g, env, c, _, er, hr, (ev_st er p0 gd).mono fun s g1 c1 H1 _ _ ⟨er1, h1, p1, pr, k⟩ v nv => k g1 H1 _ (er.slot pr (fun a => p0.dead) nv) h1 p1 Ext.refl⟩
theorem SR_asg {o : Option Env} {T : Wd} {mg : MG} {g0 g : Gh} {H0 : Hp} {D : Ends} {c : List PV} (h : GoodS T mg W g0 H0 g D (optS o c)) : ∃ env', o = some env' ∧ GoodS T mg W g0 H0 g D (.nx env' c) := by
  cases o with
  | some env' => exact ⟨env', rfl, h⟩
  | none => exact h.elim
theorem xs_asg (he : XE' X W e ev) (hg : L2.PG X tg (tG (wd X) t)) (hs : swapsWithSole [tg] e pos.line X.env = pure false) (hw : swappedStores [tg] e X.env = pure none) (hn : notStar tg = true) :
    XS X W (.Assign [tg] e pos) (fun env c => (ev env c).st env fun v c => optS (bindT t v env) c) :=
  ps_weak (ps_asg he hg hs hw (by rw [assignEach_cons hn]; rfl)) fun D σ H ⟨g0, H0, g, env, c, er, hr, p0, gd⟩ => ⟨g, env, c, _, er, hr, (ev_st er p0 gd).mono fun v g1 c1 H1 _ _ ⟨er1, h1, p1, pr, k⟩ x rx => by
    obtain ⟨env', hb, k⟩ := SR_asg k
    exact ⟨g1, env, c1, _, v, env', er1, h1, rx, hb, fun σ' er' _ => k g1 H1 σ' er' h1 p1 Ext.refl⟩⟩
theorem xs_par {i j : Nat} {x y : Str} {px py pt : Pos} {kt k2 pt2} {oi oj : Bool} (hc : X.calm = true) (hN : X.N.Nodup) (hi : X.N[i]? = some x) (hj : X.N[j]? = some y) (hij : i ≠ j)
    (hx : X.env.scope.names.lookup x = some .local) (hy : X.env.scope.names.lookup y = some .local) (ha : XSl X W oi a ea) (hb : XSl X W oj b eb) (na : notStar a = true) (nb : notStar b = true)
    (hw : swappedStores [.Tuple [.Name x px, .Name y py] kt pt] (.Tuple [a, b] k2 pt2) X.env = pure (some [x, y])) :
    XS X W (.Assign [.Tuple [.Name x px, .Name y py] kt pt] (.Tuple [a, b] k2 pt2) pos) (fun env c => (slotR oi (ea env c)).st env fun s c => (slotR oj (eb env c)).st env fun t c => .nx ((env.set i s).set j t) c) :=
  ps_weak (ps_par hc hN hi hj hij hx hy (pa_cons ha (pa_cons hb pa_nil (star_cons nb)) (star_cons na)) hw rfl) fun D σ H ⟨g0, H0, g, env, c, er, hr, p0, gd⟩ => by
    refine ⟨g, env, c, _, er, hr, (ev_st er p0 gd).mono fun s g1 c1 H1 _ _ ⟨er1, h1, p1, pr, k⟩ v nv => ?_⟩
    refine ⟨g1, env, c1, _, er1, h1, (ev_st er1 p1 k).mono fun t g2 c2 H2 _ _ ⟨er2, h2, p2, pr2, k2⟩ w nw => ?_⟩
    refine ⟨v, w, rfl, ?_⟩
    have e1 := er.slot (i := i) pr (fun a => p0.dead) nv
    exact k2 g2 H2 _ (e1.slot pr2 (fun a => p1.dead) nw) h2 p2 Ext.refl
theorem xs_ret (h : XE' X W e ev) : XS X W (.Return (some e) pos) (fun env c => (ev env c).st env fun v c => .rt v c) :=
  ps_weak (ps_ret h) fun D σ H ⟨g0, H0, g, env, c, er, hr, p0, gd⟩ => ⟨g, env, c, _, er, hr, (ev_st er p0 gd).mono fun v g1 c1 H1 _ _ ⟨er1, h1, p1, pr, k⟩ x rx => k g1 H1 x h1 p1 Ext.refl rx⟩
theorem xs_exp (h : XE' X W e ev) (hs : swapsWith e none pos.line X.env = pure false) : XS X W (.Expr e pos) (fun env c => (ev env c).st env fun _ c => .nx env c) :=
  ps_weak (ps_expr h hs) fun D σ H ⟨g0, H0, g, env, c, er, hr, p0, gd⟩ => ⟨g, env, c, _, er, hr, (ev_st er p0 gd).mono fun v g1 c1 H1 _ _ ⟨er1, h1, p1, pr, k⟩ x rx => k g1 H1 σ er1 h1 p1 Ext.refl⟩
theorem xs_bad {st : Stmt} : XS X W st (fun _ _ => .stuck) := ⟨fun pins s σ H D I ⟨g0, H0, g, env, c, er, hr, p0, gd⟩ => gd.elim⟩
theorem xss_bad {st : List Stmt} : XSs X W st (fun _ _ => .stuck) := ⟨fun pins s σ H D I ⟨g0, H0, g, env, c, er, hr, p0, gd⟩ => gd.elim⟩
theorem xss_nil : XSs X W [] (fun env c => .nx env c) := pss_weak pss_nil fun D σ H ⟨g0, H0, g, env, c, er, hr, p0, gd⟩ => gd g H σ er hr p0 Ext.refl
theorem GoodS.seq {T : Wd} {mg : MG} {g0 g : Gh} {H0 : Hp} {D : Ends} {x : SR} {f : EvS} (h : GoodS T mg W g0 H0 g D (x.bind f)) : GoodS T mg W g0 H0 g { D with nx := fun σ H => tS T mg W f D σ H } x := by
  cases x with
  | nx env c => exact fun g' H' σ' er hr p e => ⟨g0, H0, g', env, c, er, hr, p, GoodS.ext h e⟩
  | rt v c => exact h
  | exc cl arg env c => exact h
  | stuck => exact h
theorem xss_cons {st : Stmt} {rest : List Stmt} {es er : EvS} (h1 : XS X W st es) (h2 : XSs X W rest er) : XSs X W (st :: rest) (fun env c => (es env c).bind fun env c => er env c) :=
  pss_weak (pss_cons h1 h2) fun D σ H ⟨g0, H0, g, env, c, e, hr, p0, gd⟩ => ⟨g0, H0, g, env, c, e, hr, p0, gd.seq⟩
theorem xs_if {cnd : Expr} {sa sb : List Stmt} {et : Env → List PV → R Bool} {es1 es2 : EvS} (hc : XT X W cnd et) (ha : XSs X W sa es1) (hb : XSs X W sb es2) :
    XS X W (.If cnd sa sb pos) (fun env c => (et env c).st env fun k c => if k then es1 env c else es2 env c) :=
  ps_weak (ps_if hc ha hb) fun D σ H ⟨g0, H0, g, env, c, er, hr, p0, gd⟩ => ⟨g, env, c, _, er, hr, (ev_st er p0 gd).mono fun b g1 c1 H1 _ _ ⟨er1, h1, p1, pr, k⟩ => by
    cases b with
    | true => exact ⟨g0, H0, g1, env, c1, er1, h1, p1, k⟩
    | false => exact ⟨g0, H0, g1, env, c1, er1, h1, p1, k⟩⟩
/-! ### loops -/
theorem xs_for {sb : List Stmt} {ei : EvI} {es : EvS} (hp : PassesOwn (model X.prog X.w) X.A X.env X.xe) (hc : X.calm = true) (hi : XI X W tg iter ei) (hg : L2.PG X tg (tG (wd X) t)) (hb : XSs X W sb es) (hs : ∀ x, foldedSetIterable iter X.env x = pure x) :
    XS X W (.For tg iter sb [] pos) (fun env c => (ei env c).st env fun items c => forL (fun x env c => match bindT t x env with
      | some env1 => es env1 c
      | none => .stuck) items env c) :=
  ps_weak (ps_for hp hc hi hg hb hs) fun D σ H ⟨g0, H0, g, env, c, er, hr, p0, gd⟩ => ⟨g, env, c, _, er, hr, (ev_st er p0 gd).mono fun items g1 c1 H1 _ _ ⟨er1, h1, p1, pr, k⟩ J hJ => by
    refine ⟨fun i m σ H => m = items.length - i ∧ i ≤ items.length ∧ ∃ g env c, EnvR (wd X) g H (fun a => H0 a = none) env σ ∧ HR (wd X) g c H ∧ Pres g0 H0 g H ∧ Ext g1 g ∧ GoodS (wd X) X.mg W g0 H0 g D (forL (fun x env c => match bindT t x env with
      | some env1 => es env1 c
      | none => .stuck) (items.drop i) env c), ⟨items.length, by simp, Nat.zero_le _, g1, env, c1, er1, h1, p1, Ext.refl, k⟩, ?_⟩
    rintro i m σ H ⟨rfl, hle, g, env, c, er, hr, p0, ex, gd⟩
    by_cases hlt : i < items.length
    · refine .inr ?_
      have hx : items[i]? = some items[i] := List.getElem?_eq_getElem hlt
      obtain ⟨hgo, hy⟩ := hJ.item i _ g c H hx ex hr
      rw [List.drop_eq_getElem_cons hlt, forL] at gd
      cases hb : bindT t items[i] env with
      | none => simp only [hb, SR.bind] at gd; exact gd.elim
      | some env1 =>
        simp only [hb] at gd
        refine ⟨hgo, fun σ H => ∃ g env c, EnvR (wd X) g H (fun a => H0 a = none) env σ ∧ HR (wd X) g c H ∧ Pres g0 H0 g H ∧ Ext g1 g ∧ GoodS (wd X) X.mg W g0 H0 g D (forL (fun x env c => match bindT t x env with
          | some env1 => es env1 c
          | none => .stuck) (items.drop (i + 1)) env c), fun σ' H' h => ⟨items.length - (i + 1), by omega, rfl, hlt, h⟩, fun x H' hyl => ?_⟩
        obtain ⟨g', pr', hr', rx⟩ := hy x H' hyl
        refine ⟨g', env, c, _, _, env1, er.pres pr', hr', rx, hb, fun σ2 er2 _ => ?_⟩
        refine ⟨g0, H0, g', env1, c, er2, hr', p0.trans pr', ?_⟩
        have gd2 := GoodS.ext gd pr'.ext
        cases hx : es env1 c with
        | nx env2 c2 =>
          rw [hx] at gd2
          exact fun g3 H3 σ3 er3 hr3 p3 e3 => ⟨g3, env2, c2, er3, hr3, p3, (ex.trans pr'.ext).trans e3, GoodS.ext gd2 e3⟩
        | rt v c2 => rw [hx] at gd2; exact gd2
        | exc cl arg env2 c2 => rw [hx] at gd2; exact gd2
        | stuck => rw [hx] at gd2; exact gd2
    · have e : i = items.length := by omega
      subst e
      refine .inl ⟨hJ.stop _ g c H (Nat.le_refl _) ex hr, ?_⟩
      rw [List.drop_length] at gd
      exact gd g H σ er hr p0 Ext.refl⟩
theorem xs_while {cnd : Expr} {sb : List Stmt} {et : Env → List PV → R Bool} {es : EvS} {N : Nat} (hp : PassesOwn (model X.prog X.w) X.A X.env X.xe) (hc : XT X W cnd et) (hb : XSs X W sb es) :
    XS X W (.While cnd sb [] pos) (fun env c => whileN et es N env c) :=
  ps_weak (ps_while hp hc hb) fun D σ H ⟨g0, H0, g, env, c, er, hr, p0, gd⟩ => by
    refine ⟨fun m σ H => ∃ g env c, EnvR (wd X) g H (fun a => H0 a = none) env σ ∧ HR (wd X) g c H ∧ Pres g0 H0 g H ∧ GoodS (wd X) X.mg W g0 H0 g D (whileN et es m env c), ⟨N, g, env, c, er, hr, p0, gd⟩, ?_⟩
    rintro m σ H ⟨g, env, c, er, hr, p0, gd⟩
    cases m with
    | zero => exact gd.elim
    | succ m =>
      rw [whileN] at gd
      refine ⟨g, env, c, _, er, hr, (ev_st er p0 gd).mono fun b g1 c1 H1 _ _ ⟨er1, h1, p1, pr, k⟩ => ?_⟩
      cases b with
      | false => exact k g1 H1 σ er1 h1 p1 Ext.refl
      | true =>
        simp only [if_true] at k ⊢
        refine ⟨fun σ H => ∃ g env c, EnvR (wd X) g H (fun a => H0 a = none) env σ ∧ HR (wd X) g c H ∧ Pres g0 H0 g H ∧ GoodS (wd X) X.mg W g0 H0 g D (whileN et es m env c), fun σ' H' h => ⟨m, by omega, h⟩, g0, H0, g1, env, c1, er1, h1, p1, ?_⟩
        cases hx : es env c1 with
        | nx env2 c2 =>
          rw [hx] at k
          exact fun g3 H3 σ3 er3 hr3 p3 e3 => ⟨g3, env2, c2, er3, hr3, p3, GoodS.ext k e3⟩
        | rt v c2 => rw [hx] at k; exact k
        | exc cl arg env2 c2 => rw [hx] at k; exact k
        | stuck => rw [hx] at k; exact k
end
end PP

set_option Elab.async false
set_option linter.all false
set_option maxRecDepth 100000
/-! PP13: objects of one's own. -/
namespace PP
open PySem PySem.Spec PyProof.Rows L2

section
variable {T : Wd} {g g1 : Gh} {H H1 : Hp} {σ : L2.St} {env : Env} {B : Addr → Prop} {c : List PV}
/-- an own slot is frozen -/
theorem EnvR.frz1 (er : EnvR T g H B env σ) (hr : HR T g c H) {i : Nat} {p : PV} (hi : env[i]? = some (.own p)) : ∃ a u, B a ∧ g.F a = none ∧ H a = some u ∧ HR T (g.put a u) c H ∧ EnvR T (g.put a u) H B (env.set i (.val p)) σ := by
  obtain ⟨a, hs, hb, nf, o⟩ := er.at_ i _ hi
  obtain ⟨u, hu, rp⟩ := o.rp nf
  have hlt : i < env.length := (List.getElem?_eq_some_iff.mp hi).1
  refine ⟨a, u, hb, nf, hu, hr.freeze hu nf o.nc, by simp [er.len], fun j s hj => ?_, fun j k q r b hj hk sj sk => ?_⟩
  · by_cases h : i = j
    · subst h
      rw [List.getElem?_set_self hlt] at hj
      cases hj
      exact ⟨_, hs, rp⟩
    · rw [List.getElem?_set_ne h] at hj
      have q := er.at_ j s hj
      cases s with
      | no => trivial
      | val p => obtain ⟨v, h1, h2⟩ := q; exact ⟨v, h1, h2.ext (Ext.put nf)⟩
      | own q' =>
        obtain ⟨b, h1, hb', h2, h3⟩ := q
        have ne : b ≠ a := fun z => h (er.inj i j p q' a hi hj hs (z ▸ h1))
        refine ⟨b, h1, hb', ?_, ?_⟩
        · show upd g.F a u b = none
          rw [upd_ne ne]; exact h2
        · cases q' with
          | lst ps => obtain ⟨h4, vs, h5, h6⟩ := h3; exact ⟨h4, vs, h5, h6.ext (Ext.put nf)⟩
          | dic ps => obtain ⟨h4, vs, h5, h6⟩ := h3; exact ⟨h4, vs, h5, h6.ext (Ext.put nf)⟩
          | _ => exact h3.elim
  · by_cases h : i = j
    · subst h; rw [List.getElem?_set_self hlt] at hj; cases hj
    · by_cases h' : i = k
      · subst h'; rw [List.getElem?_set_self hlt] at hk; cases hk
      · rw [List.getElem?_set_ne h] at hj
        rw [List.getElem?_set_ne h'] at hk
        exact er.inj j k q r b hj hk sj sk
/-- an own list is changed -/
theorem EnvR.mut (er : EnvR T g H B env σ) {i : Nat} {ps qs : List PV} (hi : env[i]? = some (.own (.lst ps))) : ∃ a vs, σ[i]? = some (some (.ref a)) ∧ B a ∧ g.F a = none ∧ g.c ≠ some a ∧ H a = some (.lst vs) ∧ RpL T g vs ps ∧
    ∀ ws, RpL T g ws qs → EnvR T g (upd H a (.lst ws)) B (env.set i (.own (.lst qs))) σ := by
  obtain ⟨a, hs, hb, nf, nc, vs, hv, rv⟩ := er.at_ i _ hi
  have hlt : i < env.length := (List.getElem?_eq_some_iff.mp hi).1
  refine ⟨a, vs, hs, hb, nf, nc, hv, rv, fun ws rws => ⟨by simp [er.len], fun j s hj => ?_, fun j k q r b hj hk sj sk => ?_⟩⟩
  · by_cases h : i = j
    · subst h
      rw [List.getElem?_set_self hlt] at hj
      cases hj
      exact ⟨a, hs, hb, nf, nc, ws, upd_same, rws⟩
    · rw [List.getElem?_set_ne h] at hj
      have q := er.at_ j s hj
      cases s with
      | no => trivial
      | val p => exact q
      | own q' =>
        obtain ⟨b, h1, hb', h2, h3⟩ := q
        exact ⟨b, h1, hb', h2, h3.upd fun z => h (er.inj i j _ q' a hi hj hs (z ▸ h1))⟩
  · have own : ∀ (j : Nat) (q : PV), (List.set env i (Slot.own (PV.lst qs)))[j]? = some (Slot.own q) → ∃ q', env[j]? = some (Slot.own q') := fun j q hj => by
      by_cases h : i = j
      · subst h; exact ⟨_, hi⟩
      · rw [List.getElem?_set_ne h] at hj; exact ⟨_, hj⟩
    obtain ⟨q', hj'⟩ := own j q hj
    obtain ⟨r', hk'⟩ := own k r hk
    exact er.inj j k q' r' b hj' hk' sj sk
end
section
variable {X : Cx} {W : WX} {e a b : Expr} {ev ea eb : Ev} {pos p p2 apos cpos : Pos} {tg iter : Expr} {t : Tg} {es : EvS}
theorem frz_tS (es : EvS) : ∀ (is : List Nat) {D : Ends} {σ : L2.St} {H : Hp}, tS (wd X) X.mg W (fun env c => es (frzP env is) c) D σ H → tS (wd X) X.mg W es D σ H
  | [], _, _, _, h => h
  | i :: is, D, σ, H, h => by
    refine frz_tS es is ?_
    obtain ⟨g0, H0, g, env, c, er, hr, p0, gd⟩ := h
    cases hi : env[i]? with
    | none => simp only [frzP, hi] at gd; exact ⟨g0, H0, g, env, c, er, hr, p0, gd⟩
    | some s =>
      cases s with
      | no => simp only [frzP, hi] at gd; exact ⟨g0, H0, g, env, c, er, hr, p0, gd⟩
      | val p => simp only [frzP, hi] at gd; exact ⟨g0, H0, g, env, c, er, hr, p0, gd⟩
      | own p =>
        simp only [frzP, hi] at gd
        obtain ⟨a, u, hb, nf, hu, hr', er'⟩ := er.frz1 hr hi
        exact ⟨g0, H0, g.put a u, _, c, er', hr', p0.freeze nf hb, GoodS.ext gd (Ext.put nf)⟩
theorem xss_frz {st : List Stmt} (is : List Nat) (h : XSs X W st es) : XSs X W st (fun env c => es (frzP env is) c) := pss_weak h fun D σ H q => frz_tS es is q
theorem xss_frz' {st : List Stmt} (is : List Nat) (h : XSs X W st es) : XSs X W st (fun env c => (SR.nx (frzP env is) c).bind fun env c => es env c) := xss_frz is h
/-! ### x.append(e) -/
def appR (i : Nat) (ev : Ev) : EvS := fun env c => match env[i]? with
    | some (.own (.lst xs)) => (ev env c).st env fun v c => if xs.length < LIM then .nx (env.set i (.own (.lst (xs ++ [v])))) c else .stuck
    | _ => .stuck
theorem own_inv {o : Option Slot} {f : List PV → SR} {T : Wd} {mg : MG} {g0 g : Gh} {H0 : Hp} {D : Ends} (h : GoodS T mg W g0 H0 g D (match o with
    | some (.own (.lst xs)) => f xs
    | _ => .stuck)) : ∃ xs, o = some (.own (.lst xs)) ∧ GoodS T mg W g0 H0 g D (f xs) := by
  split at h
  · exact ⟨_, rfl, h⟩
  · exact h.elim
theorem xs_app {i : Nat} {x : Str} (hx : L2.PE X (.Name x p) (tVar i)) (he : XE' X W e ev) (hs : notStar e = true) (hline : (apos.endLine == cpos.line) = true) :
    XS X W (.Expr (.Call (.Attribute (.Name x p) "append" apos) [e] [] cpos) pos) (appR i ev) := by
  refine ps_weak (ps_expr (pe_bm PySem.F.plainAttrs_list PySem.F.slot_list_append PySem.F.type_list_append mt_append hx (pa_cons he pa_nil (star_cons hs)) rfl (by rw [star_cons hs]; rfl) hline (star_cons hs) rfl) rfl) fun D σ H ⟨g0, H0, g, env, c, er, hr, p0, gd⟩ => ?_
  unfold appR at gd
  obtain ⟨xs, hi, gd⟩ := own_inv gd
  obtain ⟨a, vs, hsl, ha, nf, nc, hv, rv, _⟩ := er.mut (qs := xs) hi
  refine ⟨.ref a, hsl, .inl ⟨rfl, vs, SqL.of hv⟩, g, env, c, _, er, hr, (ev_st er p0 gd).mono fun v g1 c1 H1 _ _ ⟨er1, h1, p1, pr, k⟩ w rw' => ?_⟩
  split at k
  · rename_i hl
    obtain ⟨a', vs', hsl', ha', nf', nc', hv', rv', er2⟩ := er1.mut (qs := xs ++ [v]) hi
    rw [hsl] at hsl'; cases hsl'
    exact ⟨a, vs', w, rfl, rfl, hv', by rw [rv'.length, lim_eq]; exact hl, k g1 _ σ (er2 _ (rv'.append (.one rw'))) (h1.write nf' nc') (p1.write ha' hv') Ext.refl⟩
  · exact k.elim
/-! ### x = y.pop(..) -/
def popR0 (t : Tg) (i : Nat) : EvS := fun env c => match env[i]? with
    | some (.own (.lst xs)) => (match popAt xs (-1) with
      | some (x, r) => optS (bindT t x (env.set i (.own (.lst r)))) c
      | none => .stuck)
    | _ => .stuck
theorem popAt_inv {xs : List PV} {n : Int} {x : PV} {r : List PV} (h : popAt xs n = some (x, r)) : ∃ j, ixN xs.length n = some j ∧ xs[j]? = some x ∧ r = xs.eraseIdx j ∧ xs.length ≤ LIM := by
  unfold popAt at h
  split at h
  · cases h
  · rename_i hl
    cases hj : ixP xs.length n with
    | none => rw [hj] at h; cases h
    | some j =>
      rw [hj] at h
      obtain ⟨y, hy, e⟩ := Option.map_eq_some_iff.mp (show (xs[j]?.map fun x => (x, xs.eraseIdx j)) = some (x, r) from h)
      cases e
      exact ⟨j, hj, hy, rfl, by omega⟩
theorem xs_pop0 {i : Nat} {x : Str} (hx : L2.PE X (.Name x p) (tVar i)) (hg : L2.PG X tg (tG (wd X) t)) (hn : notStar tg = true) (hline : (apos.endLine == cpos.line) = true)
    (hs : swapsWithSole [tg] (.Call (.Attribute (.Name x p) "pop" apos) [] [] cpos) pos.line X.env = pure false) (hw : swappedStores [tg] (.Call (.Attribute (.Name x p) "pop" apos) [] [] cpos) X.env = pure none) :
    XS X W (.Assign [tg] (.Call (.Attribute (.Name x p) "pop" apos) [] [] cpos) pos) (popR0 t i) := by
  refine ps_weak (ps_asg (pe_bm0 PySem.F.plainAttrs_list PySem.F.slot_list_pop PySem.F.type_list_pop mt_pop hx rfl hline) hg hs hw (by rw [assignEach_cons hn]; rfl)) fun D σ H ⟨g0, H0, g, env, c, er, hr, p0, gd⟩ => ?_
  unfold popR0 at gd
  obtain ⟨xs, hi, gd⟩ := own_inv gd
  cases hp : popAt xs (-1) with
  | none => rw [hp] at gd; exact gd.elim
  | some q =>
    obtain ⟨y, r⟩ := q
    rw [hp] at gd
    obtain ⟨j, hj, hy, rfl, hl⟩ := popAt_inv hp
    have hj' : j = xs.length - 1 ∧ 0 < xs.length := by
      unfold ixN at hj
      rw [if_neg (by omega)] at hj
      split at hj
      · cases hj; omega
      · cases hj
    obtain ⟨rfl, hpos⟩ := hj'
    obtain ⟨a, vs, hsl, ha, nf, nc, hv, rv, er2⟩ := er.mut (qs := xs.eraseIdx (xs.length - 1)) hi
    obtain ⟨env', hb, gd⟩ := SR_asg gd
    obtain ⟨w, hw', rw'⟩ := rv.get hy
    have hlen := rv.length
    refine ⟨.ref a, hsl, .inl ⟨rfl, vs, SqL.of hv⟩, a, vs, w, rfl, rfl, hv, by rw [hlen]; exact hw', ?_⟩
    have e1 : vs.dropLast = vs.eraseIdx (xs.length - 1) := by rw [← hlen, PyProof.Rows.Copied.eraseIdx_last]
    rw [e1]
    refine ⟨g, _, c, _, _, env', er2 _ (rv.erase _), hr.write nf nc, rw', hb, fun σ' er' _ => gd g _ σ' er' (hr.write nf nc) (p0.write ha hv) Ext.refl⟩
def popR1 (t : Tg) (i : Nat) (ev : Ev) : EvS := fun env c => match env[i]? with
    | some (.own (.lst xs)) => (ev env c).st env fun v c => (match v with
      | .int n => (match popAt xs n with
        | some (x, r) => optS (bindT t x (env.set i (.own (.lst r)))) c
        | none => .stuck)
      | _ => .stuck)
    | _ => .stuck
theorem xs_pop1 {i : Nat} {x : Str} (hx : L2.PE X (.Name x p) (tVar i)) (he : XE' X W e ev) (hse : notStar e = true) (hg : L2.PG X tg (tG (wd X) t)) (hn : notStar tg = true) (hline : (apos.endLine == cpos.line) = true)
    (hs : swapsWithSole [tg] (.Call (.Attribute (.Name x p) "pop" apos) [e] [] cpos) pos.line X.env = pure false) (hw : swappedStores [tg] (.Call (.Attribute (.Name x p) "pop" apos) [e] [] cpos) X.env = pure none) :
    XS X W (.Assign [tg] (.Call (.Attribute (.Name x p) "pop" apos) [e] [] cpos) pos) (popR1 t i ev) := by
  refine ps_weak (ps_asg (pe_bm PySem.F.plainAttrs_list PySem.F.slot_list_pop PySem.F.type_list_pop mt_popAt hx (pa_cons he pa_nil (star_cons hse)) rfl (by rw [star_cons hse]; rfl) hline (star_cons hse) rfl) hg hs hw (by rw [assignEach_cons hn]; rfl)) fun D σ H ⟨g0, H0, g, env, c, er, hr, p0, gd⟩ => ?_
  unfold popR1 at gd
  obtain ⟨xs, hi, gd⟩ := own_inv gd
  obtain ⟨a, vs, hsl, ha, nf, nc, hv, rv, _⟩ := er.mut (qs := xs) hi
  refine ⟨.ref a, hsl, .inl ⟨rfl, vs, SqL.of hv⟩, g, env, c, _, er, hr, (ev_st er p0 gd).mono fun v g1 c1 H1 _ _ ⟨er1, h1, p1, pr, k⟩ w rw' => ?_⟩
  cases v with
  | int n =>
    cases rw'
    simp only at k
    cases hp : popAt xs n with
    | none => rw [hp] at k; exact k.elim
    | some q =>
      obtain ⟨y, r⟩ := q
      rw [hp] at k
      obtain ⟨j, hj, hy, rfl, hl⟩ := popAt_inv hp
      obtain ⟨a', vs', hsl', ha', nf', nc', hv', rv', er2⟩ := er1.mut (qs := xs.eraseIdx j) hi
      rw [hsl] at hsl'; cases hsl'
      obtain ⟨env', hb, k⟩ := SR_asg k
      obtain ⟨w, hw', rw'⟩ := rv'.get hy
      have hlen := rv'.length
      obtain ⟨h5, h6, h7, h8⟩ := ixN_seq hj
      have hL : LIM = 16777216 := rfl
      refine ⟨a, vs', n, j, w, rfl, rfl, hv', by omega, by omega, by rw [hlen]; exact h5, hw', ?_⟩
      exact ⟨g1, _, c1, _, _, env', er2 _ (rv'.erase _), h1.write nf' nc', rw', hb, fun σ' er' _ => k g1 _ σ' er' (h1.write nf' nc') (p1.write ha' hv') Ext.refl⟩
  | _ => exact k.elim
/-! ### cup[j] = e -/
def setCR (i j : Nat) (ev : Ev) : EvS := fun env c => (ev env c).st env fun v c => match env[i]? with
    | some (.val .cup) => if j < c.length then .nx env (c.set j v) else .stuck
    | _ => .stuck
theorem xs_setC {i j jj : Nat} {x : Str} {cp : Pos} (hx : L2.PE X (.Name x p) (tVar i)) (he : XE' X W e ev) (hs : swapsWithSole [.Subscript (.Name x p) (.Constant (.int j) jj cp) p2] e pos.line X.env = pure false) :
    XS X W (.Assign [.Subscript (.Name x p) (.Constant (.int j) jj cp) p2] e pos) (setCR i j ev) := by
  refine ps_weak (ps_asg he (pg_sub hx pe_int set_list) hs rfl rfl) fun D σ H ⟨g0, H0, g, env, c, er, hr, p0, gd⟩ => ?_
  unfold setCR at gd
  refine ⟨g, env, c, _, er, hr, (ev_st er p0 gd).mono fun v g1 c1 H1 _ _ ⟨er1, h1, p1, pr, k⟩ w rw' => ?_⟩
  split at k
  · rename_i hi
    split at k
    · rename_i hl
      obtain ⟨y, hy, ry⟩ := er1.at_ i _ hi
      cases ry with
      | @cup a hc =>
        obtain ⟨nf, ne0, vs, hv, rv⟩ := h1.cup1 a hc
        refine ⟨.ref a, hy, a, vs, j, j, rfl, rfl, hv, ?_, ?_⟩
        · unfold ixN
          rw [if_pos (by omega), if_pos (by rw [rv.length]; omega)]; rfl
        · have hr2 : HR (wd X) g1 (c1.set j v) (upd H1 a (.lst (vs.set j w))) := by
            refine ⟨fun b u q => ?_, (fun q => by rw [hc] at q; cases q), fun b q => ?_⟩
            · have : b ≠ a := fun z => by rw [z, nf] at q; cases q
              rw [upd_ne this]; exact h1.sub b u q
            · rw [hc] at q; cases q
              exact ⟨nf, by intro z; apply ne0; apply List.eq_nil_of_length_eq_zero; have := congrArg List.length z; simpa using this, _, upd_same, rv.set rw' j⟩
          refine k g1 _ σ ?_ hr2 ?_ Ext.refl
          · refine ⟨er1.len, fun m s hm => ?_, er1.inj⟩
            have q := er1.at_ m s hm
            cases s with
            | no => trivial
            | val p => exact q
            | own q' =>
              obtain ⟨b, q1, q2, q3, q4⟩ := q
              exact ⟨b, q1, q2, q3, q4.upd fun z => q4.nc (by rw [z]; exact hc)⟩
          · refine ⟨p1.ext, fun b o q n => ?_, p1.newF, p1.newC, fun b o q => ?_⟩
            · rw [upd_ne (fun z => n (by rw [z]; exact hc))]; exact p1.keep b o q n
            · by_cases z : b = a
              · subst z; exact ⟨_, upd_same⟩
              · rw [upd_ne z]; exact p1.live b o q
    · exact k.elim
  · exact k.elim
/-! ### return [..]: the cup -/
def retCupR (ex : Env → List PV → R (List PV)) : EvS := fun env c => (ex env c).st env fun xs c => match c with
    | [] => if xs.isEmpty then .stuck else if xs.length ≤ LIM then .rt .cup xs else .stuck
    | _ => .stuck
theorem xs_retCup {el : List Expr} {ex : Env → List PV → R (List PV)} (h : XA X W el ex) : XS X W (.Return (some (.List el p)) pos) (retCupR ex) := by
  refine ps_weak (ps_ret (pe_lst h)) fun D σ H ⟨g0, H0, g, env, c, er, hr, p0, gd⟩ => ?_
  unfold retCupR at gd
  refine ⟨g, env, c, _, er, hr, (ev_st er p0 gd).mono fun xs g1 c1 H1 _ _ ⟨er1, h1, p1, pr, k⟩ vs rv => ?_⟩
  cases c1 with
  | nil =>
    simp only at k
    split at k
    · exact k.elim
    · rename_i hne
      split at k
      · rename_i hl
        refine ⟨by rw [rv.length, lim_eq]; exact hl, fun a na => ?_⟩
        have gc : g1.c = none := by
          cases q : g1.c with
          | none => rfl
          | some b => obtain ⟨_, z, _⟩ := h1.cup1 b q; exact absurd rfl z
        have n1 := h1.ne na
        have ex1 : Ext g1 ⟨g1.F, some a⟩ := ⟨fun _ _ q => q, fun b q => by rw [gc] at q; cases q⟩
        refine k ⟨g1.F, some a⟩ _ (.ref a) ?_ ?_ ex1 (.cup rfl)
        · refine ⟨fun b u q => ?_, (fun q => nomatch q), fun b q => ?_⟩
          · have : b ≠ a := fun z => by
              have q' : g1.F b = some u := q
              rw [z, n1.1] at q'; cases q'
            rw [upd_ne this]; exact h1.sub b u q
          · cases q
            exact ⟨n1.1, by intro z; apply hne; rw [z]; rfl, vs, upd_same, RpL.ext ex1 rv⟩
        · refine ⟨p1.ext.trans ex1, fun b o q n => ?_, p1.newF, fun b q => ?_, fun b o q => ?_⟩
          · have : b ≠ a := fun z => n (z ▸ rfl)
            rw [upd_ne this]
            exact p1.keep b o q (by rw [gc]; exact fun z => nomatch z)
          · cases q; exact .inr (p1.dead na)
          · by_cases z : b = a
            · subst z; exact ⟨_, upd_same⟩
            · rw [upd_ne z]; exact p1.live b o q
      · exact k.elim
  | cons _ _ => exact k.elim
end
end PP

set_option Elab.async false
set_option linter.all false
set_option maxRecDepth 100000
/-! PP13b: y = y + (x.pop(e),). -/
namespace PP
open PySem PySem.Spec PyProof.Rows L2

section
variable {X : Cx} {W : WX} {e : Expr} {ev : Ev} {pos p p2 apos cpos tpos opos pk1 pk2 : Pos}
def addPopR (k i : Nat) (ev : Ev) : EvS := fun env c => match env[k]?, env[i]? with
    | some (.val (.tup ys)), some (.own (.lst xs)) => (ev env c).st env fun v c => (match v with
      | .int n => (match popAt xs n with
        | some (x, r) => if ys.length < LIM then .nx ((env.set i (.own (.lst r))).set k (.val (.tup (ys ++ [x])))) c else .stuck
        | none => .stuck)
      | _ => .stuck)
    | _, _ => .stuck
theorem addPop_inv {o q : Option Slot} {f : List PV → List PV → SR} {T : Wd} {mg : MG} {g0 g : Gh} {H0 : Hp} {D : Ends} (h : GoodS T mg W g0 H0 g D (match o, q with
    | some (.val (.tup ys)), some (.own (.lst xs)) => f ys xs
    | _, _ => .stuck)) : ∃ ys xs, o = some (.val (.tup ys)) ∧ q = some (.own (.lst xs)) ∧ GoodS T mg W g0 H0 g D (f ys xs) := by
  split at h
  · exact ⟨_, _, rfl, rfl, h⟩
  · exact h.elim
theorem xs_addPop {k i : Nat} {x y : Str} {tk : Nat} (hy : L2.PE X (.Name y pk2) (tVar k)) (hx : L2.PE X (.Name x p) (tVar i)) (he : XE' X W e ev) (hse : notStar e = true) (hg : L2.PG X (.Name y pk1) (tG (wd X) (.name k))) (hline : (apos.endLine == cpos.line) = true)
    (hs : swapsWithSole [.Name y pk1] (.BinOp (.Name y pk2) .Add (.Tuple [.Call (.Attribute (.Name x p) "pop" apos) [e] [] cpos] tk tpos) opos) pos.line X.env = pure false) :
    XS X W (.Assign [.Name y pk1] (.BinOp (.Name y pk2) .Add (.Tuple [.Call (.Attribute (.Name x p) "pop" apos) [e] [] cpos] tk tpos) opos) pos) (addPopR k i ev) := by
  refine ps_weak (ps_asg (pe_op (op_bin .add) hy (pe_tup (pa_cons (pe_bm PySem.F.plainAttrs_list PySem.F.slot_list_pop PySem.F.type_list_pop mt_popAt hx (pa_cons he pa_nil (star_cons hse)) rfl (by rw [star_cons hse]; rfl) hline (star_cons hse) rfl) pa_nil rfl))) hg hs rfl (by rw [assignEach_cons rfl]; rfl)) fun D σ H ⟨g0, H0, g, env, c, er, hr, p0, gd⟩ => ?_
  unfold addPopR at gd
  obtain ⟨ys, xs, hk, hi, gd⟩ := addPop_inv gd
  obtain ⟨a, vs, hsl, ha, nf, nc, hv, rv, _⟩ := er.mut (qs := xs) hi
  obtain ⟨yv, hyv, ryv⟩ := er.at_ k _ hk
  refine ⟨yv, hyv, .ref a, hsl, .inl ⟨rfl, vs, SqL.of hv⟩, g, env, c, _, er, hr, (ev_st er p0 gd).mono fun v g1 c1 H1 _ _ ⟨er1, h1, p1, pr, kk⟩ w rw' => ?_⟩
  cases v with
  | int n =>
    cases rw'
    simp only at kk
    cases hp : popAt xs n with
    | none => rw [hp] at kk; exact kk.elim
    | some q =>
      obtain ⟨z, r⟩ := q
      rw [hp] at kk
      obtain ⟨j, hj, hz, rfl, hl⟩ := popAt_inv hp
      obtain ⟨a', vs', hsl', ha', nf', nc', hv', rv', er2⟩ := er1.mut (qs := xs.eraseIdx j) hi
      rw [hsl] at hsl'; cases hsl'
      simp only at kk
      split at kk
      · rename_i hlt
        obtain ⟨w, hw', rw'⟩ := rv'.get hz
        have hlen := rv'.length
        obtain ⟨h5, h6, h7, h8⟩ := ixN_seq hj
        have hL : LIM = 16777216 := rfl
        refine ⟨a, vs', n, j, w, rfl, rfl, hv', by omega, by omega, by rw [hlen]; exact h5, hw', ?_⟩
        refine ⟨(by show 1 ≤ sizeLine; decide), fun q hq => ?_⟩
        have er3 := er2 _ (rv'.erase j)
        have hr3 := h1.write (o' := .lst (vs'.eraseIdx j)) nf' nc'
        have p3 := p1.write (o' := .lst (vs'.eraseIdx j)) ha' hv'
        obtain ⟨pr4, hr4⟩ := hr3.alloc (o := .tup [w]) hq
        refine ⟨_, c1, .tup ys, .tup [z], .tup (ys ++ [z]), hr4, .inl ((ryv.ext pr.ext).ext pr4.ext), .inl (.tup (SqT.of (by unfold Gh.put; exact upd_same)) (.cons (rw'.ext pr4.ext) .nil)), ?_, fun g' H' v pr5 hr5 rp5 => ?_⟩
        · show mkTup _ = _
          unfold mkTup
          rw [if_pos (by rw [List.length_append]; exact hlt)]
        · refine ⟨g', _, c1, _, _, _, (er3.pres pr4).pres pr5, hr5, rp5, rfl, fun σ' er' _ => kk g' _ σ' er' hr5 ((p3.trans pr4).trans pr5) (pr4.ext.trans pr5.ext)⟩
      · exact kk.elim
  | _ => exact kk.elim
end
end PP

set_option Elab.async false
set_option linter.all false
set_option maxRecDepth 100000
/-! PP13c: {k: v, ..}[x], the keys texts. -/
namespace PP
open PySem PySem.Spec PyProof.Rows L2

def kvS (ks : List Str) (ws : List V) : List (Key × V) := (ks.zip ws).map fun q => (Sum.inr q.1, q.2)
theorem kvS_val {T : Wd} {g : Gh} {s : Str} {z : PV} : ∀ {ks : List Str} {ws : List V} {ps : List PV}, RpL T g ws ps → pickV ks ps s = some z → ∃ w, valV (kvS ks ws) (Sum.inr s) = some w ∧ Rp T g w z
  | [], ws, ps, r, h => by cases ps <;> simp [pickV] at h
  | k :: ks, _, _, .nil, h => by simp [pickV] at h
  | k :: ks, _, _, @RpL.cons _ _ v p vs ps rv r, h => by
    rw [pickV] at h
    split at h
    · rename_i e
      cases h
      subst e
      exact ⟨v, valV_pos (p := (Sum.inr k, v)) rfl, rv⟩
    · rename_i e
      obtain ⟨w, h1, h2⟩ := kvS_val r h
      exact ⟨w, (valV_neg (p := (Sum.inr k, v)) (fun z => e (Sum.inr.inj z))).trans h1, h2⟩
theorem merge_nd : ∀ (kvs acc : List (Key × V)), ((acc ++ kvs).map (·.1)).Nodup → mergeK acc kvs = acc ++ kvs
  | [], acc, _ => by show acc = acc ++ []; rw [List.append_nil]
  | p :: r, acc, h => by
    show mergeK (putK acc p.1 p.2) r = _
    have e : putK acc p.1 p.2 = acc ++ [p] := by
      unfold putK
      rw [if_neg]
      intro z
      obtain ⟨q, hq, e⟩ := List.any_eq_true.mp z
      rw [List.map_append, List.nodup_append] at h
      exact h.2.2 q.1 (List.mem_map.mpr ⟨q, hq, rfl⟩) p.1 (List.mem_map.mpr ⟨p, List.mem_cons_self .., rfl⟩) (of_decide_eq_true e)
    rw [e, merge_nd r (acc ++ [p]) (by rw [List.append_assoc]; exact h), List.append_assoc]; rfl
theorem kvS_keys : ∀ {ks : List Str} {ws : List V}, ks.length = ws.length → (kvS ks ws).map (·.1) = ks.map Sum.inr
  | [], _, _ => rfl
  | k :: ks, [], h => by cases h
  | k :: ks, w :: ws, h => by
    have q := kvS_keys (ks := ks) (ws := ws) (by simpa using h)
    show Sum.inr k :: (kvS ks ws).map (·.1) = _
    rw [q]; rfl
theorem kvS_merge {ks : List Str} {ws : List V} (h : ks.length = ws.length) (nd : ks.Nodup) : mergeK [] (kvS ks ws) = kvS ks ws := by
  rw [merge_nd _ [] ?_]; rfl
  show ((kvS ks ws).map (·.1)).Nodup
  rw [kvS_keys h, List.Nodup, List.pairwise_map]
  exact List.Pairwise.imp (fun {a b} hab z => hab (Sum.inr.inj z)) nd
/-- the pairs of a display -/
def XPr (X : Cx) (W : WX) (pos : Pos) (keys : List (Option Expr)) (vals : List Expr) (ks : List Str) (ex : Env → List PV → R (List PV)) : Prop :=
  ∃ trs, L2.PPs X pos keys vals trs ∧ ∀ (K : List PV → Gh → List PV → Hp → Prop) (σ : L2.St) (H : Hp) (Q : List (V × V) → Hp → Prop), tR (wd X) X.mg W ex K σ H →
    (∀ ps g' c' H' ws, K ps g' c' H' → RpL (wd X) g' ws ps → ws.length = ks.length → Q ((ks.zip ws).map fun q => (V.str q.1, q.2)) H') → tPairs trs σ H Q
section
variable {X : Cx} {W : WX} {pos dp p : Pos} {e v : Expr} {ev : Ev} {keys : List (Option Expr)} {vals : List Expr} {ks : List Str} {k : Str} {ex : Env → List PV → R (List PV)}
theorem xpr_nil : XPr X W pos [] [] [] (fun _ c => .ok [] c) := ⟨[], pps_nil, fun K σ H Q ⟨g, env, c, B, er, hr, gd⟩ h => h [] g c H [] (gd g H Pres.refl hr) .nil rfl⟩
theorem xpr_cons {j : Nat} (hv : XE' X W v ev) (hr : XPr X W pos keys vals ks ex) : XPr X W pos (some (.Constant (.str k) j p) :: keys) (v :: vals) (k :: ks) (fun env c => (ev env c).bind fun x c => (ex env c).bind fun xs c => .ok (x :: xs) c) := by
  obtain ⟨trs, h1, h2⟩ := hr
  refine ⟨_, pps_cons pe_str hv h1, fun K σ H Q h hq => ?_⟩
  refine h.two.mono fun x g1 c1 H1 k1 w rw' => ?_
  refine h2 _ σ H1 _ k1 fun ps g2 c2 H2 ws ⟨p2, _, h2', k2⟩ rws hl => ?_
  exact hq (x :: ps) g2 c2 H2 (w :: ws) (k2 g2 H2 Pres.refl h2') (.cons (rw'.ext p2.ext) rws) (by rw [List.length_cons, List.length_cons, hl])
theorem x_pick (hu : X.A.units + 1 < cLine) (hp : XPr X W dp keys vals ks ex) (he : XE' X W e ev) (hs : NoSl e) (hall : keys.all (·.isSome) = true) (hl : keys.length = vals.length) (h0 : keys ≠ []) (h15 : keys.length ≤ 15) (hk : ks.length ≤ 15) (nd : ks.Nodup) :
    XE' X W (.Subscript (.Dict keys vals dp) e pos) (fun env c => (ex env c).bind fun vs c => (ev env c).bind fun x c => pickR ks vs x c) := by
  obtain ⟨trs, h1, h2⟩ := hp
  refine pe_weak (pe_dget hu (pe_disp h1 hall hl h0 h15) he hs) fun σ H Q h => ?_
  intro a ha
  obtain ⟨g, env, c, B, er, hr, gd⟩ := h
  simp only at gd
  obtain ⟨pr, hr1⟩ := hr.fresh (o := .dK []) ha
  obtain ⟨na, nc⟩ := hr.ne ha
  have noC : ∀ {g1 : Gh} {H1 : Hp} {o : HO}, Pres g (upd H a o) g1 H1 → g1.c ≠ some a := fun x z => by
    rcases x.newC a z with q | q
    · exact nc q
    · rw [upd_same] at q; cases q
  have noF : ∀ {g1 : Gh} {H1 : Hp} {o : HO}, Pres g (upd H a o) g1 H1 → g1.F a = none := fun {g1 H1 o} x => by
    cases q : g1.F a with
    | none => rfl
    | some u =>
      rcases x.newF a u q with q | q
      · rw [na] at q; cases q
      · rw [upd_same] at q; cases q
  refine h2 (fun ps g1 c1 H1 => ex env c = .ok ps c1 ∧ Pres g (upd H a (.dK [])) g1 H1 ∧ HR (wd X) g1 c1 H1) σ _ _ ⟨g, env, c, B, er.pres pr, hr1, ?_⟩ fun ps g1 c1 H1 ws ⟨hx, p1, h1'⟩ rws hlen => ?_
  · cases hx : ex env c with
    | ok ps c1 => exact fun g1 H1 p1 h1 => ⟨rfl, p1, h1⟩
    | exc cl arg c1 => rw [hx] at gd; exact GoodR.pres (x := (R.exc cl arg c1 : R PV)) gd pr
    | stuck => rw [hx] at gd; exact gd.elim
  · rw [hx] at gd
    have hH1 : H1 a = some (.dK []) := p1.keep a _ upd_same (noC p1)
    refine ⟨hH1, kvS ks ws, ?_, ?_, ?_⟩
    · unfold kvS
      rw [List.map_map]; rfl
    · unfold kvS
      rw [List.length_map, List.length_zip, hlen]; omega
    · rw [kvS_merge hlen.symm nd]
      have p2 : Pres g H g1 (upd H1 a (.dK (kvS ks ws))) := (pr.trans p1).write ha hH1
      have h2' := h1'.write (o' := .dK (kvS ks ws)) (noF p1) (noC p1)
      have gd2 : GoodR (wd X) X.mg W g1 (upd H1 a (.dK (kvS ks ws))) σ _ ((ev env c1).bind fun x c => pickR ks ps x c) := GoodR.pres (x := (ev env c1).bind fun x c => pickR ks ps x c) gd p2
      refine ⟨g1, env, c1, B, er.pres p2, h2', gd2.bind.mono fun x g2 c2 H2 p3 h3 k3 w rw' => ?_⟩
      cases x with
      | str s =>
        cases rw'
        obtain ⟨z, ez, kz⟩ := GoodR.pure k3
        obtain ⟨w2, e2, r2⟩ := kvS_val rws ez
        have nc2 : g2.c ≠ some a := fun z => by
          rcases p3.newC a z with q | q
          · exact noC p1 q
          · rw [upd_same] at q; cases q
        have hH2 : H2 a = some (.dK (kvS ks ws)) := p3.keep a _ upd_same nc2
        have dg := DGet.k (k := Sum.inr s) hH2
        rw [e2] at dg
        exact ⟨a, w2, rfl, dg, kz g2 H2 Pres.refl h3 w2 (r2.ext p3.ext)⟩
      | _ => exact k3.elim
end
end PP

set_option Elab.async false
set_option linter.all false
set_option maxRecDepth 100000
/-! PP13d: l.count(x), l.index(x). -/
namespace PP
open PySem PySem.Spec PyProof.Rows L2

def rCountD (K : PySem.W.Frag) : V → List V → Hp → VK → Prop := fun x xs H Q => ∃ (a : Addr) (y : V) (d : PyData) (ds : List PyData), x = V.ref a ∧ xs = [y] ∧ Dp K H (V.ref a) (.list ds) ∧ Dp K H y d ∧
  SeqAt.shaped (.list ds) = true ∧ SeqAt.shaped d = true ∧ Q (.int ((ds.countP fun z => PyData.eqv z d : Nat) : Int)) H
theorem mt_countD {X : Cx} (hu : X.A.units + 65 < cLine) : MtR X "list.count" (rCountD X.K) := by
  intro pins s σ H x xs v us Q I rx rxs h
  obtain ⟨a, y, d, ds, rfl, rfl, hl, hy, sl, sd, q⟩ := h
  cases rx
  cases rxs with
  | cons ry rt =>
    rename_i uy ut
    cases rt
    obtain ⟨bs, r1⟩ := Dp.reads I d y uy hy ry
    have hxs : PyData.canLayAll0 ds = true := SeqAt.canLay_of_shaped sl
    have hroom : X.A.units + 1 + min (PyData.depthAll ds) d.depth < cLine := room_in_shaped sd hu
    cases hl with
    | lst hs ha =>
      obtain ⟨its, rv, ⟨⟨cls, dd, data, sls⟩, n, ho, hc, hdn, hdt⟩, hlen⟩ := I.list hs
      simp only at hc hdt
      subst hc hdt
      obtain ⟨as, h4⟩ := Dp.readsAll I ds _ its ha rv
      have hmap : its.map (SeqAt.readOf s.heap) = ds := SeqAt.readsAll_map ds its as hxs h4
      refine call_meets PySem.F.slot_list_count ⟨_, ho, rfl⟩ PySem.F.entry_list_count (PySem.F.args_list_count_2 _ _)
        (SeqAt.list_countAt a its.toArray n dd sls uy (fun u => PyData.eqv (SeqAt.readOf s.heap u) d)) ⟨ho, SeqAt.items_eqAt (vs := its.toArray) (show ReadsAll s.heap its.toArray.toList ds as from h4) r1 hxs (SeqAt.canLay_of_shaped sd) hroom, ?_⟩
      have e : its.countP (fun u => PyData.eqv (SeqAt.readOf s.heap u) d) = ds.countP fun z => PyData.eqv z d := by
        rw [← hmap, List.countP_map]; rfl
      simp only [e]
      exact ⟨.int _, H, I.tok _, ⟨_, rfl⟩, q⟩
theorem toDs_count {x : PV} {m : Nat} (hx : small m x = true) : ∀ (n : Nat) (xs : List PV), xs.all (small n) = true → (toDs xs).countP (fun z => PyData.eqv z (toD x)) = xs.countP fun y => peq y x
  | n, [], _ => rfl
  | n, y :: ys, h => by
    rw [List.all_cons, Bool.and_eq_true] at h
    rw [toDs, List.countP_cons, List.countP_cons, toDs_count hx n ys h.2, peq_eqv y x n m h.1 hx]
theorem toDs_get : ∀ (xs : List PV) (j : Nat), (toDs xs)[j]? = xs[j]?.map toD
  | [], _ => by rw [toDs]; simp
  | x :: xs, 0 => by rw [toDs]; rfl
  | x :: xs, j + 1 => by rw [toDs, List.getElem?_cons_succ, List.getElem?_cons_succ, toDs_get xs j]
theorem idxOf_ge {x : PV} : ∀ {xs : List PV} {n k : Nat}, idxOf x xs n = some k → n ≤ k ∧ (∃ z, xs[k - n]? = some z ∧ peq z x = true) ∧ ∀ m z', m < k - n → xs[m]? = some z' → peq z' x = false
  | [], _, _, h => by cases h
  | y :: r, n, k, h => by
    rw [idxOf] at h
    split at h
    · rename_i e
      cases h
      refine ⟨Nat.le_refl _, ⟨y, by rw [Nat.sub_self]; rfl, e⟩, fun m z' hm => absurd hm (by omega)⟩
    · rename_i e
      obtain ⟨h1, ⟨z, h2, h3⟩, h4⟩ := idxOf_ge h
      have e1 : k - n = (k - (n + 1)) + 1 := by omega
      refine ⟨by omega, ⟨z, by rw [e1, List.getElem?_cons_succ]; exact h2, h3⟩, fun m z' hm hz => ?_⟩
      cases m with
      | zero =>
        rw [List.getElem?_cons_zero] at hz
        cases hz
        simpa using e
      | succ m => exact h4 m z' (by omega) (by rw [List.getElem?_cons_succ] at hz; exact hz)
section
variable {X : Cx} {W : WX} {a e : Expr} {ea ev : Ev} {apos cpos : Pos}
def mth1 (m : Mth) (ea ev : Ev) : Ev := fun env c => (ea env c).bind fun x c => guardR (recv m x) (((ev env c).bind fun x c => (R.ok [] c : R (List PV)).bind fun xs c => R.ok (x :: xs) c).bind fun xs c => pureR (mthop m x xs) c)
theorem x_count (hu : X.A.units + 70 < cLine) (ha : XB X W a ea) (he : XE' X W e ev) (hse : notStar e = true) (hb : attributeBase a "count" X.env (eval a X.env) = eval a X.env) (hline : (apos.endLine == cpos.line) = true) :
    XE' X W (.Call (.Attribute a "count" apos) [e] [] cpos) (mth1 .count ea ev) := by
  refine pe_weak (pe_bm PySem.F.plainAttrs_list PySem.F.slot_list_count PySem.F.type_list_count (mt_countD (by omega)) ha (pa_cons he pa_nil (star_cons hse)) hb (by rw [star_cons hse]; rfl) hline (star_cons hse) rfl) fun σ H Q h => ?_
  obtain ⟨g, env, c, B, er, hr, gd⟩ := h
  refine ⟨g, env, c, B, er, hr, (GoodR.bind gd).mono fun x g1 c1 H1 p1 h1 k1 v cv => ?_⟩
  cases x with
  | lst ps =>
    obtain ⟨l, vs, rfl, hl, rv⟩ := cv.lst h1
    refine ⟨.inl ⟨rfl, vs, SqL.of hl⟩, ?_⟩
    have k2 : GoodR (wd X) X.mg W g1 H1 σ (fun p g' x H' => ∀ v, Rp (wd X) g' v p → Q v H') (((ev env c1).bind fun x c => (R.ok [] c : R (List PV)).bind fun xs c => R.ok (x :: xs) c).bind fun xs c => pureR (mthop .count (.lst ps) xs) c) := k1
    rw [R.bind_assoc] at k2
    refine ⟨g1, env, c1, B, er.pres p1, h1, (GoodR.bind k2).mono fun y g2 c2 H2 p2 h2 k3 w rw' => ?_⟩
    obtain ⟨z, ez, kz⟩ := GoodR.pure (o := mthop .count (.lst ps) [y]) k3
    rw [show mthop .count (.lst ps) [y] = if (dat y && dat (.lst ps)) = true then some (.int (ps.countP fun z => peq z y)) else none from rfl] at ez
    split at ez <;> cases ez
    rename_i hd
    rw [Bool.and_eq_true] at hd
    have cv2 := cv.pres p2
    have d1 := cv2.dp h2 60 hd.2
    have d2 := rw'.dp h2 60 hd.1
    have s1 := dat_shaped hd.2
    rw [toD] at d1 s1
    refine ⟨l, w, _, _, rfl, rfl, d1, d2, s1, dat_shaped hd.1, ?_⟩
    rw [toDs_count (m := 60) hd.1 59 ps (by have := hd.2; unfold dat at this; rw [small] at this; exact this)]
    exact kz g2 H2 Pres.refl h2 _ (.int _)
  | _ => exact k1.elim
theorem x_index (hu : X.A.units + 70 < cLine) (ha : XB X W a ea) (he : XE' X W e ev) (hse : notStar e = true) (hb : attributeBase a "index" X.env (eval a X.env) = eval a X.env) (hline : (apos.endLine == cpos.line) = true) :
    XE' X W (.Call (.Attribute a "index" apos) [e] [] cpos) (mth1 .index ea ev) := by
  refine pe_weak (pe_bm PySem.F.plainAttrs_list PySem.F.slot_list_index PySem.F.type_list_index (mt_indexD (by omega)) ha (pa_cons he pa_nil (star_cons hse)) hb (by rw [star_cons hse]; rfl) hline (star_cons hse) rfl) fun σ H Q h => ?_
  obtain ⟨g, env, c, B, er, hr, gd⟩ := h
  refine ⟨g, env, c, B, er, hr, (GoodR.bind gd).mono fun x g1 c1 H1 p1 h1 k1 v cv => ?_⟩
  cases x with
  | lst ps =>
    obtain ⟨l, vs, rfl, hl, rv⟩ := cv.lst h1
    refine ⟨.inl ⟨rfl, vs, SqL.of hl⟩, ?_⟩
    have k2 : GoodR (wd X) X.mg W g1 H1 σ (fun p g' x H' => ∀ v, Rp (wd X) g' v p → Q v H') (((ev env c1).bind fun x c => (R.ok [] c : R (List PV)).bind fun xs c => R.ok (x :: xs) c).bind fun xs c => pureR (mthop .index (.lst ps) xs) c) := k1
    rw [R.bind_assoc] at k2
    refine ⟨g1, env, c1, B, er.pres p1, h1, (GoodR.bind k2).mono fun y g2 c2 H2 p2 h2 k3 w rw' => ?_⟩
    obtain ⟨z, ez, kz⟩ := GoodR.pure (o := mthop .index (.lst ps) [y]) k3
    rw [show mthop .index (.lst ps) [y] = if (dat y && dat (.lst ps)) = true then (idxOf y ps 0).map (fun (n : Nat) => PV.int (n : Int)) else none from rfl] at ez
    split at ez <;> first | (cases ez; done) | skip
    rename_i hd
    rw [Bool.and_eq_true] at hd
    obtain ⟨j, hj, rfl⟩ := Option.map_eq_some_iff.mp ez
    obtain ⟨_, ⟨q, h5, h6⟩, h7⟩ := idxOf_ge hj
    rw [Nat.sub_zero] at h5 h7
    have cv2 := cv.pres p2
    have d1 := cv2.dp h2 60 hd.2
    have d2 := rw'.dp h2 60 hd.1
    have s1 := dat_shaped hd.2
    rw [toD] at d1 s1
    have hsm : ∀ {i : Nat} {r : PV}, ps[i]? = some r → small 59 r = true := fun h => by
      have := hd.2
      unfold dat at this
      rw [small, List.all_eq_true] at this
      exact this _ (List.mem_of_getElem? h)
    refine ⟨l, w, _, _, j, toD q, rfl, rfl, d1, d2, s1, dat_shaped hd.1, by rw [toDs_get, h5]; rfl, by rw [peq_eqv q _ 59 60 (hsm h5) hd.1]; exact h6, fun m z' hm hz => ?_, kz g2 H2 Pres.refl h2 _ (.int _)⟩
    rw [toDs_get] at hz
    obtain ⟨r, hr', rfl⟩ := Option.map_eq_some_iff.mp hz
    rw [peq_eqv r _ 59 60 (hsm hr') hd.1]
    exact h7 m r hm hr'
  | _ => exact k1.elim
end
end PP

set_option Elab.async false
set_option linter.all false
set_option maxRecDepth 100000
/-! PP14: calls of defs; the static context; bodies. -/
namespace PP
open PySem PySem.Spec PyProof.Rows L2

/-- a def that may be called by its name -/
structure Cal (P : Program) (w : World) (K : PySem.W.Frag) (mg : Str → Option Value) (base : Heap) (k : Nat) (x : Str) (sp : Sp) : Prop where
  ex : ∃ (f : Addr) (fd : FuncData) (ps : List Str), FnOk P w K mg base CX0 k f fd ps sp ∧ mg x = some (.ref f) ∧ PySem.W.keepIn K (.ref f) = true ∧ Binds K fd ps []
def GoodC (T : Wd) (g : Gh) (H : Hp) (Q : VK) : R PV → Prop
  | .ok a c' => ∀ g' H' v, Pres g H g' H' → HR T g' c' H' → Rp T g' v a → Q v H'
  | _ => False
/-- what a def promises -/
def spK (T : Wd) (m : List PV → List PV → R PV) (n : Nat) : Sp := fun vs H Q _ => vs.length = n ∧ ∃ g c ps, HR T g c H ∧ RpL T g vs ps ∧ GoodC T g H Q (m ps c)
theorem finR_noexc {x : SR} {cl : Str} {a : PV} {c : List PV} : finR x ≠ .exc cl a c := by cases x <;> exact fun h => nomatch h
theorem callK_noexc {FN : Type} {P : FN → FnP FN} {k : Nat} {f : FN} {xs c : List PV} {cl : Str} {a : PV} {c' : List PV} : callK P k f xs c ≠ .exc cl a c' := by
  cases k with
  | zero => exact fun h => nomatch h
  | succ k =>
    rw [callK]
    split
    · exact finR_noexc
    · exact fun h => nomatch h
theorem callK_len {FN : Type} {P : FN → FnP FN} {k : Nat} {f : FN} {xs c : List PV} {a : PV} {c' : List PV} (h : callK P k f xs c = .ok a c') : xs.length = (P f).np := by
  cases k with
  | zero => cases h
  | succ k =>
    rw [callK] at h
    split at h
    · assumption
    · cases h
section
variable {FN : Type} {P : FN → FnP FN} {X : Cx} {W : WX} {e : Expr} {es : List Expr} {ex : Env → List PV → R (List PV)} {pos p : Pos} {x : Str} {f : FN} {k : Nat}
theorem goodC_of {W : WX} {T : Wd} {mg : MG} {g : Gh} {H : Hp} {σ : L2.St} {Q : VK} {xs c : List PV} (h : GoodR T mg W g H σ (fun p g' _ H' => ∀ v, Rp T g' v p → Q v H') (callK P k f xs c)) : xs.length = (P f).np ∧ GoodC T g H Q (callK P k f xs c) := by
  cases hx : callK P k f xs c with
  | ok a c' => rw [hx] at h; exact ⟨callK_len hx, fun g' H' v p q r => h g' H' p q v r⟩
  | exc cl a c' => exact absurd hx callK_noexc
  | stuck => rw [hx] at h; exact h.elim
theorem x_call (F : Cal X.prog X.w X.K X.mg X.base k x (spK (wd X) (callK P k f) (P f).np)) (hr : Room k X.A) (hg : Gl X x) (hdb : (x == ("__debug__" : Str)) = false) (ha : XA X W (e :: es) ex) (hs : (e :: es).all notStar = true) :
    XE' X W (.Call (.Name x p) (e :: es) [] pos) (fun env c => (ex env c).bind fun xs c => callK P k f xs c) := by
  obtain ⟨fa, fd, ps, F, hm, hk, hb⟩ := F.ex
  have hs' := hs
  rw [List.all_cons, Bool.and_eq_true] at hs'
  refine pe_weak (pe_call (E := E0) F hr hg hm hk hb .nil pass0 ha hdb (star_cons hs'.1) (star_any hs'.2)) fun σ H Q h => ?_
  refine (tR.one (f := fun xs c => callK P k f xs c) h).mono fun xs g1 c1 H1 ⟨h1, _, k1⟩ vs rv => ?_
  obtain ⟨hl, gc⟩ := goodC_of k1
  rw [List.append_nil]
  exact ⟨by rw [rv.length]; exact hl, g1, c1, xs, h1, rv, gc⟩
theorem x_call0 (F : Cal X.prog X.w X.K X.mg X.base k x (spK (wd X) (callK P k f) (P f).np)) (hr : Room k X.A) (hg : Gl X x) (hdb : (x == ("__debug__" : Str)) = false) :
    XE' X W (.Call (.Name x p) [] [] pos) (fun env c => callK P k f [] c) := by
  obtain ⟨fa, fd, ps, F, hm, hk, hb⟩ := F.ex
  refine pe_weak (pe_call0 (E := E0) F hr hg hm hk hb .nil pass0 hdb) fun σ H Q h => ?_
  obtain ⟨g, env, c, B, er, hr, gd⟩ := h
  obtain ⟨hl, gc⟩ := goodC_of gd
  exact ⟨hl, g, c, [], hr, .nil, gc⟩
end
/-- a def's promise from its body -/
theorem fn_pure {FN : Type} {P : FN → FnP FN} {prog : Program} {w : World} {K : PySem.W.Frag} {mg : MG} {base : Heap} {x qual : Str} {params : Arguments} {body : List Stmt} {scope : Scope} {fa : Addr} {fd : FuncData} {N ps : List Str} {k : Nat} {f : FN} (F : FunD K x qual params body scope [] [] fa fd) (S : FnScope N ps scope)
    (hnp : ps.length = (P f).np) (hnl : N.length = (P f).nl)
    (hbody : ∀ (cdv : Value) (A : Around) (outer : List PySem.Env) (s : Shared) (H : Hp) (E : XK), Room k (A.deeper (envOfC qual scope s.heap.objs.size fa cdv)) →
      XSs (cxOf CX0 prog w K mg base N qual scope fa cdv A outer s H E).nox WF body (fun env c => execSs (callK P k) (P f).body env c)) :
    FnOk prog w K mg base CX0 (k + 1) fa fd ps (spK ⟨prog, w, K⟩ (callK P (k + 1) f) (P f).np) := by
  refine F.ok S (fun vs H Q E h => by rw [h.1, hnp]) fun cdv A outer s H vs Q E hr h => ?_
  refine ⟨_, (hbody cdv A outer s H E hr).nox, ?_⟩
  obtain ⟨hl, g, c, qs, h1, rv, gc⟩ := h
  rw [callK] at gc
  have hql : qs.length = (P f).np := by rw [← rv.length]; exact hl
  rw [if_pos hql] at gc
  have hle : ps.length ≤ N.length := by have := congrArg List.length S.pre; rw [List.length_take] at this; omega
  refine ⟨g, H, g, startP (P f).np (P f).nl qs, c, ?_, h1, Pres.refl, ?_⟩
  · unfold startP L2.start
    refine ⟨?_, fun i s hs => ?_, fun i j p q a hi _ _ _ => ?_⟩
    · simp only [List.length_append, List.length_map, List.length_replicate]
      omega
    · rw [List.getElem?_append] at hs
      split at hs
      · rename_i hlt
        rw [List.getElem?_map] at hs
        obtain ⟨p, hp, rfl⟩ := Option.map_eq_some_iff.mp hs
        obtain ⟨v, hv, rp⟩ := rv.get hp
        have hlt2 : i < vs.length := (List.getElem?_eq_some_iff.mp hv).1
        exact ⟨v, by rw [List.getElem?_append_left (by simpa using hlt2), List.getElem?_map, hv]; rfl, rp⟩
      · have q := List.mem_of_getElem? hs
        have q2 := List.eq_of_mem_replicate q
        subst q2
        trivial
    · rw [List.getElem?_append] at hi
      split at hi
      · rw [List.getElem?_map] at hi
        obtain ⟨p, hp, e⟩ := Option.map_eq_some_iff.mp hi
        cases e
      · have q2 := List.eq_of_mem_replicate (List.mem_of_getElem? hi)
        cases q2
  · show GoodS ⟨prog, w, K⟩ mg WF g H g _ (execSs (callK P k) (P f).body (startP (P f).np (P f).nl qs) c)
    cases hx : execSs (callK P k) (P f).body (startP (P f).np (P f).nl qs) c with
    | nx env' c' => rw [hx] at gc; exact fun g' H' σ' _ a b _ => gc g' H' .non b a .non
    | rt v c' => rw [hx] at gc; exact fun g' H' x a b _ r => gc g' H' x b a r
    | exc cl a env' c' => rw [hx] at gc; exact gc.elim
    | stuck => rw [hx] at gc; exact gc.elim

/-! ### the static context -/
structure SC (FN : Type) where
  N : List Str
  names : List (Str × NameKind)
  fnc : Str → Bool
  fn : Str → Option FN
  blt : Str → Bool
  con : Str → Option PV
structure SX {FN : Type} (P : FN → FnP FN) (k : Nat) (S : SC FN) (X : Cx) : Prop where
  N : X.N = S.N
  sc : X.env.scope.names = S.names
  kind : X.env.scope.kind = .function
  fnc : ∀ x, S.fnc x = true → X.fn x = true
  nd : X.N.Nodup
  calm : X.calm = true
  room : Room k X.A
  own : PassesOwn (model X.prog X.w) X.A X.env X.xe
  fns : ∀ x f, S.fn x = some f → Cal X.prog X.w X.K X.mg X.base k x (spK (wd X) (callK P k f) (P f).np)
  blt : ∀ x, S.blt x = true → X.mg x = none
  con : ∀ x p, S.con x = some p → ∃ u v, X.mg x = some u ∧ RelV v u ∧ ∀ g, Rp (wd X) g v p
def SC.blk {FN : Type} (S : SC FN) (scope : Scope) : SC FN := { S with names := scope.names.map fun (n, k) => if (k == NameKind.free && S.names.lookup n == some .cell) then (n, NameKind.cell) else (n, k), fnc := fun x => scope.names.lookup x == some .cell }
section
variable {FN : Type} {P : FN → FnP FN} {k : Nat} {S : SC FN} {X : Cx} {x : Str} {i : Nat}
theorem SX.blk (h : SX P k S X) {scope : Scope} (hk : scope.kind = .function) (s : Shared) (H : Hp) (C : Addr) (cl : List (Str × Addr)) (fp : List Addr) : SX P k (S.blk scope) (X.blk s H scope (compEnvC scope cl C X.env) fp) where
  N := h.N
  sc := by
    show (relabel scope X.env).names = _
    unfold relabel SC.blk
    simp only
    apply List.map_congr_left
    intro y _
    obtain ⟨n, kd⟩ := y
    have e1 : X.env.kindOf n = S.names.lookup n := by unfold Env.kindOf; rw [h.sc]
    simp only [h.kind, e1]
    cases hc : (kd == NameKind.free) <;> simp
  kind := hk
  fnc := fun x hx => hx
  nd := h.nd
  calm := h.calm
  room := h.room
  own := PassesOwn.never
  fns := h.fns
  blt := h.blt
  con := h.con
def nameOk (x : Str) : Bool := !(x == ("__debug__" : Str)) && !(x == ("__classdict__" : Str)) && !decide (x = "__name__")
def SC.loc {FN : Type} (S : SC FN) (i : Nat) (x : Str) : Bool := decide (S.N[i]? = some x) && (decide (S.names.lookup x = some .local) || decide (S.names.lookup x = some .cell) || decide (S.names.lookup x = some .free)) && nameOk x
def SC.gl {FN : Type} (S : SC FN) (x : Str) : Bool := decide (S.names.lookup x = some .globalImplicit) && nameOk x
def SC.bo {FN : Type} (S : SC FN) (x : Str) : Bool := S.gl x && S.blt x
/-- a name that may be stored to -/
def SC.sto {FN : Type} (S : SC FN) (i : Nat) (x : Str) : Bool := decide (S.N[i]? = some x) && (decide (S.names.lookup x = some .local) || (decide (S.names.lookup x = some .cell) && S.fnc x))
theorem nameOk_d (h : nameOk x = true) : (x == ("__debug__" : Str)) = false ∧ (x == ("__classdict__" : Str)) = false ∧ x ≠ "__name__" := by
  unfold nameOk at h
  simp only [Bool.and_eq_true, Bool.not_eq_true', decide_eq_false_iff_not] at h
  exact ⟨h.1.1, h.1.2, h.2⟩
theorem SX.var (h : SX P k S X) {pos : Pos} (hl : S.loc i x = true) : L2.PE X (.Name x pos) (tVar i) := by
  unfold SC.loc at hl
  simp only [Bool.and_eq_true, Bool.or_eq_true, decide_eq_true_eq] at hl
  obtain ⟨⟨h1, h2⟩, h3⟩ := hl
  obtain ⟨n1, n2, _⟩ := nameOk_d h3
  refine pe_var (by rw [h.N]; exact h1) ?_ n1 n2
  unfold Vis
  rw [h.sc]
  rcases h2 with (q | q) | q
  · exact .inl q
  · exact .inr (.inl q)
  · exact .inr (.inr q)
theorem SX.gl (h : SX P k S X) (hl : S.gl x = true) : Gl X x ∧ (x == ("__debug__" : Str)) = false ∧ x ≠ "__name__" := by
  unfold SC.gl at hl
  simp only [Bool.and_eq_true, decide_eq_true_eq] at hl
  obtain ⟨n1, n2, n3⟩ := nameOk_d hl.2
  refine ⟨?_, n1, n3⟩
  unfold Gl Env.kindOf
  rw [h.sc]; exact hl.1
theorem SX.bo (h : SX P k S X) (hl : S.bo x = true) : BOk X x := by
  unfold SC.bo at hl
  rw [Bool.and_eq_true] at hl
  obtain ⟨g1, g2, g3⟩ := h.gl hl.1
  exact ⟨g1, h.blt x hl.2, g3, g2⟩
theorem SX.sto (h : SX P k S X) {pos : Pos} (hl : S.sto i x = true) : L2.PG X (.Name x pos) (tG (wd X) (.name i)) := by
  unfold SC.sto at hl
  simp only [Bool.and_eq_true, Bool.or_eq_true, decide_eq_true_eq] at hl
  obtain ⟨h1, h2⟩ := hl
  refine xg_name h.nd (by rw [h.N]; exact h1) ?_ ?_
  · unfold L2.Loc
    rw [h.sc]
    rcases h2 with q | q
    · exact .inl q
    · exact .inr q.1
  · rw [h.sc]
    rcases h2 with q | q
    · exact .inr q
    · exact .inl (h.fnc x q.2)
theorem SX.units (h : SX P k S X) : X.A.units + 70 < cLine := by have := h.room.un; omega
end
end PP

set_option Elab.async false
set_option linter.all false
set_option maxRecDepth 100000
/-! PP15: the checker of expressions: the looks at the tree. -/
namespace PP
open PySem PySem.Spec PyProof.Rows L2

def asBin : Expr → Option (Expr × Operator × Expr)
  | .BinOp a o b _ => some (a, o, b)
  | _ => none
theorem asBin_eq {z : Expr} {a : Expr} {o : Operator} {b : Expr} (h : asBin z = some (a, o, b)) : ∃ pos, z = .BinOp a o b pos := by
  cases z <;> simp [asBin] at h
  all_goals
    obtain ⟨rfl, rfl, rfl⟩ := h
    exact ⟨_, rfl⟩
def asUn : Expr → Option (UnaryOp × Expr)
  | .UnaryOp o a _ => some (o, a)
  | _ => none
theorem asUn_eq {z : Expr} {o : UnaryOp} {a : Expr} (h : asUn z = some (o, a)) : ∃ pos, z = .UnaryOp o a pos := by
  cases z <;> simp [asUn] at h
  all_goals
    obtain ⟨rfl, rfl⟩ := h
    exact ⟨_, rfl⟩
def asBool : Expr → Option (BoolOp × (List Expr))
  | .BoolOp o es _ => some (o, es)
  | _ => none
theorem asBool_eq {z : Expr} {o : BoolOp} {es : List Expr} (h : asBool z = some (o, es)) : ∃ pos, z = .BoolOp o es pos := by
  cases z <;> simp [asBool] at h
  all_goals
    obtain ⟨rfl, rfl⟩ := h
    exact ⟨_, rfl⟩
def asIf : Expr → Option (Expr × Expr × Expr)
  | .IfExp a b c _ => some (a, b, c)
  | _ => none
theorem asIf_eq {z : Expr} {a : Expr} {b : Expr} {c : Expr} (h : asIf z = some (a, b, c)) : ∃ pos, z = .IfExp a b c pos := by
  cases z <;> simp [asIf] at h
  all_goals
    obtain ⟨rfl, rfl, rfl⟩ := h
    exact ⟨_, rfl⟩
def asCmp : Expr → Option (Expr × (List CmpOp) × (List Expr))
  | .Compare a o b _ => some (a, o, b)
  | _ => none
theorem asCmp_eq {z : Expr} {a : Expr} {o : List CmpOp} {b : List Expr} (h : asCmp z = some (a, o, b)) : ∃ pos, z = .Compare a o b pos := by
  cases z <;> simp [asCmp] at h
  all_goals
    obtain ⟨rfl, rfl, rfl⟩ := h
    exact ⟨_, rfl⟩
def asTup : Expr → Option ((List Expr))
  | .Tuple es _ _ => some (es)
  | _ => none
theorem asTup_eq {z : Expr} {es : List Expr} (h : asTup z = some (es)) : ∃ kk pos, z = .Tuple es kk pos := by
  cases z <;> simp [asTup] at h
  all_goals
    subst h
    exact ⟨_, _, rfl⟩
def asLst : Expr → Option ((List Expr))
  | .List es _ => some (es)
  | _ => none
theorem asLst_eq {z : Expr} {es : List Expr} (h : asLst z = some (es)) : ∃ pos, z = .List es pos := by
  cases z <;> simp [asLst] at h
  all_goals
    subst h
    exact ⟨_, rfl⟩
def asSub : Expr → Option (Expr × Expr)
  | .Subscript a b _ => some (a, b)
  | _ => none
theorem asSub_eq {z : Expr} {a : Expr} {b : Expr} (h : asSub z = some (a, b)) : ∃ pos, z = .Subscript a b pos := by
  cases z <;> simp [asSub] at h
  all_goals
    obtain ⟨rfl, rfl⟩ := h
    exact ⟨_, rfl⟩
def asSlice : Expr → Option ((Option Expr) × (Option Expr) × (Option Expr))
  | .Slice a b c _ => some (a, b, c)
  | _ => none
theorem asSlice_eq {z : Expr} {a : Option Expr} {b : Option Expr} {c : Option Expr} (h : asSlice z = some (a, b, c)) : ∃ pos, z = .Slice a b c pos := by
  cases z <;> simp [asSlice] at h
  all_goals
    obtain ⟨rfl, rfl, rfl⟩ := h
    exact ⟨_, rfl⟩
def asName : Expr → Option (Str)
  | .Name x _ => some (x)
  | _ => none
theorem asName_eq {z : Expr} {x : Str} (h : asName z = some (x)) : ∃ pos, z = .Name x pos := by
  cases z <;> simp [asName] at h
  all_goals
    subst h
    exact ⟨_, rfl⟩
def asCon : Expr → Option (Const)
  | .Constant x _ _ => some (x)
  | _ => none
theorem asCon_eq {z : Expr} {x : Const} (h : asCon z = some (x)) : ∃ kk pos, z = .Constant x kk pos := by
  cases z <;> simp [asCon] at h
  all_goals
    subst h
    exact ⟨_, _, rfl⟩
def asCall : Expr → Option (Expr × (List Expr) × (List Keyword))
  | .Call x es kw _ => some (x, es, kw)
  | _ => none
theorem asCall_eq {z : Expr} {x : Expr} {es : List Expr} {kw : List Keyword} (h : asCall z = some (x, es, kw)) : ∃ pos, z = .Call x es kw pos := by
  cases z <;> simp [asCall] at h
  all_goals
    obtain ⟨rfl, rfl, rfl⟩ := h
    exact ⟨_, rfl⟩
def asAttr : Expr → Option (Expr × Str)
  | .Attribute a x _ => some (a, x)
  | _ => none
theorem asAttr_eq {z : Expr} {a : Expr} {x : Str} (h : asAttr z = some (a, x)) : ∃ pos, z = .Attribute a x pos := by
  cases z <;> simp [asAttr] at h
  all_goals
    obtain ⟨rfl, rfl⟩ := h
    exact ⟨_, rfl⟩
def asComp : Expr → Option (Expr × (List Comprehension) × Scope)
  | .ListComp e gs sc _ => some (e, gs, sc)
  | _ => none
theorem asComp_eq {z : Expr} {e : Expr} {gs : List Comprehension} {sc : Scope} (h : asComp z = some (e, gs, sc)) : ∃ pos, z = .ListComp e gs sc pos := by
  cases z <;> simp [asComp] at h
  all_goals
    obtain ⟨rfl, rfl, rfl⟩ := h
    exact ⟨_, rfl⟩
def asDict : Expr → Option ((List (Option Expr)) × (List Expr))
  | .Dict ks vs _ => some (ks, vs)
  | _ => none
theorem asDict_eq {z : Expr} {ks : List (Option Expr)} {vs : List Expr} (h : asDict z = some (ks, vs)) : ∃ pos, z = .Dict ks vs pos := by
  cases z <;> simp [asDict] at h
  all_goals
    obtain ⟨rfl, rfl⟩ := h
    exact ⟨_, rfl⟩
inductive Md where | vl | br | ow | ts
  deriving DecidableEq
def plainT : Expr → Bool
  | .UnaryOp .Not _ _ => false
  | .BoolOp _ _ _ => false
  | .IfExp _ _ _ _ => false
  | .Compare _ _ _ _ => false
  | _ => true
def isBO : Expr → Bool
  | .BoolOp _ _ _ => true
  | _ => false
theorem plainT_he {e : Expr} {env : PySem.Env} (h : plainT e = true) : ∀ whole, isTrue e env whole = (do let v ← whole; standAt e.pos; holding [v] (truthy v)) := by
  intro whole
  cases e <;> first | rfl | (cases h; done) | skip
  rename_i op a pos
  cases op <;> first | rfl | cases h
theorem plainT_bo {e : Expr} (h : plainT e = true) : isBO e = false := by
  cases e <;> first | rfl | cases h
def XM (X : Cx) (m : Md) (e : Expr) (ev : Ev) : Prop := match m with
  | .vl => XE' X WF e ev
  | .br => XB X WF e ev
  | .ow => XO X WF e (ownG ev)
  | .ts => XT X WF e (fun env c => truthR (ev env c)) ∧ (isBO e = true → L2.PW X e (tT (wd X) X.mg WF fun env c => truthR (ev env c)))
section
variable {X : Cx} {e a b d : Expr} {ev ea eb ed : Ev} {m : Md}
theorem XM.val (hv : XE' X WF e ev) (hp : plainT e = true) (hm : m ≠ .ow) : XM X m e ev := by
  cases m with
  | vl => exact hv
  | br => exact hv.bor
  | ow => exact absurd rfl hm
  | ts => exact ⟨xt_val hv.bor (plainT_he hp), fun z => by rw [plainT_bo hp] at z; cases z⟩
theorem XM.bor (hv : XB X WF e ev) (hp : plainT e = true) (hm : m = .br ∨ m = .ts) : XM X m e ev := by
  rcases hm with rfl | rfl
  · exact hv
  · exact ⟨xt_val hv (plainT_he hp), fun z => by rw [plainT_bo hp] at z; cases z⟩
theorem XM.both (ho : XO X WF e (ownG ev)) (hv : XE' X WF e ev) (hp : plainT e = true) : XM X m e ev := by
  cases m with
  | ow => exact ho
  | vl => exact hv
  | br => exact hv.bor
  | ts => exact ⟨xt_val hv.bor (plainT_he hp), fun z => by rw [plainT_bo hp] at z; cases z⟩
theorem XM.lst (ho : XO X WF e ev) (hp : plainT e = true) : XM X m e ev := XM.both ho.g ho.frz hp
theorem XM.cmp (hv : XE' X WF e ev) (ht : XT X WF e (fun env c => truthR (ev env c))) (hp : isBO e = false) (hm : m ≠ .ow) : XM X m e ev := by
  cases m with
  | vl => exact hv
  | br => exact hv.bor
  | ow => exact absurd rfl hm
  | ts => exact ⟨ht, fun z => by rw [hp] at z; cases z⟩
theorem XE'.as {ev' : Ev} (h : XE' X WF e ev) (q : ev = ev') : XE' X WF e ev' := q ▸ h
theorem XT.as {t t' : Env → List PV → R Bool} (h : XT X WF e t) (q : t = t') : XT X WF e t' := q ▸ h
theorem ownG_pure2 {f : PV → PV → Option PV} : ownG (fun env c => (ea env c).bind fun x c => (eb env c).bind fun y c => pureR (f x y) c) = fun env c => (ea env c).bind fun x c => (eb env c).bind fun y c => pureR (ownO (f x y)) c := by
  funext env c
  show ((ea env c).bind fun x c => (eb env c).bind fun y c => pureR (f x y) c).bind (fun z c => pureR (ownO (some z)) c) = _
  rw [R.bind_assoc]
  congr 1
  funext x c
  rw [R.bind_assoc]
  congr 1
  funext y c
  cases f x y <;> rfl
theorem truthR_not {ev : Ev} : (fun (env : Env) (c : List PV) => (truthR (ev env c)).bind fun b c => R.ok (!b) c) = fun env c => truthR ((truthR (ev env c)).bind fun b c => R.ok (PV.bl (!b)) c) := by
  funext env c
  cases truthR (ev env c) <;> rfl
theorem b2_eq {bl : Blt} : b2 bl ea eb = fun env c => ((ea env c).bind fun x c => ((eb env c).bind fun y c => (R.ok [] c : R (List PV)).bind fun xs c => R.ok (y :: xs) c).bind fun xs c => R.ok (x :: xs) c).bind fun xs c => pureR (bltop bl xs) c := by
  funext env c
  unfold b2
  cases ea env c with
  | ok x c1 =>
    simp only [R.bind_ok]
    cases eb env c1 <;> rfl
  | _ => rfl
end
end PP

set_option Elab.async false
set_option linter.all false
set_option maxRecDepth 100000
/-! PP16: the checker of expressions. -/
namespace PP
open PySem PySem.Spec PyProof.Rows L2

mutual
def pvEq : PV → PV → Bool
  | .non, .non => true
  | .bl a, .bl b => a == b
  | .int i, .int j => decide (i = j)
  | .str x, .str y => decide (x = y)
  | .tup xs, .tup ys => pvEqs xs ys
  | _, _ => false
def pvEqs : List PV → List PV → Bool
  | [], [] => true
  | x :: xs, y :: ys => pvEq x y && pvEqs xs ys
  | _, _ => false
end
mutual
theorem pvEq_eq : ∀ (x y : PV), pvEq x y = true → x = y
  | .non, y, h => by cases y <;> simp [pvEq] at h; rfl
  | .bl a, y, h => by cases y <;> simp [pvEq] at h; rw [h]
  | .int a, y, h => by cases y <;> simp [pvEq] at h; rw [h]
  | .str a, y, h => by cases y <;> simp [pvEq] at h; rw [h]
  | .tup xs, y, h => by
    cases y <;> simp [pvEq] at h
    rw [pvEqs_eq xs _ h]
  | .lst _, y, h => by cases y <;> simp [pvEq] at h
  | .dic _, y, h => by cases y <;> simp [pvEq] at h
  | .cup, y, h => by cases y <;> simp [pvEq] at h
  | .scr _, y, h => by cases y <;> simp [pvEq] at h
theorem pvEqs_eq : ∀ (xs ys : List PV), pvEqs xs ys = true → xs = ys
  | [], ys, h => by cases ys <;> simp [pvEqs] at h; rfl
  | x :: xs, ys, h => by
    cases ys <;> simp [pvEqs] at h
    rw [pvEq_eq x _ h.1, pvEqs_eq xs _ h.2]
end
def conIs (c : Const) (v : PV) : Bool := match c, v with
  | .none, .non => true
  | .bool a, .bl b => a == b
  | .int i, .int j => decide (i = j)
  | .str x, .str y => decide (x = y)
  | _, _ => false
section
variable {FN : Type} [DecidableEq FN]
def ckCon (S : SC FN) (v : PV) (e : Expr) : Bool := match asCon e with
  | some c => conIs c v
  | none => match asName e with
    | some x => S.gl x && (match S.con x with
      | some p => pvEq p v
      | none => false)
    | none => false
def ckVar (S : SC FN) (i : Nat) (e : Expr) : Bool := match asName e with
  | some x => S.loc i x
  | none => false
mutual
def ckTg : Tg → SC FN → Expr → Bool
  | .name i, S, e => (match asName e with
    | some x => S.sto i x
    | none => false)
  | .tup ts, S, e => (match asTup e with
    | some es => ckTgs ts S es
    | none => false)
def ckTgs : List Tg → SC FN → List Expr → Bool
  | [], _, [] => true
  | t :: ts, S, e :: es => notStar e && ckTg t S e && ckTgs ts S es
  | _, _, _ => false
end
inductive BV where | fn (id : String) | ty (T : String)
/-- the built-ins that are called plainly -/
def bltInfo : Blt → Option (Str × BV)
  | .len => some ("len", .fn "len")
  | .tuple => some ("tuple", .ty "tuple")
  | .list => some ("list", .ty "list")
  | .dict => some ("dict", .ty "dict")
  | .abs => some ("abs", .fn "abs")
  | .int => some ("int", .ty "int")
  | .min2 => some ("min", .fn "min")
  | .max2 => some ("max", .fn "max")
  | .sum => some ("sum", .fn "sum")
  | .all => some ("all", .fn "all")
  | .any => some ("any", .fn "any")
  | .maxL => some ("max", .fn "max")
  | .minL => some ("min", .fn "min")
  | _ => none
/-- built-ins around another: outer name, inner name, how many arguments -/
def bltTwo : Blt → Option (Str × Str × Nat)
  | .listRange1 => some ("list", "range", 1)
  | .listRange2 => some ("list", "range", 2)
  | .tupRange1 => some ("tuple", "range", 1)
  | .tupRange2 => some ("tuple", "range", 2)
  | .lenSet => some ("len", "set", 1)
  | .sortedSet => some ("sorted", "set", 1)
  | _ => none
/-- the step -1 -/
def isM1 : Expr → Bool
  | .UnaryOp .USub (.Constant (.int 1) _ _) _ => true
  | _ => false
theorem isM1_eq {e : Expr} (h : isM1 e = true) : ∃ k p1 p2, e = .UnaryOp .USub (.Constant (.int 1) k p1) p2 := by
  unfold isM1 at h
  split at h
  · exact ⟨_, _, _, rfl⟩
  · cases h
def isRev : Blt → Bool
  | .rev => true
  | _ => false
def asRev : Expr → Option Expr
  | .Subscript a (.Slice none none (some st) _) _ => if isM1 st then some a else none
  | _ => none
theorem asRev_eq {e a : Expr} (h : asRev e = some a) : ∃ k p1 p2 p3 pos, e = .Subscript a (.Slice none none (some (.UnaryOp .USub (.Constant (.int 1) k p1) p2)) p3) pos := by
  unfold asRev at h
  split at h
  · split at h
    · cases h
      rename_i hm
      obtain ⟨k, p1, p2, rfl⟩ := isM1_eq hm
      exact ⟨_, _, _, _, _, rfl⟩
    · cases h
  · cases h
def ownBlt : Blt → Bool
  | .list => true
  | .dict => true
  | .sortedSet => true
  | .listRange1 => true
  | .listRange2 => true
  | _ => false
/-- a plain call by a name -/
def asCallN (e : Expr) : Option (Str × List Expr) := match asCall e with
  | some (f, es, []) => (asName f).map fun x => (x, es)
  | _ => none
theorem asCallN_eq {e : Expr} {x : Str} {es : List Expr} (h : asCallN e = some (x, es)) : ∃ p pos, e = .Call (.Name x p) es [] pos := by
  unfold asCallN at h
  split at h
  · rename_i f es' hq
    obtain ⟨pos, rfl⟩ := asCall_eq hq
    obtain ⟨y, hy, e2⟩ := Option.map_eq_some_iff.mp h
    cases e2
    obtain ⟨p, rfl⟩ := asName_eq hy
    exact ⟨p, pos, rfl⟩
  · cases h
/-- a method of any expression, with one argument, on one line -/
def asMth1 : Expr → Option (Expr × Str × Expr)
  | .Call (.Attribute o m apos) [e] [] cpos => if apos.endLine == cpos.line then some (o, m, e) else none
  | _ => none
theorem asMth1_eq {z o e : Expr} {m : Str} (h : asMth1 z = some (o, m, e)) : ∃ apos cpos, z = .Call (.Attribute o m apos) [e] [] cpos ∧ (apos.endLine == cpos.line) = true := by
  unfold asMth1 at h
  split at h
  · split at h <;> cases h
    exact ⟨_, _, rfl, by assumption⟩
  · cases h
def noCall0 : Expr → Bool
  | .Call _ [] _ _ => false
  | _ => true
theorem noCall0_base {o : Expr} {m : Str} {env : PySem.Env} {w : Sem Value} (h : noCall0 o = true) : attributeBase o m env w = w := by
  cases o <;> first | rfl | skip
  rename_i f es kw pos
  cases es with
  | nil => cases h
  | cons _ _ => cases f <;> rfl
def mthN : Mth → Option Str
  | .count => some "count"
  | .index => some "index"
  | _ => none
/-- a key of a display -/
def asKey : Option Expr → Option Str
  | some (.Constant (.str k) _ _) => some k
  | _ => none
theorem asKey_eq {z : Option Expr} {k : Str} (h : asKey z = some k) : ∃ j p, z = some (.Constant (.str k) j p) := by
  unfold asKey at h
  split at h <;> cases h
  exact ⟨_, _, rfl⟩
def scopeOf (names : List (Str × NameKind)) : Scope := ⟨.function, names, false, false, []⟩
def ownOf (S : SC FN) (vs : List Nat) : List (Str × Nat) := vs.filterMap fun i => (S.N[i]?).map fun x => (x, i)
def notSet : Expr → Bool
  | .Set _ _ _ => false
  | _ => true
mutual
def ck : Ex FN → SC FN → Md → Expr → Bool
  | .bad, _, _, _ => true
  | .con v, S, m, e => decide (m ≠ .ow) && ckCon S v e
  | .var i, S, m, e => decide (m ≠ .ow) && ckVar S i e
  | .bor i, S, m, e => (decide (m = .br) || decide (m = .ts)) && ckVar S i e
  | .bin o a b, S, m, e => (match asBin e with
    | some (a', o', b') => decide (bopOf o = o') && ck a S .br a' && ck b S .br b'
    | none => false)
  | .neg a, S, m, e => decide (m ≠ .ow) && (match asUn e with
    | some (o, a') => decide (o = .USub) && ck a S .br a'
    | none => false)
  | .nt a, S, m, e => decide (m ≠ .ow) && (match asUn e with
    | some (o, a') => decide (o = .Not) && ck a S (if m = .ts then .ts else .br) a'
    | none => false)
  | .and a b, S, m, e => decide (m ≠ .ow) && (match asBool e with
    | some (.And, [a', b']) => ck a S (if m = .ts then .ts else .vl) a' && ck b S (if m = .ts then .ts else .vl) b'
    | some (.And, a' :: b' :: c' :: r) => ck a S (if m = .ts then .ts else .vl) a' && ck b S (if m = .ts then .ts else .vl) (.BoolOp .And (b' :: c' :: r) e.pos)
    | _ => false)
  | .or a b, S, m, e => decide (m ≠ .ow) && (match asBool e with
    | some (.Or, [a', b']) => ck a S (if m = .ts then .ts else .vl) a' && ck b S (if m = .ts then .ts else .vl) b'
    | some (.Or, a' :: b' :: c' :: r) => ck a S (if m = .ts then .ts else .vl) a' && ck b S (if m = .ts then .ts else .vl) (.BoolOp .Or (b' :: c' :: r) e.pos)
    | _ => false)
  | .ite t a b, S, m, e => (decide (m = .vl) || decide (m = .br)) && (match asIf e with
    | some (t', a', b') => ck t S .ts t' && ck a S .vl a' && ck b S .vl b'
    | none => false)
  | .cmp o a b, S, m, e => decide (m ≠ .ow) && (match asCmp e with
    | some (a', [o'], [b']) => decide (copOf o = o') && ck a S .br a' && ck b S .br b' && notSet b'
    | _ => false)
  | .chain a b d, S, m, e => decide (m ≠ .ow) && (match asCmp e with
    | some (a', [.LtE, .LtE], [b', d']) => ck a S .br a' && ck b S .br b' && ck d S .br d' && notSet d'
    | _ => false)
  | .tup es, S, m, e => decide (m ≠ .ow) && (match asTup e with
    | some es' => ckL es S .vl es'
    | none => false)
  | .lst es, S, m, e => (match asLst e with
    | some es' => ckL es S .vl es'
    | none => false)
  | .ix a b, S, m, e => decide (m ≠ .ow) && (match asSub e with
    | some (a', b') => (asSlice b').isNone && ck a S .br a' && ck b S .br b'
    | none => false)
  | .sl a lo hi, S, m, e => (match asSub e with
    | some (a', b') => (match asSlice b' with
      | some (lo', hi', none) => ck a S .br a' && ckO lo S lo' && ckO hi S hi'
      | _ => false)
    | none => false)
  | .call f es, S, m, e => decide (m ≠ .ow) && (match asCallN e with
    | some (x, es') => decide (S.fn x = some f) && S.gl x && ckL es S .vl es'
    | none => false)
  | .blt b es, S, m, e => (match bltInfo b with
    | some (nm, _) => (match asCallN e with
      | some (x, es') => decide (nm = x) && S.bo x && !es'.isEmpty && ckL es S .br es' && (ownBlt b || decide (m ≠ .ow))
      | none => false)
    | none => (match bltTwo b with
      | some (nm, nm2, n) => (match asCallN e with
        | some (x, [e2]) => (match asCallN e2 with
          | some (y, es') => decide (nm = x) && decide (nm2 = y) && S.bo x && S.bo y && decide (es'.length = n) && ckL es S .br es' && decide (es.length = n) && (ownBlt b || decide (m ≠ .ow))
          | none => false)
        | _ => false)
      | none => isRev b && decide (m ≠ .ow) && (match asRev e with
        | some a' => ckL es S .br [a']
        | none => false)))
  | .mth mt a es, S, m, e => decide (m ≠ .ow) && (match mthN mt with
    | some nm => (match asMth1 e with
      | some (o, x, e') => decide (nm = x) && noCall0 o && notStar e' && ck a S .br o && ckL es S .vl [e']
      | none => false)
    | none => false)
  | .pick ks es a, S, m, e => decide (m ≠ .ow) && (match asSub e with
    | some (d, b') => (match asDict d with
      | some (keys, vals) => (asSlice b').isNone && decide (keys.length = vals.length) && !keys.isEmpty && decide (keys.length ≤ 15) && decide (ks.length ≤ 15) && decide ks.Nodup && keys.all (·.isSome) && ckP es ks S keys vals && ck a S .vl b'
      | none => false)
    | none => false)
  | .isin a t, S, m, e => decide (m ≠ .ow) && (match asCallN e with
    | some (x, [a', t']) => (match asName t' with
      | some y => decide (x = "isinstance") && decide (y = tyN t) && S.bo x && S.bo y && notStar a' && ck a S .br a'
      | none => false)
    | _ => false)
  | .comp vs el t it cond, S, m, e => (match asComp e with
    | some (el', [⟨tg, iter, ifs, 0⟩], sc) => decide ((ownOf S vs).map (·.2) = vs) && blkC S.N (scopeOf S.names) sc (ownOf S vs) && t.vars.all (fun i => decide (i ∈ vs)) && ckTg t (S.blk sc) tg && ckI it S tg iter && notSet iter && ckIf cond (S.blk sc) ifs && ck el (S.blk sc) .vl el'
    | _ => false)
  | .comp2 vs vs1 el t it cond t1 it1 cond1, S, m, e => (match asComp e with
    | some (el', [⟨tg, iter, ifs, 0⟩, ⟨tg1, iter1, ifs1, 0⟩], sc) => decide ((ownOf S vs).map (·.2) = vs) && blkC S.N (scopeOf S.names) sc (ownOf S vs) && t.vars.all (fun i => decide (i ∈ vs)) && t1.vars.all (fun i => decide (i ∈ vs1)) && vs1.all (fun i => decide (i ∈ vs)) &&
        ckTg t (S.blk sc) tg && ckI it S tg iter && notSet iter && ckIf cond (S.blk sc) ifs && ckTg t1 (S.blk sc) tg1 && ckI it1 (S.blk sc) tg1 iter1 && notSet iter1 && ckIf cond1 (S.blk sc) ifs1 && ck el (S.blk sc) .vl el'
    | _ => false)
def ckL : List (Ex FN) → SC FN → Md → List Expr → Bool
  | [], _, _, [] => true
  | x :: xs, S, m, e :: es => notStar e && ck x S m e && ckL xs S m es
  | _, _, _, _ => false
def ckP : List (Ex FN) → List Str → SC FN → List (Option Expr) → List Expr → Bool
  | [], [], _, [], [] => true
  | x :: xs, k :: ks, S, key :: keys, v :: vals => decide (asKey key = some k) && ck x S .vl v && ckP xs ks S keys vals
  | _, _, _, _, _ => false
def ckO : Option (Ex FN) → SC FN → Option Expr → Bool
  | none, _, none => true
  | some x, S, some e => ck x S .br e
  | _, _, _ => false
def ckIf : Option (Ex FN) → SC FN → List Expr → Bool
  | none, _, [] => true
  | some x, S, [e] => ck x S .ts e
  | _, _, _ => false
def ckI : Ie FN → SC FN → Expr → Expr → Bool
  | .seq x, S, _, e => ck x S .vl e
  | .range1 a, S, _, e => (match asCallN e with
    | some (x, [a']) => decide (x = "range") && S.bo x && notStar a' && ck a S .br a'
    | _ => false)
  | .range2 a b, S, _, e => (match asCallN e with
    | some (x, [a', b']) => decide (x = "range") && S.bo x && notStar a' && notStar b' && ck a S .br a' && ck b S .br b'
    | _ => false)
  | .zip a b, S, tg, e => (asTup tg).isSome && (match asCallN e with
    | some (x, [a', b']) => decide (x = "zip") && S.bo x && notStar a' && notStar b' && ck a S .vl a' && ck b S .vl b'
    | _ => false)
  | .enum a, S, tg, e => (asTup tg).isSome && (match asCallN e with
    | some (x, [a']) => decide (x = "enumerate") && S.bo x && notStar a' && ck a S .vl a'
    | _ => false)
end
end
end PP

set_option Elab.async false
set_option linter.all false
set_option maxRecDepth 100000
/-! PP17: the checker of expressions is right. -/
namespace PP
open PySem PySem.Spec PyProof.Rows L2

theorem plainIx_of {b : Expr} (h : (asSlice b).isNone = true) : PlainIx b := by
  cases b <;> first | (intro o i; rfl) | (simp [asSlice] at h)
theorem noSl_of {b : Expr} (h : (asSlice b).isNone = true) : NoSl b := by
  cases b <;> first | (intro o i; rfl) | (simp [asSlice] at h)
theorem noMark {op : CmpOp} {b : Expr} (h : notSet b = true) : behindInMarks op b = false := by
  cases b <;> first | rfl | cases h
theorem notSet_fold {e : Expr} (h : notSet e = true) (env : PySem.Env) : ∀ x, foldedSetIterable e env x = pure x := by
  intro x
  cases e <;> first | rfl | cases h
theorem bool_and {a b : Bool} (h : (a && b) = true) : a = true ∧ b = true := by simpa using h
section
variable {FN : Type} [DecidableEq FN] {P : FN → FnP FN} {k : Nat}
theorem ckVar_ok {S : SC FN} {X : Cx} {i : Nat} {e : Expr} (hx : SX P k S X) (h : ckVar S i e = true) : L2.PE X e (tVar i) ∧ ∃ x pos, e = .Name x pos := by
  unfold ckVar at h
  cases hq : asName e with
  | none => rw [hq] at h; cases h
  | some x =>
    rw [hq] at h
    obtain ⟨pos, rfl⟩ := asName_eq hq
    exact ⟨hx.var h, x, pos, rfl⟩
theorem ckCon_ok {S : SC FN} {X : Cx} {v : PV} {e : Expr} (hx : SX P k S X) (h : ckCon S v e = true) : XE' X WF e (fun _ c => .ok v c) ∧ plainT e = true := by
  unfold ckCon at h
  cases hq : asCon e with
  | some cn =>
    rw [hq] at h
    obtain ⟨kk, pos, rfl⟩ := asCon_eq hq
    refine ⟨?_, rfl⟩
    cases cn <;> cases v <;> simp [conIs] at h
    · exact x_non
    · subst h; exact x_bl
    · subst h; exact x_int
    · subst h; exact x_str
  | none =>
    rw [hq] at h
    cases hq2 : asName e with
    | none => rw [hq2] at h; cases h
    | some x =>
      rw [hq2] at h
      obtain ⟨pos, rfl⟩ := asName_eq hq2
      refine ⟨?_, rfl⟩
      simp only at h
      obtain ⟨h1, h2⟩ := bool_and h
      cases hc : S.con x with
      | none => rw [hc] at h2; cases h2
      | some p =>
        rw [hc] at h2
        have e1 := pvEq_eq _ _ h2
        subst e1
        obtain ⟨u, w, hm, rv, rp⟩ := hx.con x p hc
        obtain ⟨g1, g2, g3⟩ := hx.gl h1
        exact x_con (pe_glob g1 hm rv g2) rp
mutual
theorem ckTg_ok : ∀ (t : Tg) {S : SC FN} {X : Cx} {e : Expr}, SX P k S X → ckTg t S e = true → L2.PG X e (tG (wd X) t)
  | .name i, S, X, e, hx, h => by
    rw [ckTg] at h
    cases hq : asName e with
    | none => rw [hq] at h; cases h
    | some x =>
      rw [hq] at h
      obtain ⟨pos, rfl⟩ := asName_eq hq
      exact hx.sto h
  | .tup ts, S, X, e, hx, h => by
    rw [ckTg] at h
    cases hq : asTup e with
    | none => rw [hq] at h; cases h
    | some es =>
      rw [hq] at h
      obtain ⟨kk, pos, rfl⟩ := asTup_eq hq
      obtain ⟨h1, h2, h3⟩ := ckTgs_ok ts hx h
      exact xg_tup hx.calm h1 h2 h3
theorem ckTgs_ok : ∀ (ts : List Tg) {S : SC FN} {X : Cx} {es : List Expr}, SX P k S X → ckTgs ts S es = true → L2.PGs X es (tGs (wd X) ts) ∧ es.all notStar = true ∧ ts.length = es.length
  | [], S, X, [], hx, h => ⟨xgs_nil, rfl, rfl⟩
  | [], S, X, _ :: _, hx, h => by simp [ckTgs] at h
  | _ :: _, S, X, [], hx, h => by simp [ckTgs] at h
  | t :: ts, S, X, e :: es, hx, h => by
    rw [ckTgs] at h
    obtain ⟨h12, h3⟩ := bool_and h
    obtain ⟨h1, h2⟩ := bool_and h12
    obtain ⟨q1, q2, q3⟩ := ckTgs_ok ts hx h3
    exact ⟨xgs_cons (ckTg_ok t hx h2) q1 h1, by rw [List.all_cons, h1, q2]; rfl, by rw [List.length_cons, List.length_cons, q3]⟩
end
/-- a plain built-in -/
theorem blt_rule {X : Cx} (hc : X.calm = true) (hu : X.A.units + 70 < cLine) {b : Blt} {nm : Str} {v : BV} (h : bltInfo b = some (nm, v)) : match v with
    | .fn id => bootBuiltins nm = some (.builtin id) ∧ CallR X (.builtin id) (rC (wd X) (bltop b))
    | .ty T => bootBuiltins nm = some (.type T) ∧ (ownBlt b = false → CallR X (.type T) (rC (wd X) (bltop b))) ∧ (ownBlt b = true → CallR X (.type T) (rCO (wd X) (bltop b))) := by
  cases b <;> cases h
  · exact ⟨by decide +kernel, b_len⟩
  · exact ⟨by decide +kernel, fun _ => b_tuple, fun z => nomatch z⟩
  · exact ⟨by decide +kernel, fun z => (Bool.noConfusion z), fun _ => b_listO⟩
  · exact ⟨by decide +kernel, fun z => (Bool.noConfusion z), fun _ => b_dictO hc hu⟩
  · exact ⟨by decide +kernel, b_abs⟩
  · exact ⟨by decide +kernel, fun _ => b_int, fun z => nomatch z⟩
  · exact ⟨by decide +kernel, b_min2 hc⟩
  · exact ⟨by decide +kernel, b_max2 hc⟩
  · exact ⟨by decide +kernel, b_sum hc⟩
  · exact ⟨by decide +kernel, b_all hc⟩
  · exact ⟨by decide +kernel, b_any hc⟩
  · exact ⟨by decide +kernel, b_maxL hc⟩
  · exact ⟨by decide +kernel, b_minL hc⟩
theorem blk_ok {S : SC FN} {X : Cx} (hx : SX P k S X) {sc : Scope} {own : List (Str × Nat)} (h : blkC S.N (scopeOf S.names) sc own = true) : BlkOk X.N X.env.scope sc own := by
  have q := blkOk_by h
  refine ⟨q.kind, q.uniq, by rw [hx.N]; exact q.ix, ?_, by rw [hx.N]; exact q.own⟩
  rw [hx.sc]
  exact q.free
theorem dec_of {p : Prop} [Decidable p] (h : decide p = true) : p := of_decide_eq_true h
mutual
theorem ck_ok : ∀ (ex : Ex FN) {S : SC FN} {X : Cx} {m : Md} {e : Expr}, SX P k S X → ck ex S m e = true → XM X m e (evalE (callK P k) ex)
  | .bad, S, X, m, e, hx, h => by
    have hb : ∀ {α : Type} {σ : L2.St} {H : Hp} {K : α → Gh → List PV → Hp → Prop}, tR (wd X) X.mg WF (fun _ _ => (R.stuck : R α)) K σ H → False := fun ⟨_, _, _, _, _, _, gd⟩ => gd
    cases m with
    | vl => exact ⟨fun _ _ _ _ _ _ q => (hb q).elim⟩
    | br => exact ⟨fun _ _ _ _ _ _ q => (hb q).elim⟩
    | ow => exact ⟨fun _ _ _ _ _ _ q => (hb q).elim⟩
    | ts => exact ⟨⟨fun _ _ _ _ _ _ q => (hb q).elim⟩, fun _ => ⟨fun _ _ _ _ _ _ _ q => (hb q).elim⟩⟩
  | .con v, S, X, m, e, hx, h => by
    rw [ck] at h
    obtain ⟨h1, h2⟩ := bool_and h
    obtain ⟨q1, q2⟩ := ckCon_ok hx h2
    exact XM.val q1 q2 (dec_of h1)
  | .var i, S, X, m, e, hx, h => by
    rw [ck] at h
    obtain ⟨h1, h2⟩ := bool_and h
    obtain ⟨q1, x, pos, rfl⟩ := ckVar_ok hx h2
    exact XM.val (x_var q1) rfl (dec_of h1)
  | .bor i, S, X, m, e, hx, h => by
    rw [ck] at h
    obtain ⟨h1, h2⟩ := bool_and h
    obtain ⟨q1, x, pos, rfl⟩ := ckVar_ok hx h2
    exact XM.bor (x_bor q1) rfl (by simpa using h1)
  | .bin o a b, S, X, m, e, hx, h => by
    rw [ck] at h
    cases hq : asBin e with
    | none => rw [hq] at h; cases h
    | some q =>
      obtain ⟨a', o', b'⟩ := q
      rw [hq] at h
      obtain ⟨pos, rfl⟩ := asBin_eq hq
      obtain ⟨h12, h3⟩ := bool_and h
      obtain ⟨h1, h2⟩ := bool_and h12
      have e1 := dec_of h1
      subst e1
      have ha := ck_ok a hx h2
      have hb := ck_ok b hx h3
      exact XM.both ((x_binO o ha hb).as ownG_pure2.symm) (x_bin o ha hb) rfl
  | .neg a, S, X, m, e, hx, h => by
    rw [ck] at h
    have hh := bool_and h; clear h; obtain ⟨h0, h⟩ := hh
    cases hq : asUn e with
    | none => rw [hq] at h; cases h
    | some q =>
      obtain ⟨o, a'⟩ := q
      rw [hq] at h
      obtain ⟨pos, rfl⟩ := asUn_eq hq
      obtain ⟨h1, h2⟩ := bool_and h
      obtain rfl : o = .USub := dec_of h1
      exact XM.val (x_neg (ck_ok a hx h2)) rfl (dec_of h0)
  | .nt a, S, X, m, e, hx, h => by
    rw [ck] at h
    have hh := bool_and h; clear h; obtain ⟨h0, h⟩ := hh
    cases hq : asUn e with
    | none => rw [hq] at h; cases h
    | some q =>
      obtain ⟨o, a'⟩ := q
      rw [hq] at h
      obtain ⟨pos, rfl⟩ := asUn_eq hq
      obtain ⟨h1, h2⟩ := bool_and h
      obtain rfl : o = .Not := dec_of h1
      cases m with
      | ow => exact absurd h0 (by decide)
      | ts =>
        have q := ck_ok a hx h2
        exact ⟨(xt_not q.1).as truthR_not, fun z => nomatch z⟩
      | vl => exact x_nt (ck_ok a hx h2)
      | br => exact (x_nt (ck_ok a hx h2)).bor
  | .and a b, S, X, m, e, hx, h => by
    rw [ck] at h
    have hh := bool_and h; clear h; obtain ⟨h0, h⟩ := hh
    cases hq : asBool e with
    | none => rw [hq] at h; cases h
    | some q =>
      obtain ⟨o, es⟩ := q
      rw [hq] at h
      obtain ⟨pos, rfl⟩ := asBool_eq hq
      cases o with
      | Or => cases h
      | And =>
        match es, h with
        | [a', b'], h =>
          obtain ⟨h1, h2⟩ := bool_and h
          cases m with
          | ow => exact absurd h0 (by decide)
          | ts =>
            have q := xt_and (pos := pos) (rest := []) (ck_ok a hx h1).1 (xt_and1 (ck_ok b hx h2).1)
            exact ⟨q.pt, fun _ => q⟩
          | vl => exact x_and (ck_ok a hx h1) (x_one (ck_ok b hx h2))
          | br => exact (x_and (pos := pos) (rest := []) (ck_ok a hx h1) (x_one (ck_ok b hx h2))).bor
        | a' :: b' :: c' :: r, h =>
          obtain ⟨h1, h2⟩ := bool_and h
          cases m with
          | ow => exact absurd h0 (by decide)
          | ts =>
            have q := xt_and (pos := pos) (rest := c' :: r) (ck_ok a hx h1).1 ((ck_ok b hx h2).2 rfl)
            exact ⟨q.pt, fun _ => q⟩
          | vl => exact x_and (ck_ok a hx h1) (ck_ok b hx h2)
          | br => exact (x_and (pos := pos) (rest := c' :: r) (ck_ok a hx h1) (ck_ok b hx h2)).bor
  | .or a b, S, X, m, e, hx, h => by
    rw [ck] at h
    have hh := bool_and h; clear h; obtain ⟨h0, h⟩ := hh
    cases hq : asBool e with
    | none => rw [hq] at h; cases h
    | some q =>
      obtain ⟨o, es⟩ := q
      rw [hq] at h
      obtain ⟨pos, rfl⟩ := asBool_eq hq
      cases o with
      | And => cases h
      | Or =>
        match es, h with
        | [a', b'], h =>
          obtain ⟨h1, h2⟩ := bool_and h
          cases m with
          | ow => exact absurd h0 (by decide)
          | ts =>
            have q := xt_or (pos := pos) (rest := []) (ck_ok a hx h1).1 (xt_or1 (ck_ok b hx h2).1)
            exact ⟨q.pt, fun _ => q⟩
          | vl => exact x_or (ck_ok a hx h1) (x_one (ck_ok b hx h2))
          | br => exact (x_or (pos := pos) (rest := []) (ck_ok a hx h1) (x_one (ck_ok b hx h2))).bor
        | a' :: b' :: c' :: r, h =>
          obtain ⟨h1, h2⟩ := bool_and h
          cases m with
          | ow => exact absurd h0 (by decide)
          | ts =>
            have q := xt_or (pos := pos) (rest := c' :: r) (ck_ok a hx h1).1 ((ck_ok b hx h2).2 rfl)
            exact ⟨q.pt, fun _ => q⟩
          | vl => exact x_or (ck_ok a hx h1) (ck_ok b hx h2)
          | br => exact (x_or (pos := pos) (rest := c' :: r) (ck_ok a hx h1) (ck_ok b hx h2)).bor
  | .ite t a b, S, X, m, e, hx, h => by
    rw [ck] at h
    have hh := bool_and h; clear h; obtain ⟨h0, h⟩ := hh
    cases hq : asIf e with
    | none => rw [hq] at h; cases h
    | some q =>
      obtain ⟨t', a', b'⟩ := q
      rw [hq] at h
      obtain ⟨pos, rfl⟩ := asIf_eq hq
      obtain ⟨h12, h3⟩ := bool_and h
      obtain ⟨h1, h2⟩ := bool_and h12
      have q := x_ite (pos := pos) (ck_ok t hx h1).1 (ck_ok a hx h2) (ck_ok b hx h3)
      cases m with
      | ow => exact absurd h0 (by decide)
      | ts => exact absurd h0 (by decide)
      | vl => exact q
      | br => exact q.bor
  | .cmp o a b, S, X, m, e, hx, h => by
    rw [ck] at h
    have hh := bool_and h; clear h; obtain ⟨h0, h⟩ := hh
    cases hq : asCmp e with
    | none => rw [hq] at h; cases h
    | some q =>
      obtain ⟨a', os, bs⟩ := q
      rw [hq] at h
      obtain ⟨pos, rfl⟩ := asCmp_eq hq
      match os, bs, h with
      | [o'], [b'], h =>
        obtain ⟨h123, h4⟩ := bool_and h
        obtain ⟨h12, h3⟩ := bool_and h123
        obtain ⟨h1, h2⟩ := bool_and h12
        obtain rfl : copOf o = o' := dec_of h1
        exact XM.cmp (x_cmp hx.units o (ck_ok a hx h2) (ck_ok b hx h3) (noMark h4)) (xt_cmp hx.units o (ck_ok a hx h2) (ck_ok b hx h3) (noMark h4)) rfl (dec_of h0)
      | [], _, h => cases h
      | _ :: _ :: _, _, h => exact absurd h (by simp)
      | [_], [], h => cases h
      | [_], _ :: _ :: _, h => cases h
  | .chain a b d, S, X, m, e, hx, h => by
    rw [ck] at h
    have hh := bool_and h; clear h; obtain ⟨h0, h⟩ := hh
    cases hq : asCmp e with
    | none => rw [hq] at h; cases h
    | some q =>
      obtain ⟨a', os, bs⟩ := q
      rw [hq] at h
      obtain ⟨pos, rfl⟩ := asCmp_eq hq
      split at h
      · rename_i heq
        cases heq
        obtain ⟨h123, h4⟩ := bool_and h
        obtain ⟨h12, h3⟩ := bool_and h123
        obtain ⟨h1, h2⟩ := bool_and h12
        exact XM.cmp (x_chain hx.units (ck_ok a hx h1) (ck_ok b hx h2) (ck_ok d hx h3) (noMark h4)) (xt_chain hx.units (ck_ok a hx h1) (ck_ok b hx h2) (ck_ok d hx h3) (noMark h4)) rfl (dec_of h0)
      · cases h
  | .tup es, S, X, m, e, hx, h => by
    rw [ck] at h
    have hh := bool_and h; clear h; obtain ⟨h0, h⟩ := hh
    cases hq : asTup e with
    | none => rw [hq] at h; cases h
    | some q =>
      rw [hq] at h
      obtain ⟨kk, pos, rfl⟩ := asTup_eq hq
      exact XM.val (x_tup (ckL_ok es hx h).1) rfl (dec_of h0)
  | .lst es, S, X, m, e, hx, h => by
    rw [ck] at h
    cases hq : asLst e with
    | none => rw [hq] at h; cases h
    | some q =>
      rw [hq] at h
      obtain ⟨pos, rfl⟩ := asLst_eq hq
      exact XM.lst (x_lstO (ckL_ok es hx h).1) rfl
  | .ix a b, S, X, m, e, hx, h => by
    rw [ck] at h
    have hh := bool_and h; clear h; obtain ⟨h0, h⟩ := hh
    cases hq : asSub e with
    | none => rw [hq] at h; cases h
    | some q =>
      obtain ⟨a', b'⟩ := q
      rw [hq] at h
      obtain ⟨pos, rfl⟩ := asSub_eq hq
      obtain ⟨h12, h3⟩ := bool_and h
      obtain ⟨h1, h2⟩ := bool_and h12
      exact XM.val (x_ix hx.units (ck_ok a hx h2) (ck_ok b hx h3) (plainIx_of h1)) rfl (dec_of h0)
  | .sl a lo hi, S, X, m, e, hx, h => by
    rw [ck] at h
    cases hq : asSub e with
    | none => rw [hq] at h; cases h
    | some q =>
      obtain ⟨a', b'⟩ := q
      rw [hq] at h
      obtain ⟨pos, rfl⟩ := asSub_eq hq
      cases hq2 : asSlice b' with
      | none => simp only [hq2] at h; cases h
      | some q2 =>
        obtain ⟨lo', hi', st⟩ := q2
        simp only [hq2] at h
        obtain ⟨pos2, rfl⟩ := asSlice_eq hq2
        cases st with
        | some _ => cases h
        | none =>
          obtain ⟨h12, h3⟩ := bool_and h
          obtain ⟨h1, h2⟩ := bool_and h12
          exact XM.both (x_slO (ck_ok a hx h1) (ckO_ok lo hx h2) (ckO_ok hi hx h3)) (x_sl (ck_ok a hx h1) (ckO_ok lo hx h2) (ckO_ok hi hx h3)) rfl
  | .call f es, S, X, m, e, hx, h => by
    rw [ck] at h
    have hh := bool_and h; clear h; obtain ⟨h0, h⟩ := hh
    cases hq : asCallN e with
    | none => rw [hq] at h; cases h
    | some q =>
      obtain ⟨x, es'⟩ := q
      rw [hq] at h
      obtain ⟨p, pos, rfl⟩ := asCallN_eq hq
      obtain ⟨h12, h3⟩ := bool_and h
      obtain ⟨h1, h2⟩ := bool_and h12
      obtain ⟨g1, g2, g3⟩ := hx.gl h2
      obtain ⟨l1, l2⟩ := ckL_ok es hx h3
      have F := hx.fns x f (dec_of h1)
      cases es' with
      | nil =>
        cases es with
        | nil => exact XM.val (x_call0 F hx.room g1 g2) rfl (dec_of h0)
        | cons _ _ => simp [ckL] at h3
      | cons e1 r => exact XM.val (x_call F hx.room g1 g2 l1 l2) rfl (dec_of h0)
  | .blt b es, S, X, m, e, hx, h => by
    rw [ck] at h
    cases hi : bltInfo b with
    | some q =>
      obtain ⟨nm, v⟩ := q
      rw [hi] at h
      cases hq : asCallN e with
      | none => rw [hq] at h; cases h
      | some q =>
        obtain ⟨x, es'⟩ := q
        rw [hq] at h
        obtain ⟨p, pos, rfl⟩ := asCallN_eq hq
        obtain ⟨h1234, h5⟩ := bool_and h
        obtain ⟨h123, h4⟩ := bool_and h1234
        obtain ⟨h12, h3⟩ := bool_and h123
        obtain ⟨h1, h2⟩ := bool_and h12
        obtain rfl : nm = x := dec_of h1
        have bo := hx.bo h2
        obtain ⟨l1, l2⟩ := ckL_ok es hx h4
        cases es' with
        | nil => cases h3
        | cons e1 r =>
          have R := blt_rule hx.calm hx.units hi
          cases v with
          | fn id =>
            have hm : m ≠ .ow := by cases b <;> first | exact dec_of h5 | (cases hi; done) | (simp [ownBlt] at h5; exact h5)
            exact XM.val (x_callB R.2 bo R.1 l1 l2) rfl hm
          | ty T =>
            cases hb : ownBlt b with
            | true => exact XM.lst (x_callTyO (R.2.2 hb) bo R.1 l1 l2) rfl
            | false =>
              have hm : m ≠ .ow := by rw [hb] at h5; simpa using h5
              exact XM.val (x_callTy (R.2.1 hb) bo R.1 l1 l2) rfl hm
    | none =>
      rw [hi] at h
      cases hi2 : bltTwo b with
      | none =>
        rw [hi2] at h
        obtain ⟨h, h3⟩ := bool_and h
        obtain ⟨h1, h2⟩ := bool_and h
        cases b <;> first | (cases h1; done) | skip
        cases hq : asRev e with
        | none => simp only [hq] at h3; cases h3
        | some a' =>
          simp only [hq] at h3
          obtain ⟨_, _, _, _, _, rfl⟩ := asRev_eq hq
          match es, h3 with
          | [x1], h6 =>
            rw [ckL, ckL] at h6
            obtain ⟨h6, _⟩ := bool_and h6
            obtain ⟨n1, c1⟩ := bool_and h6
            exact XM.val (x_rev (ck_ok x1 hx c1)) rfl (dec_of h2)
          | [], h6 => simp [ckL] at h6
          | _ :: _ :: _, h6 => simp [ckL] at h6
      | some q =>
        obtain ⟨nm, nm2, n⟩ := q
        rw [hi2] at h
        simp only at h
        cases hq : asCallN e with
        | none => rw [hq] at h; cases h
        | some q =>
          obtain ⟨x, es1⟩ := q
          rw [hq] at h
          match es1, h with
          | [e2], h =>
            obtain ⟨p, pos, rfl⟩ := asCallN_eq hq
            cases hq2 : asCallN e2 with
            | none => simp only [hq2] at h; cases h
            | some q2 =>
              obtain ⟨y, es'⟩ := q2
              simp only [hq2] at h
              obtain ⟨p2, pos2, rfl⟩ := asCallN_eq hq2
              obtain ⟨h1, h8⟩ := bool_and h
              obtain ⟨h1, h7⟩ := bool_and h1
              obtain ⟨h1, h6⟩ := bool_and h1
              obtain ⟨h1, h5⟩ := bool_and h1
              obtain ⟨h1, h4⟩ := bool_and h1
              obtain ⟨h1, h3⟩ := bool_and h1
              obtain ⟨h1, h2⟩ := bool_and h1
              obtain rfl : nm = x := dec_of h1
              obtain rfl : nm2 = y := dec_of h2
              have bo := hx.bo h3
              have bo2 := hx.bo h4
              have l5 := dec_of h5
              have l7 := dec_of h7
              cases b with
              | listRange1 =>
                cases hi2
                match es, es', l7, l5, h6 with
                | [x1], [a'], _, _, h6 =>
                  rw [ckL, ckL] at h6
                  obtain ⟨h6, _⟩ := bool_and h6
                  obtain ⟨n1, c1⟩ := bool_and h6
                  exact XM.lst (x_listRg1 hx.calm bo bo2 (ck_ok x1 hx c1) n1) rfl
              | listRange2 =>
                cases hi2
                match es, es', l7, l5, h6 with
                | [x1, x2], [a', b'], _, _, h6 =>
                  rw [ckL, ckL, ckL] at h6
                  obtain ⟨h6, h62⟩ := bool_and h6
                  obtain ⟨n1, c1⟩ := bool_and h6
                  obtain ⟨h62, _⟩ := bool_and h62
                  obtain ⟨n2, c2⟩ := bool_and h62
                  exact XM.lst ((x_listRg2 hx.calm bo bo2 (ck_ok x1 hx c1) (ck_ok x2 hx c2) n1 n2).as b2_eq) rfl
              | tupRange1 =>
                cases hi2
                match es, es', l7, l5, h6 with
                | [x1], [a'], _, _, h6 =>
                  rw [ckL, ckL] at h6
                  obtain ⟨h6, _⟩ := bool_and h6
                  obtain ⟨n1, c1⟩ := bool_and h6
                  exact XM.val (x_tupRg1 hx.calm bo bo2 (ck_ok x1 hx c1) n1) rfl (by simpa [ownBlt] using h8)
              | tupRange2 =>
                cases hi2
                match es, es', l7, l5, h6 with
                | [x1, x2], [a', b'], _, _, h6 =>
                  rw [ckL, ckL, ckL] at h6
                  obtain ⟨h6, h62⟩ := bool_and h6
                  obtain ⟨n1, c1⟩ := bool_and h6
                  obtain ⟨h62, _⟩ := bool_and h62
                  obtain ⟨n2, c2⟩ := bool_and h62
                  exact XM.val ((x_tupRg2 hx.calm bo bo2 (ck_ok x1 hx c1) (ck_ok x2 hx c2) n1 n2).as b2_eq) rfl (by simpa [ownBlt] using h8)
              | lenSet =>
                cases hi2
                match es, es', l7, l5, h6 with
                | [x1], [a'], _, _, h6 =>
                  rw [ckL, ckL] at h6
                  obtain ⟨h6, _⟩ := bool_and h6
                  obtain ⟨n1, c1⟩ := bool_and h6
                  exact XM.val (x_lenSet hx.calm bo bo2 (ck_ok x1 hx c1) n1) rfl (by simpa [ownBlt] using h8)
              | sortedSet =>
                cases hi2
                match es, es', l7, l5, h6 with
                | [x1], [a'], _, _, h6 =>
                  rw [ckL, ckL] at h6
                  obtain ⟨h6, _⟩ := bool_and h6
                  obtain ⟨n1, c1⟩ := bool_and h6
                  exact XM.lst (x_sortedSet hx.calm (by have := hx.units; omega) bo bo2 (ck_ok x1 hx c1) n1) rfl
              | _ => cases hi2
          | [], h => cases h
          | _ :: _ :: _, h => cases h
  | .mth mt a es, S, X, m, e, hx, h => by
    rw [ck] at h
    have hh := bool_and h; clear h; obtain ⟨h0, h⟩ := hh
    cases hn : mthN mt with
    | none => rw [hn] at h; cases h
    | some nm =>
      rw [hn] at h
      cases hq : asMth1 e with
      | none => simp only [hq] at h; cases h
      | some q =>
        obtain ⟨o, x, e'⟩ := q
        simp only [hq] at h
        obtain ⟨apos, cpos, rfl, hline⟩ := asMth1_eq hq
        obtain ⟨h, h5⟩ := bool_and h
        obtain ⟨h, h4⟩ := bool_and h
        obtain ⟨h, h3⟩ := bool_and h
        obtain ⟨h1, h2⟩ := bool_and h
        obtain rfl : nm = x := dec_of h1
        match es, h5 with
        | [x1], h6 =>
          rw [ckL, ckL] at h6
          obtain ⟨h6, _⟩ := bool_and h6
          obtain ⟨n1, c1⟩ := bool_and h6
          cases mt <;> first | (cases hn; done) | skip
          · cases hn
            exact XM.val (x_count hx.units (ck_ok a hx h4) (ck_ok x1 hx c1) n1 (noCall0_base h2) hline) rfl (dec_of h0)
          · cases hn
            exact XM.val (x_index hx.units (ck_ok a hx h4) (ck_ok x1 hx c1) n1 (noCall0_base h2) hline) rfl (dec_of h0)
        | [], h6 => simp [ckL] at h6
        | _ :: _ :: _, h6 => simp [ckL] at h6
  | .pick ks es a, S, X, m, e, hx, h => by
    rw [ck] at h
    have hh := bool_and h; clear h; obtain ⟨h0, h⟩ := hh
    cases hq : asSub e with
    | none => rw [hq] at h; cases h
    | some q =>
      obtain ⟨d, b'⟩ := q
      rw [hq] at h
      obtain ⟨pos, rfl⟩ := asSub_eq hq
      cases hd : asDict d with
      | none => simp only [hd] at h; cases h
      | some q =>
        obtain ⟨keys, vals⟩ := q
        simp only [hd] at h
        obtain ⟨dp, rfl⟩ := asDict_eq hd
        obtain ⟨h, h9⟩ := bool_and h
        obtain ⟨h, h8⟩ := bool_and h
        obtain ⟨h, h7⟩ := bool_and h
        obtain ⟨h, h6⟩ := bool_and h
        obtain ⟨h, h5⟩ := bool_and h
        obtain ⟨h, h4⟩ := bool_and h
        obtain ⟨h, h3⟩ := bool_and h
        obtain ⟨h1, h2⟩ := bool_and h
        exact XM.val (x_pick (by have := hx.units; omega) (ckP_ok es hx h8) (ck_ok a hx h9) (noSl_of h1) h7 (dec_of h2) (fun z => by rw [z] at h3; cases h3) (dec_of h4) (dec_of h5) (dec_of h6)) rfl (dec_of h0)
  | .isin a t, S, X, m, e, hx, h => by
    rw [ck] at h
    have hh := bool_and h; clear h; obtain ⟨h0, h⟩ := hh
    cases hq : asCallN e with
    | none => rw [hq] at h; cases h
    | some q =>
      obtain ⟨x, es1⟩ := q
      rw [hq] at h
      match es1, h with
      | [a', t'], h =>
        obtain ⟨p, pos, rfl⟩ := asCallN_eq hq
        cases hq2 : asName t' with
        | none => simp only [hq2] at h; cases h
        | some y =>
          simp only [hq2] at h
          obtain ⟨p2, rfl⟩ := asName_eq hq2
          obtain ⟨h1, h6⟩ := bool_and h
          obtain ⟨h1, h5⟩ := bool_and h1
          obtain ⟨h1, h4⟩ := bool_and h1
          obtain ⟨h1, h3⟩ := bool_and h1
          obtain ⟨h1, h2⟩ := bool_and h1
          obtain rfl : x = "isinstance" := dec_of h1
          obtain rfl : y = tyN t := dec_of h2
          exact XM.val (x_isin t (hx.bo h3) (hx.bo h4) (ck_ok a hx h6) h5) rfl (dec_of h0)
      | [], h => cases h
      | [_], h => cases h
      | _ :: _ :: _ :: _, h => cases h
  | .comp vs el t it cond, S, X, m, e, hx, h => by
    rw [ck] at h
    cases hq : asComp e with
    | none => rw [hq] at h; cases h
    | some q =>
      obtain ⟨el', gs, sc⟩ := q
      rw [hq] at h
      obtain ⟨pos, rfl⟩ := asComp_eq hq
      split at h
      · rename_i heq
        cases heq
        obtain ⟨h, h8⟩ := bool_and h
        obtain ⟨h, h7⟩ := bool_and h
        obtain ⟨h, h6⟩ := bool_and h
        obtain ⟨h, h5⟩ := bool_and h
        obtain ⟨h, h4⟩ := bool_and h
        obtain ⟨h, h3⟩ := bool_and h
        obtain ⟨h1, h2⟩ := bool_and h
        have e1 := dec_of h1
        have B := blk_ok hx h2
        have e3 : ∀ i ∈ t.vars, i ∈ (ownOf S vs).map (·.2) := fun i hi => by rw [e1]; exact dec_of (List.all_eq_true.mp h3 i hi)
        have q := x_comp (pos := pos) hx.calm hx.nd (ckI_ok it hx h5) B e3 (fun s H C cl fp => ckTg_ok t (hx.blk B.kind s H C cl fp) h4) (fun s H C cl fp => ckIf_ok cond (hx.blk B.kind s H C cl fp) h7) (fun s H C cl fp => ck_ok el (hx.blk B.kind s H C cl fp) h8) (notSet_fold h6 _)
        rw [e1] at q
        exact XM.lst q rfl
      · cases h
  | .comp2 vs vs1 el t it cond t1 it1 cond1, S, X, m, e, hx, h => by
    rw [ck] at h
    cases hq : asComp e with
    | none => rw [hq] at h; cases h
    | some q =>
      obtain ⟨el', gs, sc⟩ := q
      rw [hq] at h
      obtain ⟨pos, rfl⟩ := asComp_eq hq
      split at h
      · rename_i heq
        cases heq
        obtain ⟨h, k8⟩ := bool_and h
        obtain ⟨h, k7⟩ := bool_and h
        obtain ⟨h, k6⟩ := bool_and h
        obtain ⟨h, k5⟩ := bool_and h
        obtain ⟨h, k4⟩ := bool_and h
        obtain ⟨h, h7⟩ := bool_and h
        obtain ⟨h, h6⟩ := bool_and h
        obtain ⟨h, h5⟩ := bool_and h
        obtain ⟨h, h4⟩ := bool_and h
        obtain ⟨h, k2⟩ := bool_and h
        obtain ⟨h, k1⟩ := bool_and h
        obtain ⟨h, h3⟩ := bool_and h
        obtain ⟨h1, h2⟩ := bool_and h
        have e1 := dec_of h1
        have B := blk_ok hx h2
        have e3 : ∀ i ∈ t.vars, i ∈ (ownOf S vs).map (·.2) := fun i hi => by rw [e1]; exact dec_of (List.all_eq_true.mp h3 i hi)
        have e4 : ∀ i ∈ t1.vars, i ∈ vs1 := fun i hi => dec_of (List.all_eq_true.mp k1 i hi)
        have e5 : ∀ i ∈ vs1, i ∈ (ownOf S vs).map (·.2) := fun i hi => by rw [e1]; exact dec_of (List.all_eq_true.mp k2 i hi)
        have q := x_comp2 (pos := pos) hx.calm hx.nd (ckI_ok it hx h5) B e3 e4 e5 (fun s H C cl fp => ckTg_ok t (hx.blk B.kind s H C cl fp) h4) (fun s H C cl fp => ckIf_ok cond (hx.blk B.kind s H C cl fp) h7)
          (fun s H C cl fp => ckI_ok it1 (hx.blk B.kind s H C cl fp) k5) (fun s H C cl fp => ckTg_ok t1 (hx.blk B.kind s H C cl fp) k4) (fun s H C cl fp => ckIf_ok cond1 (hx.blk B.kind s H C cl fp) k7) (fun s H C cl fp => ck_ok el (hx.blk B.kind s H C cl fp) k8) (notSet_fold h6 _) (notSet_fold k6)
        rw [e1] at q
        exact XM.lst q rfl
      · cases h
theorem ckL_ok : ∀ (es : List (Ex FN)) {S : SC FN} {X : Cx} {m : Md} {el : List Expr}, SX P k S X → ckL es S m el = true → (match m with
    | .vl => XA X WF el (evalEs (callK P k) es)
    | .br => XAb X WF el (evalEs (callK P k) es)
    | _ => True) ∧ el.all notStar = true
  | [], S, X, m, [], hx, h => ⟨by cases m <;> first | exact xa_nil | exact xab_nil | trivial, rfl⟩
  | [], S, X, m, _ :: _, hx, h => by simp [ckL] at h
  | _ :: _, S, X, m, [], hx, h => by simp [ckL] at h
  | x :: xs, S, X, m, e :: es, hx, h => by
    rw [ckL] at h
    obtain ⟨h, h3⟩ := bool_and h
    obtain ⟨h1, h2⟩ := bool_and h
    obtain ⟨q1, q2⟩ := ckL_ok xs hx h3
    have q := ck_ok x hx h2
    refine ⟨?_, by rw [List.all_cons, h1, q2]; rfl⟩
    cases m with
    | vl => exact xa_cons q q1 (star_cons h1)
    | br => exact xab_cons q q1 (star_cons h1)
    | ow => trivial
    | ts => trivial
theorem ckP_ok : ∀ (es : List (Ex FN)) {ks : List Str} {S : SC FN} {X : Cx} {keys : List (Option Expr)} {vals : List Expr} {dp : Pos}, SX P k S X → ckP es ks S keys vals = true → XPr X WF dp keys vals ks (evalEs (callK P k) es)
  | [], [], S, X, [], [], dp, hx, h => xpr_nil
  | [], [], S, X, _ :: _, _, dp, hx, h => by simp [ckP] at h
  | [], [], S, X, [], _ :: _, dp, hx, h => by simp [ckP] at h
  | [], _ :: _, S, X, _, _, dp, hx, h => by simp [ckP] at h
  | _ :: _, [], S, X, _, _, dp, hx, h => by simp [ckP] at h
  | _ :: _, _ :: _, S, X, [], _, dp, hx, h => by simp [ckP] at h
  | _ :: _, _ :: _, S, X, _ :: _, [], dp, hx, h => by simp [ckP] at h
  | x :: xs, k1 :: ks, S, X, key :: keys, v :: vals, dp, hx, h => by
    rw [ckP] at h
    obtain ⟨h, h3⟩ := bool_and h
    obtain ⟨h1, h2⟩ := bool_and h
    obtain ⟨j, p, rfl⟩ := asKey_eq (dec_of h1)
    exact xpr_cons (ck_ok x hx h2) (ckP_ok xs hx h3)
theorem ckO_ok : ∀ (o : Option (Ex FN)) {S : SC FN} {X : Cx} {e : Option Expr}, SX P k S X → ckO o S e = true → XP X WF e (evalO (callK P k) o)
  | none, S, X, none, hx, h => xp_none
  | none, S, X, some _, hx, h => by simp [ckO] at h
  | some _, S, X, none, hx, h => by simp [ckO] at h
  | some x, S, X, some e, hx, h => by
    rw [ckO] at h
    exact xp_some (ck_ok x hx h)
theorem ckIf_ok : ∀ (o : Option (Ex FN)) {S : SC FN} {X : Cx} {ifs : List Expr}, SX P k S X → ckIf o S ifs = true → XTs X WF ifs (condR (callK P k) o)
  | none, S, X, [], hx, h => xts_nil
  | none, S, X, _ :: _, hx, h => by simp [ckIf] at h
  | some _, S, X, [], hx, h => by simp [ckIf] at h
  | some _, S, X, _ :: _ :: _, hx, h => by simp [ckIf] at h
  | some x, S, X, [e], hx, h => by
    rw [ckIf] at h
    exact xts_one (ck_ok x hx h).1
theorem ckI_ok : ∀ (it : Ie FN) {S : SC FN} {X : Cx} {tg e : Expr}, SX P k S X → ckI it S tg e = true → XI X WF tg e (evalI (callK P k) it)
  | .seq x, S, X, tg, e, hx, h => by
    rw [ckI] at h
    exact xi_seq (ck_ok x hx h)
  | .range1 a, S, X, tg, e, hx, h => by
    rw [ckI] at h
    cases hq : asCallN e with
    | none => rw [hq] at h; cases h
    | some q =>
      obtain ⟨x, es1⟩ := q
      rw [hq] at h
      match es1, h with
      | [a'], h =>
        obtain ⟨p, pos, rfl⟩ := asCallN_eq hq
        obtain ⟨h, h4⟩ := bool_and h
        obtain ⟨h, h3⟩ := bool_and h
        obtain ⟨h1, h2⟩ := bool_and h
        obtain rfl : x = "range" := dec_of h1
        exact xi_range1 (hx.bo h2) (ck_ok a hx h4) h3
      | [], h => cases h
      | _ :: _ :: _, h => cases h
  | .range2 a b, S, X, tg, e, hx, h => by
    rw [ckI] at h
    cases hq : asCallN e with
    | none => rw [hq] at h; cases h
    | some q =>
      obtain ⟨x, es1⟩ := q
      rw [hq] at h
      match es1, h with
      | [a', b'], h =>
        obtain ⟨p, pos, rfl⟩ := asCallN_eq hq
        obtain ⟨h, h6⟩ := bool_and h
        obtain ⟨h, h5⟩ := bool_and h
        obtain ⟨h, h4⟩ := bool_and h
        obtain ⟨h, h3⟩ := bool_and h
        obtain ⟨h1, h2⟩ := bool_and h
        obtain rfl : x = "range" := dec_of h1
        exact xi_range2 (hx.bo h2) (ck_ok a hx h5) (ck_ok b hx h6) h3 h4
      | [], h => cases h
      | [_], h => cases h
      | _ :: _ :: _ :: _, h => cases h
  | .zip a b, S, X, tg, e, hx, h => by
    rw [ckI] at h
    have hh := bool_and h; clear h; obtain ⟨h0, h⟩ := hh
    obtain ⟨tl, ht⟩ := Option.isSome_iff_exists.mp h0
    obtain ⟨kk, tpos, rfl⟩ := asTup_eq ht
    cases hq : asCallN e with
    | none => rw [hq] at h; cases h
    | some q =>
      obtain ⟨x, es1⟩ := q
      rw [hq] at h
      match es1, h with
      | [a', b'], h =>
        obtain ⟨p, pos, rfl⟩ := asCallN_eq hq
        obtain ⟨h, h6⟩ := bool_and h
        obtain ⟨h, h5⟩ := bool_and h
        obtain ⟨h, h4⟩ := bool_and h
        obtain ⟨h, h3⟩ := bool_and h
        obtain ⟨h1, h2⟩ := bool_and h
        obtain rfl : x = "zip" := dec_of h1
        exact xi_zip (hx.bo h2) (ck_ok a hx h5) (ck_ok b hx h6) h3 h4
      | [], h => cases h
      | [_], h => cases h
      | _ :: _ :: _ :: _, h => cases h
  | .enum a, S, X, tg, e, hx, h => by
    rw [ckI] at h
    have hh := bool_and h; clear h; obtain ⟨h0, h⟩ := hh
    obtain ⟨tl, ht⟩ := Option.isSome_iff_exists.mp h0
    obtain ⟨kk, tpos, rfl⟩ := asTup_eq ht
    cases hq : asCallN e with
    | none => rw [hq] at h; cases h
    | some q =>
      obtain ⟨x, es1⟩ := q
      rw [hq] at h
      match es1, h with
      | [a'], h =>
        obtain ⟨p, pos, rfl⟩ := asCallN_eq hq
        obtain ⟨h, h4⟩ := bool_and h
        obtain ⟨h, h3⟩ := bool_and h
        obtain ⟨h1, h2⟩ := bool_and h
        obtain rfl : x = "enumerate" := dec_of h1
        exact xi_enum (hx.bo h2) (ck_ok a hx h4) h3
      | [], h => cases h
      | _ :: _ :: _, h => cases h
end
end
end PP

set_option Elab.async false
set_option linter.all false
set_option maxRecDepth 100000
/-! PP18: the checker of statements. -/
namespace PP
open PySem PySem.Spec PyProof.Rows L2

/-! ### which stores are swapped -/
def isLC : Expr → Bool
  | .ListComp _ _ _ _ => true
  | _ => false
def noSD : Expr → Bool
  | .SetComp _ _ _ _ => false
  | .DictComp _ _ _ _ _ => false
  | _ => true
section
variable {FN : Type} [DecidableEq FN] {P : FN → FnP FN} {k : Nat}
def swN (S : SC FN) (t : Str) (p : Pos) (e : Expr) : Bool := match e with
  | .ListComp _ _ sc pos => (S.names.lookup t == some NameKind.local) && p.line == pos.line && !(sc.names.any fun (n, k) => n == t && (k == .local || k == .cell))
  | _ => false
theorem bk_fn {X : Cx} (h : X.env.scope.kind = .function) : X.env.blockKind = .function := by
  unfold Env.blockKind
  rw [h]; rfl
theorem swN_ok {S : SC FN} {X : Cx} (hx : SX P k S X) {t : Str} {p : Pos} {e : Expr} {line : Nat} (h : noSD e = true) : swapsWith e (some (.Name t p)) line X.env = pure (swN S t p e) := by
  cases e <;> first | rfl | (cases h; done) | skip
  rename_i el gs sc pos
  show (pure (X.env.blockKind == .function && X.env.kindOf t == some .local && p.line == pos.line && !(sc.names.any fun (n, k) => n == t && (k == .local || k == .cell))) : Sem Bool) = _
  unfold Env.kindOf
  rw [bk_fn hx.kind, hx.sc]
  rfl
theorem swT_ok {env : PySem.Env} {tg e : Expr} {line : Nat} (h : noSD e = true) (hn : (asName tg).isNone = true) : swapsWithSole [tg] e line env = pure false := by
  show swapsWith e (some tg) line env = pure false
  cases e <;> first | rfl | (cases h; done) | skip
  cases tg <;> first | rfl | (simp [asName] at hn)
theorem swE_ok {env : PySem.Env} {e : Expr} {line : Nat} (h : noSD e = true) (h2 : isLC e = false) : swapsWith e none line env = pure false := by
  cases e <;> first | rfl | (cases h; done) | (cases h2; done)
def namesL (S : SC FN) (line : Nat) (ts : List Expr) : List Str := ts.filterMap fun
    | .Name id pos => if S.names.lookup id == some .local && pos.line == line then some id else none
    | _ => none
/-- stores from the right: no, or these names (none: not told) -/
def swS (S : SC FN) (tg e : Expr) : Option (Option (List Str)) := match tg, e with
  | .Tuple ts _ _, .Tuple vs _ _ =>
    if !(ts.length == 2 || ts.length == 3) || vs.length != ts.length then some none
    else if vs.any fun | .Starred .. => true | _ => false then some none
    else if (namesL S ((ts.head?.map (·.pos.line)).getD 0) ts).length != ts.length || (namesL S ((ts.head?.map (·.pos.line)).getD 0) ts).eraseDups.length != (namesL S ((ts.head?.map (·.pos.line)).getD 0) ts).length then some none
    else if vs.all (foldedForSure 8) then some none
    else if vs.all (constantsAlone 8) then none
    else some (some (namesL S ((ts.head?.map (·.pos.line)).getD 0) ts))
  | .List _ _, .Tuple _ _ _ => none
  | _, _ => some none
theorem namesL_eq {S : SC FN} {X : Cx} (hx : SX P k S X) {line : Nat} : ∀ (ts : List Expr), (ts.filterMap fun
    | .Name id pos => if X.env.kindOf id == some .local && pos.line == line then some id else none
    | _ => none) = namesL S line ts := by
  intro ts
  unfold namesL Env.kindOf
  rw [hx.sc]
theorem swS_ok {S : SC FN} {X : Cx} (hx : SX P k S X) {tg e : Expr} {o : Option (List Str)} (h : swS S tg e = some o) : swappedStores [tg] e X.env = pure o := by
  unfold swS at h
  split at h
  · rename_i ts kk p vs kk2 p2
    unfold swappedStores
    simp only [bk_fn hx.kind]
    split at h
    · cases h
      rename_i hc
      simp only [bne_self_eq_false, Bool.or_false, hc, if_true]
    · rename_i hc
      simp only [bne_self_eq_false, Bool.or_false]
      rw [if_neg hc]
      split at h
      · cases h
        rename_i hc2
        exact if_pos hc2
      · rename_i hc2
        refine (if_neg hc2).trans ?_
        have key : ∀ L : List Str, L = namesL S ((ts.head?.map (·.pos.line)).getD 0) ts → (if (L.length != ts.length || L.eraseDups.length != L.length) = true then pure none else if vs.all (foldedForSure 8) = true then pure none else if vs.all (constantsAlone 8) = true then (do unsupported "assign.tuple-of-constant-expressions:order-of-the-stores"; pure (some L)) else pure (some L) : Sem (Option (List Str))) = pure o := by
          rintro L rfl
          split at h
          · cases h
            rename_i hc3
            rw [if_pos hc3]
          · rename_i hc3
            rw [if_neg hc3]
            split at h
            · cases h
              rename_i hc4
              rw [if_pos hc4]
            · rename_i hc4
              rw [if_neg hc4]
              split at h
              · cases h
              · cases h
                rename_i hc5
                rw [if_neg hc5]
        exact key _ (namesL_eq hx ts)
  · cases h
  · cases h
    rename_i h1 h2
    cases tg <;> cases e <;> first | rfl | (exact absurd rfl (h1 _ _ _ _ _ _ rfl)) | (exact (h1 _ _ _ _ _ _ rfl rfl).elim) | (exact (h2 _ _ _ _ _ rfl rfl).elim)
/-! ### looks at statements -/
def asAsg : Stmt → Option (Expr × Expr)
  | .Assign [tg] e _ => some (tg, e)
  | _ => none
theorem asAsg_eq {st : Stmt} {tg e : Expr} (h : asAsg st = some (tg, e)) : ∃ pos, st = .Assign [tg] e pos := by
  unfold asAsg at h
  split at h <;> cases h
  exact ⟨_, rfl⟩
def asExp : Stmt → Option Expr
  | .Expr e _ => some e
  | _ => none
theorem asExp_eq {st : Stmt} {e : Expr} (h : asExp st = some e) : ∃ pos, st = .Expr e pos := by
  unfold asExp at h
  split at h <;> cases h
  exact ⟨_, rfl⟩
def asRet : Stmt → Option Expr
  | .Return (some e) _ => some e
  | _ => none
theorem asRet_eq {st : Stmt} {e : Expr} (h : asRet st = some e) : ∃ pos, st = .Return (some e) pos := by
  unfold asRet at h
  split at h <;> cases h
  exact ⟨_, rfl⟩
def asIfS : Stmt → Option (Expr × List Stmt × List Stmt)
  | .If c a b _ => some (c, a, b)
  | _ => none
theorem asIfS_eq {st : Stmt} {c : Expr} {a b : List Stmt} (h : asIfS st = some (c, a, b)) : ∃ pos, st = .If c a b pos := by
  unfold asIfS at h
  split at h <;> cases h
  exact ⟨_, rfl⟩
def asFor : Stmt → Option (Expr × Expr × List Stmt)
  | .For tg it b [] _ => some (tg, it, b)
  | _ => none
theorem asFor_eq {st : Stmt} {c a : Expr} {b : List Stmt} (h : asFor st = some (c, a, b)) : ∃ pos, st = .For c a b [] pos := by
  unfold asFor at h
  split at h <;> cases h
  exact ⟨_, rfl⟩
def asWhl : Stmt → Option (Expr × List Stmt)
  | .While c b [] _ => some (c, b)
  | _ => none
theorem asWhl_eq {st : Stmt} {c : Expr} {b : List Stmt} (h : asWhl st = some (c, b)) : ∃ pos, st = .While c b [] pos := by
  unfold asWhl at h
  split at h <;> cases h
  exact ⟨_, rfl⟩
def asAddPop : Expr → Option (Str × Str × Expr)
  | .BinOp (.Name y _) .Add (.Tuple [.Call (.Attribute (.Name x _) m apos) [e] [] cpos] _ _) _ => if apos.endLine == cpos.line && decide (m = "pop") then some (y, x, e) else none
  | _ => none
theorem asAddPop_eq {z e : Expr} {x y : Str} (h : asAddPop z = some (y, x, e)) : ∃ pk2 p apos cpos tk tpos opos, z = .BinOp (.Name y pk2) .Add (.Tuple [.Call (.Attribute (.Name x p) "pop" apos) [e] [] cpos] tk tpos) opos ∧ (apos.endLine == cpos.line) = true := by
  unfold asAddPop at h
  split at h
  · split at h
    · rename_i hq
      cases h
      rw [Bool.and_eq_true] at hq
      obtain ⟨h1, h2⟩ := hq
      have h3 := of_decide_eq_true h2
      subst h3
      exact ⟨_, _, _, _, _, _, _, rfl, h1⟩
    · cases h
  · cases h
/-- a method of a name, on one line -/
def asMth : Expr → Option (Str × Str × List Expr)
  | .Call (.Attribute (.Name x _) m apos) es [] cpos => if apos.endLine == cpos.line then some (x, m, es) else none
  | _ => none
theorem asMth_eq {e : Expr} {x m : Str} {es : List Expr} (h : asMth e = some (x, m, es)) : ∃ p apos cpos, e = .Call (.Attribute (.Name x p) m apos) es [] cpos ∧ (apos.endLine == cpos.line) = true := by
  unfold asMth at h
  split at h
  · split at h <;> cases h
    exact ⟨_, _, _, rfl, by assumption⟩
  · cases h
def asNameP : Expr → Option (Str × Pos)
  | .Name x p => some (x, p)
  | _ => none
theorem asNameP_eq {e : Expr} {x : Str} {p : Pos} (h : asNameP e = some (x, p)) : e = .Name x p := by
  unfold asNameP at h
  split at h <;> cases h
  rfl
theorem asNameP_no {e : Expr} (h : asNameP e = none) : (asName e).isNone = true := by
  cases e <;> first | rfl | (simp [asNameP] at h)
def asPar : Expr → Expr → Option (Str × Str × Expr × Expr)
  | .Tuple [.Name x _, .Name y _] _ _, .Tuple [a, b] _ _ => some (x, y, a, b)
  | _, _ => none
theorem asPar_eq {tg e : Expr} {x y : Str} {a b : Expr} (h : asPar tg e = some (x, y, a, b)) : ∃ px py kt pt k2 pt2, tg = .Tuple [.Name x px, .Name y py] kt pt ∧ e = .Tuple [a, b] k2 pt2 := by
  unfold asPar at h
  split at h <;> cases h
  exact ⟨_, _, _, _, _, _, rfl, rfl⟩
def asCupT : Expr → Option (Str × Int)
  | .Subscript (.Name x _) (.Constant (.int j) _ _) _ => some (x, j)
  | _ => none
theorem asCupT_eq {e : Expr} {x : Str} {j : Int} (h : asCupT e = some (x, j)) : ∃ p jj cp p2, e = .Subscript (.Name x p) (.Constant (.int j) jj cp) p2 := by
  unfold asCupT at h
  split at h <;> cases h
  exact ⟨_, _, _, _, rfl⟩
def isComp : Ex FN → Bool
  | .comp _ _ _ _ _ => true
  | .comp2 _ _ _ _ _ _ _ _ _ => true
  | _ => false
def mdOf (o : Bool) : Md := if o then .ow else .vl
mutual
def ckS : Sm FN → SC FN → Stmt → Bool
  | .bad, _, _ => true
  | .asg t e, S, st => (match asAsg st with
    | some (tg, e') => noSD e' && notStar tg && ckTg t S tg && ck e S .vl e' && (match asNameP tg with
      | some (x, p) => !swN S x p e' || isComp e
      | none => decide (swS S tg e' = some none))
    | none => false)
  | .own i e, S, st => (match asAsg st with
    | some (tg, e') => noSD e' && ck e S .ow e' && (match asNameP tg with
      | some (x, p) => S.sto i x && (!swN S x p e' || isComp e)
      | none => false)
    | none => false)
  | .par oi i a oj j b, S, st => (match asAsg st with
    | some (tg, e') => (match asPar tg e' with
      | some (x, y, a', b') => decide (swS S tg e' = some (some [x, y])) && decide (S.N[i]? = some x) && decide (S.N[j]? = some y) && decide (i ≠ j) && decide (S.names.lookup x = some .local) && decide (S.names.lookup y = some .local) &&
          notStar a' && notStar b' && ck a S (mdOf oi) a' && ck b S (mdOf oj) b'
      | none => false)
    | none => false)
  | .frz _, _, _ => false
  | .app i e, S, st => (match asExp st with
    | some e' => (match asMth e' with
      | some (x, m, [a']) => decide (m = "append") && S.loc i x && notStar a' && ck e S .vl a'
      | _ => false)
    | none => false)
  | .popS t i none, S, st => (match asAsg st with
    | some (tg, e') => (match asMth e' with
      | some (x, m, []) => decide (m = "pop") && S.loc i x && notStar tg && ckTg t S tg
      | _ => false)
    | none => false)
  | .popS t i (some e), S, st => (match asAsg st with
    | some (tg, e') => (match asMth e' with
      | some (x, m, [a']) => decide (m = "pop") && S.loc i x && notStar tg && ckTg t S tg && notStar a' && ck e S .vl a'
      | _ => false)
    | none => false)
  | .setD _ _ _, _, _ => false
  | .setC i j e, S, st => (match asAsg st with
    | some (tg, e') => (match asCupT tg with
      | some (x, j') => decide (j' = (j : Int)) && S.loc i x && noSD e' && ck e S .vl e'
      | none => false)
    | none => false)
  | .ife t a b, S, st => (match asIfS st with
    | some (t', a', b') => ck t S .ts t' && ckSs a S a' && ckSs b S b'
    | none => false)
  | .fr t it b, S, st => (match asFor st with
    | some (tg, it', b') => ckTg t S tg && ckI it S tg it' && notSet it' && ckSs b S b'
    | none => false)
  | .whl t b, S, st => (match asWhl st with
    | some (t', b') => ck t S .ts t' && ckSs b S b'
    | none => false)
  | .ret e, S, st => (match asRet st with
    | some e' => ck e S .vl e'
    | none => false)
  | .retCup es, S, st => (match asRet st with
    | some e' => (match asLst e' with
      | some es' => ckL es S .vl es'
      | none => false)
    | none => false)
  | .addPop k i e, S, st => (match asAsg st with
    | some (tg, e') => (match asNameP tg with
      | some (y, _) => (match asAddPop e' with
        | some (y', x, a') => decide (y' = y) && S.loc k y && S.loc i x && S.sto k y && notStar a' && ck e S .vl a'
        | none => false)
      | none => false)
    | none => false)
  | .rse _, _, _ => false
  | .exp e, S, st => (match asExp st with
    | some e' => noSD e' && !isLC e' && ck e S .vl e'
    | none => false)
def ckSs : List (Sm FN) → SC FN → List Stmt → Bool
  | [], _, [] => true
  | .bad :: _, _, _ => true
  | .frz is :: r, S, sts => ckSs r S sts
  | s :: r, S, st :: sts => ckS s S st && ckSs r S sts
  | _, _, _ => false
end
end
end PP

set_option Elab.async false
set_option linter.all false
set_option maxRecDepth 100000
/-! PP19: the checker of statements is right. -/
namespace PP
open PySem PySem.Spec PyProof.Rows L2

section
variable {X : Cx} {W : WX} {ev : Ev}
theorem tO_of_own {σ : L2.St} {H : Hp} {Q : VK} (q : tO (wd X) X.mg W (ownG ev) σ H Q) : tO (wd X) X.mg W ev σ H Q := by
  obtain ⟨g, env, c, B, er, hr, gd⟩ := q
  refine ⟨g, env, c, B, er, hr, ?_⟩
  have gd : GoodR (wd X) X.mg W g H σ _ (ownG ev env c) := gd
  unfold ownG at gd
  cases hx : ev env c with
  | ok z c1 =>
    rw [hx] at gd
    obtain ⟨y, ey, ky⟩ := GoodR.pure (o := ownO (some z)) gd
    cases (ownO_some ey).1
    exact ky
  | exc cl arg c1 => rw [hx] at gd; exact gd
  | stuck => rw [hx] at gd; exact gd
theorem tO_of_val {σ : L2.St} {H : Hp} {Q : VK} (q : tE (wd X) X.mg W ev σ H Q) : tO (wd X) X.mg W ev σ H Q := by
  obtain ⟨g, env, c, B, er, hr, gd⟩ := q
  refine ⟨g, env, c, B, er, hr, ?_⟩
  cases hx : ev env c with
  | ok p c' =>
    rw [hx] at gd
    intro g' H' x hr' a na nf nc o
    obtain ⟨u, eu, r⟩ := o.rp nf
    exact gd (g'.put a u) H' (x.freeze nf na) (hr'.freeze eu nf nc) (.ref a) r
  | exc cl arg c' => rw [hx] at gd; exact gd
  | stuck => rw [hx] at gd; exact gd
theorem slotR_false {x : R PV} {env : Env} {i : Nat} : ((slotR false x).st env fun s c => SR.nx (env.set i s) c) = x.st env fun v c => optS (bindT (.name i) v env) c := by
  cases x <;> rfl
end
section
variable {FN : Type} [DecidableEq FN] {P : FN → FnP FN} {k : Nat}
/-- name = [..], the name a local of this line -/
theorem comp_set {S : SC FN} {X : Cx} {vs : List Nat} {el : Ex FN} {t : Tg} {it : Ie FN} {cond : Option (Ex FN)} {m : Md} {e : Expr} (hx : SX P k S X) (h : ck (.comp vs el t it cond) S m e = true) {i : Nat} {y : Str} {py spos : Pos} (hy : X.N[i]? = some y) (hyl : X.env.scope.names.lookup y = some .local)
    (hsw : swapsWith e (some (.Name y py)) spos.line X.env = pure true) : ∃ te, L2.PS X (.Assign [.Name y py] e spos) (tAsg te (gName i)) ∧ ∀ σ H Q, tO (wd X) X.mg WF (evalE (callK P k) (.comp vs el t it cond)) σ H Q → te σ H Q := by
  rw [ck] at h
  cases hq : asComp e with
  | none => rw [hq] at h; cases h
  | some q =>
    obtain ⟨el', gs, sc⟩ := q
    rw [hq] at h
    obtain ⟨pos, rfl⟩ := asComp_eq hq
    split at h
    · rename_i heq
      cases heq
      obtain ⟨h, h8⟩ := bool_and h
      obtain ⟨h, h7⟩ := bool_and h
      obtain ⟨h, h6⟩ := bool_and h
      obtain ⟨h, h5⟩ := bool_and h
      obtain ⟨h, h4⟩ := bool_and h
      obtain ⟨h, h3⟩ := bool_and h
      obtain ⟨h1, h2⟩ := bool_and h
      have e1 := dec_of h1
      have B := blk_ok hx h2
      have e3 : ∀ i ∈ t.vars, i ∈ (ownOf S vs).map (·.2) := fun i hi => by rw [e1]; exact dec_of (List.all_eq_true.mp h3 i hi)
      refine ⟨_, ps_setLc hx.calm hx.nd hy hyl hsw (ckI_ok it hx h5) B (fun s H C cl fp => ckTg_ok t (hx.blk B.kind s H C cl fp) h4) (fun s H C cl fp => ckIf_ok cond (hx.blk B.kind s H C cl fp) h7) (fun s H C cl fp => (show XE' (X.blk s H sc (compEnvC sc cl C X.env) fp) WF el' (evalE (callK P k) el) from ck_ok el (hx.blk B.kind s H C cl fp) h8)) (notSet_fold h6 _), fun σ H Q q => tLc_read e3 ?_⟩
      rw [e1]; exact q
    · cases h
theorem comp2_set {S : SC FN} {X : Cx} {vs vs1 : List Nat} {el : Ex FN} {t t1 : Tg} {it it1 : Ie FN} {cond cond1 : Option (Ex FN)} {m : Md} {e : Expr} (hx : SX P k S X) (h : ck (.comp2 vs vs1 el t it cond t1 it1 cond1) S m e = true) {i : Nat} {y : Str} {py spos : Pos} (hy : X.N[i]? = some y) (hyl : X.env.scope.names.lookup y = some .local)
    (hsw : swapsWith e (some (.Name y py)) spos.line X.env = pure true) : ∃ te, L2.PS X (.Assign [.Name y py] e spos) (tAsg te (gName i)) ∧ ∀ σ H Q, tO (wd X) X.mg WF (evalE (callK P k) (.comp2 vs vs1 el t it cond t1 it1 cond1)) σ H Q → te σ H Q := by
  rw [ck] at h
  cases hq : asComp e with
  | none => rw [hq] at h; cases h
  | some q =>
    obtain ⟨el', gs, sc⟩ := q
    rw [hq] at h
    obtain ⟨pos, rfl⟩ := asComp_eq hq
    split at h
    · rename_i heq
      cases heq
      obtain ⟨h, k8⟩ := bool_and h
      obtain ⟨h, k7⟩ := bool_and h
      obtain ⟨h, k6⟩ := bool_and h
      obtain ⟨h, k5⟩ := bool_and h
      obtain ⟨h, k4⟩ := bool_and h
      obtain ⟨h, h7⟩ := bool_and h
      obtain ⟨h, h6⟩ := bool_and h
      obtain ⟨h, h5⟩ := bool_and h
      obtain ⟨h, h4⟩ := bool_and h
      obtain ⟨h, k2⟩ := bool_and h
      obtain ⟨h, k1⟩ := bool_and h
      obtain ⟨h, h3⟩ := bool_and h
      obtain ⟨h1, h2⟩ := bool_and h
      have e1 := dec_of h1
      have B := blk_ok hx h2
      have e3 : ∀ i ∈ t.vars, i ∈ (ownOf S vs).map (·.2) := fun i hi => by rw [e1]; exact dec_of (List.all_eq_true.mp h3 i hi)
      have e4 : ∀ i ∈ t1.vars, i ∈ vs1 := fun i hi => dec_of (List.all_eq_true.mp k1 i hi)
      have e5 : ∀ i ∈ vs1, i ∈ (ownOf S vs).map (·.2) := fun i hi => by rw [e1]; exact dec_of (List.all_eq_true.mp k2 i hi)
      refine ⟨_, ps_setLc2 hx.calm hx.nd hy hyl hsw (ckI_ok it hx h5) B e5 (fun s H C cl fp => ckTg_ok t (hx.blk B.kind s H C cl fp) h4) (fun s H C cl fp => ckIf_ok cond (hx.blk B.kind s H C cl fp) h7)
          (fun s H C cl fp => ckI_ok it1 (hx.blk B.kind s H C cl fp) k5) (fun s H C cl fp => ckTg_ok t1 (hx.blk B.kind s H C cl fp) k4) (fun s H C cl fp => ckIf_ok cond1 (hx.blk B.kind s H C cl fp) k7) (fun s H C cl fp => (show XE' (X.blk s H sc (compEnvC sc cl C X.env) fp) WF el' (evalE (callK P k) el) from ck_ok el (hx.blk B.kind s H C cl fp) k8)) (notSet_fold h6 _) (notSet_fold k6), fun σ H Q q => tLc2_read e3 e4 e5 ?_⟩
      rw [e1]; exact q
    · cases h
/-- name = e, in both ways -/
theorem slot_set {S : SC FN} {X : Cx} {ex : Ex FN} {o : Bool} {e : Expr} {i : Nat} {x : Str} {p pos : Pos} (hx : SX P k S X) (hs : S.sto i x = true) (hn : noSD e = true) (he : ck ex S (mdOf o) e = true) (hw : (!swN S x p e || isComp ex) = true) :
    XS X WF (.Assign [.Name x p] e pos) (fun env c => (slotR o (evalE (callK P k) ex env c)).st env fun s c => .nx (env.set i s) c) := by
  have hsto := hs
  unfold SC.sto at hs
  simp only [Bool.and_eq_true, Bool.or_eq_true, decide_eq_true_eq] at hs
  obtain ⟨h1, h2⟩ := hs
  have hy : X.N[i]? = some x := by rw [hx.N]; exact h1
  cases hsw : swN S x p e with
  | true =>
    rw [hsw] at hw
    have hq : swapsWith e (some (.Name x p)) pos.line X.env = pure true := by rw [swN_ok hx hn, hsw]
    have hl : X.env.scope.names.lookup x = some .local := by
      rw [hx.sc]
      unfold swN at hsw
      split at hsw
      · simp only [Bool.and_eq_true] at hsw
        have := hsw.1.1
        simpa using this
      · cases hsw
    have main : ∃ te, L2.PS X (.Assign [.Name x p] e pos) (tAsg te (gName i)) ∧ ∀ σ H Q, tO (wd X) X.mg WF (evalE (callK P k) ex) σ H Q → te σ H Q := by
      cases ex <;> first | exact comp_set hx he hy hl hq | exact comp2_set hx he hy hl hq | (simp [isComp] at hw; done)
    obtain ⟨te, h3, h4⟩ := main
    refine xs_set h3 fun σ H Q q => h4 σ H Q ?_
    cases o with
    | true => exact tO_of_own (tSl_own q)
    | false => exact tO_of_val (tSl_val q)
  | false =>
    have hq : swapsWith e (some (.Name x p)) pos.line X.env = pure false := by rw [swN_ok hx hn, hsw]
    have hsl : XSl X WF o e (evalE (callK P k) ex) := by
      cases o with
      | true => exact xsl_own (ck_ok ex hx he)
      | false => exact xsl_val (ck_ok ex hx he)
    refine xs_set (ps_set hx.nd hy ?_ hsl hq ?_) fun σ H Q q => q
    · unfold L2.Loc
      rw [hx.sc]
      rcases h2 with q | q
      · exact .inl q
      · exact .inr q.1
    · rw [hx.sc]
      rcases h2 with q | q
      · exact .inr q
      · exact .inl (hx.fnc x q.2)
theorem ckTg_name {S : SC FN} {t : Tg} {x : Str} {p : Pos} (h : ckTg t S (.Name x p) = true) : ∃ i, t = .name i ∧ S.sto i x = true := by
  cases t with
  | name i => rw [ckTg] at h; exact ⟨i, rfl, h⟩
  | tup ts => rw [ckTg] at h; cases h
theorem swS_other {S : SC FN} {tg e : Expr} (h : (asTup e).isNone = true) : swS S tg e = some none := by
  unfold swS
  split
  · simp [asTup] at h
  · simp [asTup] at h
  · rfl
mutual
theorem ckS_ok : ∀ (s : Sm FN) {S : SC FN} {X : Cx} {st : Stmt}, SX P k S X → ckS s S st = true → XS X WF st (execS (callK P k) s)
  | .bad, S, X, st, hx, h => xs_bad
  | .asg t e, S, X, st, hx, h => by
    rw [ckS] at h
    cases hq : asAsg st with
    | none => rw [hq] at h; cases h
    | some q =>
      obtain ⟨tg, e'⟩ := q
      rw [hq] at h
      obtain ⟨pos, rfl⟩ := asAsg_eq hq
      obtain ⟨h, h5⟩ := bool_and h
      obtain ⟨h, h4⟩ := bool_and h
      obtain ⟨h, h3⟩ := bool_and h
      obtain ⟨h1, h2⟩ := bool_and h
      cases hp : asNameP tg with
      | some q =>
        obtain ⟨x, p⟩ := q
        rw [hp] at h5
        have e1 := asNameP_eq hp
        subst e1
        obtain ⟨i, rfl, hs⟩ := ckTg_name h3
        have q := slot_set (o := false) (pos := pos) hx hs h1 h4 h5
        have e2 : (fun (env : Env) (c : List PV) => (slotR false (evalE (callK P k) e env c)).st env fun s c => SR.nx (env.set i s) c) = execS (callK P k) (.asg (.name i) e) := by
          funext env c
          rw [slotR_false]; rfl
        rw [e2] at q
        exact q
      | none =>
        rw [hp] at h5
        exact xs_asg (ck_ok e hx h4) (ckTg_ok t hx h3) (swT_ok h1 (asNameP_no hp)) (swS_ok hx (dec_of h5)) h2
  | .own i e, S, X, st, hx, h => by
    rw [ckS] at h
    cases hq : asAsg st with
    | none => rw [hq] at h; cases h
    | some q =>
      obtain ⟨tg, e'⟩ := q
      rw [hq] at h
      obtain ⟨pos, rfl⟩ := asAsg_eq hq
      obtain ⟨h, h3⟩ := bool_and h
      obtain ⟨h1, h2⟩ := bool_and h
      cases hp : asNameP tg with
      | none => rw [hp] at h3; cases h3
      | some q =>
        obtain ⟨x, p⟩ := q
        rw [hp] at h3
        have e1 := asNameP_eq hp
        subst e1
        obtain ⟨h3, h4⟩ := bool_and h3
        exact slot_set (o := true) hx h3 h1 h2 h4
  | .par oi i a oj j b, S, X, st, hx, h => by
    rw [ckS] at h
    cases hq : asAsg st with
    | none => rw [hq] at h; cases h
    | some q =>
      obtain ⟨tg, e'⟩ := q
      rw [hq] at h
      cases hp : asPar tg e' with
      | none => simp only [hp] at h; cases h
      | some q =>
        obtain ⟨x, y, a', b'⟩ := q
        simp only [hp] at h
        obtain ⟨pos, rfl⟩ := asAsg_eq hq
        obtain ⟨px, py, kt, pt, k2, pt2, rfl, rfl⟩ := asPar_eq hp
        obtain ⟨h, h10⟩ := bool_and h
        obtain ⟨h, h9⟩ := bool_and h
        obtain ⟨h, h8⟩ := bool_and h
        obtain ⟨h, h7⟩ := bool_and h
        obtain ⟨h, h6⟩ := bool_and h
        obtain ⟨h, h5⟩ := bool_and h
        obtain ⟨h, h4⟩ := bool_and h
        obtain ⟨h, h3⟩ := bool_and h
        obtain ⟨h1, h2⟩ := bool_and h
        refine xs_par hx.calm hx.nd (by rw [hx.N]; exact dec_of h2) (by rw [hx.N]; exact dec_of h3) (dec_of h4) (by rw [hx.sc]; exact dec_of h5) (by rw [hx.sc]; exact dec_of h6) ?_ ?_ h7 h8 (swS_ok hx (dec_of h1))
        · cases oi with
          | true => exact xsl_own (ck_ok a hx h9)
          | false => exact xsl_val (ck_ok a hx h9)
        · cases oj with
          | true => exact xsl_own (ck_ok b hx h10)
          | false => exact xsl_val (ck_ok b hx h10)
  | .frz _, S, X, st, hx, h => by rw [ckS] at h; cases h
  | .app i e, S, X, st, hx, h => by
    rw [ckS] at h
    cases hq : asExp st with
    | none => rw [hq] at h; cases h
    | some e' =>
      rw [hq] at h
      obtain ⟨pos, rfl⟩ := asExp_eq hq
      cases hp : asMth e' with
      | none => simp only [hp] at h; cases h
      | some q =>
        obtain ⟨x, m, es⟩ := q
        simp only [hp] at h
        match es, h with
        | [a'], h =>
          obtain ⟨p, apos, cpos, rfl, hline⟩ := asMth_eq hp
          obtain ⟨h, h4⟩ := bool_and h
          obtain ⟨h, h3⟩ := bool_and h
          obtain ⟨h1, h2⟩ := bool_and h
          obtain rfl : m = "append" := dec_of h1
          exact xs_app (hx.var h2) (ck_ok e hx h4) h3 hline
        | [], h => cases h
        | _ :: _ :: _, h => cases h
  | .popS t i none, S, X, st, hx, h => by
    rw [ckS] at h
    cases hq : asAsg st with
    | none => rw [hq] at h; cases h
    | some q =>
      obtain ⟨tg, e'⟩ := q
      rw [hq] at h
      obtain ⟨pos, rfl⟩ := asAsg_eq hq
      cases hp : asMth e' with
      | none => simp only [hp] at h; cases h
      | some q =>
        obtain ⟨x, m, es⟩ := q
        simp only [hp] at h
        match es, h with
        | [], h =>
          obtain ⟨p, apos, cpos, rfl, hline⟩ := asMth_eq hp
          obtain ⟨h, h4⟩ := bool_and h
          obtain ⟨h, h3⟩ := bool_and h
          obtain ⟨h1, h2⟩ := bool_and h
          obtain rfl : m = "pop" := dec_of h1
          exact xs_pop0 (hx.var h2) (ckTg_ok t hx h4) h3 hline rfl (swS_ok hx (swS_other rfl))
        | _ :: _, h => cases h
  | .popS t i (some e), S, X, st, hx, h => by
    rw [ckS] at h
    cases hq : asAsg st with
    | none => rw [hq] at h; cases h
    | some q =>
      obtain ⟨tg, e'⟩ := q
      rw [hq] at h
      obtain ⟨pos, rfl⟩ := asAsg_eq hq
      cases hp : asMth e' with
      | none => simp only [hp] at h; cases h
      | some q =>
        obtain ⟨x, m, es⟩ := q
        simp only [hp] at h
        match es, h with
        | [a'], h =>
          obtain ⟨p, apos, cpos, rfl, hline⟩ := asMth_eq hp
          obtain ⟨h, h6⟩ := bool_and h
          obtain ⟨h, h5⟩ := bool_and h
          obtain ⟨h, h4⟩ := bool_and h
          obtain ⟨h, h3⟩ := bool_and h
          obtain ⟨h1, h2⟩ := bool_and h
          obtain rfl : m = "pop" := dec_of h1
          exact xs_pop1 (hx.var h2) (ck_ok e hx h6) h5 (ckTg_ok t hx h4) h3 hline rfl (swS_ok hx (swS_other rfl))
        | [], h => cases h
        | _ :: _ :: _, h => cases h
  | .setD _ _ _, S, X, st, hx, h => by rw [ckS] at h; cases h
  | .setC i j e, S, X, st, hx, h => by
    rw [ckS] at h
    cases hq : asAsg st with
    | none => rw [hq] at h; cases h
    | some q =>
      obtain ⟨tg, e'⟩ := q
      rw [hq] at h
      obtain ⟨pos, rfl⟩ := asAsg_eq hq
      cases hp : asCupT tg with
      | none => simp only [hp] at h; cases h
      | some q =>
        obtain ⟨x, j'⟩ := q
        simp only [hp] at h
        obtain ⟨h, h4⟩ := bool_and h
        obtain ⟨h, h3⟩ := bool_and h
        obtain ⟨h1, h2⟩ := bool_and h
        obtain rfl : j' = (j : Int) := dec_of h1
        obtain ⟨p, jj, cp, p2, rfl⟩ := asCupT_eq hp
        exact xs_setC (hx.var h2) (ck_ok e hx h4) (swT_ok h3 rfl)
  | .ife t a b, S, X, st, hx, h => by
    rw [ckS] at h
    cases hq : asIfS st with
    | none => rw [hq] at h; cases h
    | some q =>
      obtain ⟨t', a', b'⟩ := q
      rw [hq] at h
      obtain ⟨pos, rfl⟩ := asIfS_eq hq
      obtain ⟨h, h3⟩ := bool_and h
      obtain ⟨h1, h2⟩ := bool_and h
      exact xs_if (ck_ok t hx h1).1 (ckSs_ok a hx h2) (ckSs_ok b hx h3)
  | .fr t it b, S, X, st, hx, h => by
    rw [ckS] at h
    cases hq : asFor st with
    | none => rw [hq] at h; cases h
    | some q =>
      obtain ⟨tg, it', b'⟩ := q
      rw [hq] at h
      obtain ⟨pos, rfl⟩ := asFor_eq hq
      obtain ⟨h, h4⟩ := bool_and h
      obtain ⟨h, h3⟩ := bool_and h
      obtain ⟨h1, h2⟩ := bool_and h
      exact xs_for hx.own hx.calm (ckI_ok it hx h2) (ckTg_ok t hx h1) (ckSs_ok b hx h4) (notSet_fold h3 _)
  | .whl t b, S, X, st, hx, h => by
    rw [ckS] at h
    cases hq : asWhl st with
    | none => rw [hq] at h; cases h
    | some q =>
      obtain ⟨t', b'⟩ := q
      rw [hq] at h
      obtain ⟨pos, rfl⟩ := asWhl_eq hq
      obtain ⟨h1, h2⟩ := bool_and h
      exact xs_while hx.own (ck_ok t hx h1).1 (ckSs_ok b hx h2)
  | .ret e, S, X, st, hx, h => by
    rw [ckS] at h
    cases hq : asRet st with
    | none => rw [hq] at h; cases h
    | some e' =>
      rw [hq] at h
      obtain ⟨pos, rfl⟩ := asRet_eq hq
      exact xs_ret (ck_ok e hx h)
  | .retCup es, S, X, st, hx, h => by
    rw [ckS] at h
    cases hq : asRet st with
    | none => rw [hq] at h; cases h
    | some e' =>
      rw [hq] at h
      obtain ⟨pos, rfl⟩ := asRet_eq hq
      cases hp : asLst e' with
      | none => simp only [hp] at h; cases h
      | some es' =>
        simp only [hp] at h
        obtain ⟨p, rfl⟩ := asLst_eq hp
        exact xs_retCup (ckL_ok es hx h).1
  | .addPop kk i e, S, X, st, hx, h => by
    rw [ckS] at h
    cases hq : asAsg st with
    | none => rw [hq] at h; cases h
    | some q =>
      obtain ⟨tg, e'⟩ := q
      rw [hq] at h
      obtain ⟨pos, rfl⟩ := asAsg_eq hq
      cases hp : asNameP tg with
      | none => simp only [hp] at h; cases h
      | some q =>
        obtain ⟨y, pk1⟩ := q
        simp only [hp] at h
        have e1 := asNameP_eq hp
        subst e1
        cases hr : asAddPop e' with
        | none => simp only [hr] at h; cases h
        | some q =>
          obtain ⟨y', x, a'⟩ := q
          simp only [hr] at h
          obtain ⟨pk2, p, apos, cpos, tk, tpos, opos, rfl, hline⟩ := asAddPop_eq hr
          obtain ⟨h, h6⟩ := bool_and h
          obtain ⟨h, h5⟩ := bool_and h
          obtain ⟨h, h4⟩ := bool_and h
          obtain ⟨h, h3⟩ := bool_and h
          obtain ⟨h1, h2⟩ := bool_and h
          obtain rfl : y' = y := dec_of h1
          exact xs_addPop (hx.var h2) (hx.var h3) (ck_ok e hx h6) h5 (hx.sto h4) hline rfl
  | .rse _, S, X, st, hx, h => by rw [ckS] at h; cases h
  | .exp e, S, X, st, hx, h => by
    rw [ckS] at h
    cases hq : asExp st with
    | none => rw [hq] at h; cases h
    | some e' =>
      rw [hq] at h
      obtain ⟨pos, rfl⟩ := asExp_eq hq
      obtain ⟨h, h3⟩ := bool_and h
      obtain ⟨h1, h2⟩ := bool_and h
      exact xs_exp (ck_ok e hx h3) (swE_ok h1 (by simpa using h2))
theorem ckSs_ok : ∀ (ss : List (Sm FN)) {S : SC FN} {X : Cx} {sts : List Stmt}, SX P k S X → ckSs ss S sts = true → XSs X WF sts (execSs (callK P k) ss)
  | [], S, X, [], hx, h => xss_nil
  | [], S, X, _ :: _, hx, h => by simp [ckSs] at h
  | s :: r, S, X, sts, hx, h => by
    have gen : ∀ st rest, sts = st :: rest → ckS s S st = true → ckSs r S rest = true → XSs X WF sts (execSs (callK P k) (s :: r)) := fun st rest e h1 h2 => by
      subst e
      exact xss_cons (ckS_ok s hx h1) (ckSs_ok r hx h2)
    cases s with
    | bad => exact xss_bad
    | frz is =>
      rw [ckSs] at h
      exact xss_frz' is (ckSs_ok r hx h)
    | _ =>
      cases sts with
      | nil => simp [ckSs] at h
      | cons st rest =>
        rw [ckSs] at h
        · obtain ⟨h1, h2⟩ := bool_and h
          exact gen st rest rfl h1 h2
        all_goals (intros; simp_all)
end
end
end PP

set_option Elab.async false
set_option linter.all false
set_option maxRecDepth 100000
/-! PP20: a table of defs; the law's own. -/
namespace PP
open PySem PySem.Spec PyProof.Rows L2

/-- one def -/
structure FE where
  x : Str
  params : Arguments
  body : List Stmt
  scope : Scope
  N : List Str
  ps : List Str
def FE.d (f : FE) : He.DefD := ⟨(f.x, none), f.x, f.x, f.params, f.body, f.scope, [], []⟩
def fnIx (T : List FE) (x : Str) : Option Nat := T.findIdx? fun f => decide (f.x = x)
theorem fnIx_get {T : List FE} {x : Str} {i : Nat} (h : fnIx T x = some i) : ∃ f, T[i]? = some f ∧ f.x = x := by
  unfold fnIx at h
  rw [List.findIdx?_eq_some_iff_getElem] at h
  obtain ⟨hl, hp, _⟩ := h
  exact ⟨T[i], List.getElem?_eq_getElem hl, of_decide_eq_true hp⟩
def FE.sc (f : FE) (T : List FE) (blt : Str → Bool) (con : Str → Option PV) : SC Nat := ⟨f.N, f.scope.names, fun _ => true, fnIx T, blt, con⟩
def scB (N P : List Str) (sc : Scope) : Bool :=
  decide (sc.kind = .function) && !sc.isCoroutine && !sc.isGenerator && decide N.Nodup && decide (N.take P.length = P) && P.all (fun x => decide (sc.names.lookup x = some .local) || decide (sc.names.lookup x = some .cell)) && sc.names.all (fun y => !decide (y.2 = .free))
theorem scB_ok {N P : List Str} {sc : Scope} (h : scB N P sc = true) : FnScope N P sc := by
  unfold scB at h
  simp only [Bool.and_eq_true, Bool.not_eq_true', decide_eq_true_eq, List.all_eq_true, Bool.or_eq_true, decide_eq_false_iff_not] at h
  obtain ⟨⟨⟨⟨⟨⟨h1, h2⟩, h3⟩, h4⟩, h5⟩, h6⟩, h7⟩ := h
  exact ⟨h1, h2, h3, h4, h5, h6, h7⟩
/-- what is looked at of a def -/
def feB (P : Nat → FnP Nat) (T : List FE) (blt : Str → Bool) (con : Str → Option PV) (i : Nat) (f : FE) : Bool :=
  scB f.N f.ps f.scope && decide (f.ps.length = (P i).np) && decide (f.N.length = (P i).nl) && ckSs (P i).body (f.sc T blt con) f.body
def FE.binds (f : FE) : Prop := ∀ (kV doc pm : Value) (an : Option Addr) (cdv ct : Value) (us : List Value), us.length = f.ps.length → bindArgs (PySem.W.fnOf f.x f.x f.params f.body f.scope .none kV doc pm an cdv ct) ⟨us, []⟩ = pure (f.ps.zip us)
structure TabOk (P : Nat → FnP Nat) (T : List FE) (blt : Str → Bool) (con : Str → Option PV) : Prop where
  ck : ∀ (i : Nat) (f : FE), T[i]? = some f → feB P T blt con i f = true
  bd : ∀ (i : Nat) (f : FE), T[i]? = some f → f.binds
section
variable {P : Nat → FnP Nat} {T : List FE} {blt : Str → Bool} {con : Str → Option PV} {prog : Program} {w : World} {K : PySem.W.Frag} {mg : MG} {base : Heap}
/-- what the top says -/
structure TopOk (T : List FE) (blt : Str → Bool) (con : Str → Option PV) (prog : Program) (w : World) (K : PySem.W.Frag) (mg : MG) : Prop where
  fn : ∀ (i : Nat) (f : FE), T[i]? = some f → ∃ fa fd, FunD K f.x f.x f.params f.body f.scope [] [] fa fd ∧ mg f.x = some (.ref fa)
  blt : ∀ x, blt x = true → mg x = none
  con : ∀ x p, con x = some p → ∃ u v, mg x = some u ∧ RelV v u ∧ ∀ g, Rp ⟨prog, w, K⟩ g v p
theorem fns_ok (ht : TabOk P T blt con) (hm : TopOk T blt con prog w K mg) : ∀ (k : Nat) (x : Str) (i : Nat), fnIx T x = some i → Cal prog w K mg base k x (spK ⟨prog, w, K⟩ (callK P k i) (P i).np)
  | 0, x, i, hi => by
    obtain ⟨f, hf, rfl⟩ := fnIx_get hi
    obtain ⟨fa, fd, F, hg⟩ := hm.fn i f hf
    have no : ∀ vs H Q E, spK ⟨prog, w, K⟩ (callK P 0 i) (P i).np vs H Q E → False := fun vs H Q E ⟨_, g, c, ps, _, _, gc⟩ => gc
    exact ⟨fa, fd, f.ps, ⟨fun vs H Q E h => (no _ _ _ _ h).elim, fun _ _ _ _ _ _ _ _ _ _ _ _ _ h => (no _ _ _ _ h).elim⟩, hg, F.kp, F.bindsN (ht.bd i f hf)⟩
  | k + 1, x, i, hi => by
    obtain ⟨f, hf, rfl⟩ := fnIx_get hi
    obtain ⟨fa, fd, F, hg⟩ := hm.fn i f hf
    have hc := ht.ck i f hf
    unfold feB at hc
    obtain ⟨hc, h4⟩ := bool_and hc
    obtain ⟨hc, h3⟩ := bool_and hc
    obtain ⟨h1, h2⟩ := bool_and hc
    have S := scB_ok h1
    refine ⟨fa, fd, f.ps, fn_pure F S (of_decide_eq_true h2) (of_decide_eq_true h3) fun cdv A outer s H E hr => ?_, hg, F.kp, F.bindsN (ht.bd i f hf)⟩
    refine ckSs_ok (P i).body (S := f.sc T blt con) ?_ h4
    exact {
      N := rfl
      sc := rfl
      kind := S.kind
      fnc := fun _ _ => rfl
      nd := S.nd
      calm := rfl
      room := hr
      own := PassesOwn.never
      fns := fun x j hj => fns_ok ht hm k x j hj
      blt := hm.blt
      con := hm.con }
end
/-! ### from the head's facts -/
/-- a constant that is a tuple: its items -/
def toDv : PV → He.Dv
  | .bl b => .bl b
  | .int i => .int i
  | .str s => .str s
  | _ => .non
def isAt : PV → Bool
  | .non => true
  | .bl _ => true
  | .int _ => true
  | .str _ => true
  | _ => false
theorem toDv_rp {T : Wd} {g : Gh} {K : PySem.W.Frag} {p : PV} (h : isAt p = true) : Rp T g ((toDv p).v K) p := by
  cases p <;> first | (cases h; done) | skip
  · exact .non
  · exact .bl _
  · exact .int _
  · exact .str _
theorem toDv_rps {T : Wd} {g : Gh} {K : PySem.W.Frag} : ∀ {ps : List PV}, ps.all isAt = true → RpL T g ((ps.map toDv).map (He.Dv.v K)) ps
  | [], _ => .nil
  | p :: ps, h => by
    rw [List.all_cons, Bool.and_eq_true] at h
    exact .cons (toDv_rp h.1) (toDv_rps h.2)
def tupsB (tups : List (Str × List PV)) (K : PySem.W.Frag) : Bool := tups.all fun q => He.tupB K q.1 (q.2.map toDv) && q.2.all isAt
def hookP (n : Nat) (fa : List He.Fa) (fn : List He.DefD) (tups : List (Str × List PV)) : PySem.W.Hook where
  α := He.AlD × Bool
  obs := fun s => (He.obsDG n fa fn s.heap.get?, tupsB tups (He.frG s.heap.get? (He.asD s.heap.get? n)))
  val := fun _ => (He.valD fn, true)
  says := fun _ h => ∃ K : PySem.W.Frag, K.In h ∧ He.SaysD fa fn K ∧ tupsB tups K = true
  of := fun _ _ e => ⟨_, He.frG_in, congrArg (fun z : He.AlD × Bool => z.1) e, congrArg (fun z : He.AlD × Bool => z.2) e⟩
  keeps := fun _ _ _ ⟨K, hK, c⟩ k => ⟨K, PySem.W.Frag.In.keeps hK k, c⟩
def obP (n : Nat) (fa : List He.Fa) (fn : List He.DefD) (tups : List (Str × List PV)) (g : Addr → Option Obj) : He.AlD × Bool := (He.obsDG n fa fn g, tupsB tups (He.frG g (He.asD g n)))
theorem obP_eq {n : Nat} {fa : List He.Fa} {fn : List He.DefD} {tups : List (Str × List PV)} {g : Addr → Option Obj} {s : Shared} (h : ∀ a, g a = s.heap.get? a) : obP n fa fn tups g = (hookP n fa fn tups).obs s := by
  have e : g = s.heap.get? := funext h
  rw [e]; rfl
def faOf (T : List FE) (frees : List Str) (nums : List (Str × Int)) (txts : List (Str × Str)) (tups : List (Str × List PV)) : List He.Fa := T.map (fun f => .glo f.x) ++ frees.map .free ++ nums.map (fun q => .int q.1 q.2) ++ txts.map (fun q => .str q.1 q.2) ++ tups.map (fun q => .glo q.1)
def conOf (nums : List (Str × Int)) (txts : List (Str × Str)) (tups : List (Str × List PV)) (x : Str) : Option PV := match nums.find? fun q => decide (q.1 = x) with
  | some q => some (.int q.2)
  | none => match txts.find? fun q => decide (q.1 = x) with
    | some q => some (.str q.2)
    | none => (tups.find? fun q => decide (q.1 = x)).map fun q => .tup q.2
def bltOf (frees : List Str) (x : Str) : Bool := decide (x ∈ frees)
theorem top_ok {T : List FE} {frees : List Str} {nums : List (Str × Int)} {txts : List (Str × Str)} {tups : List (Str × List PV)} {prog : Program} {w : World} {K : PySem.W.Frag} {h : Heap} {mg : MG} (X : K.In h) (G : h.Ns mainGlobals mg) (c : He.SaysD (faOf T frees nums txts tups) (T.map FE.d) K) (ct : tupsB tups K = true) :
    TopOk T (bltOf frees) (conOf nums txts tups) prog w K mg := by
  have fact : ∀ f, f ∈ faOf T frees nums txts tups → f.ok K = true := fun f hf => by
    obtain ⟨i, hi⟩ := List.getElem?_of_mem hf
    exact c.fact i hi
  refine ⟨fun i f hf => ?_, fun x hx => ?_, fun x p hp => ?_⟩
  · have hd : (T.map FE.d)[i]? = some f.d := by rw [List.getElem?_map, hf]; rfl
    obtain ⟨fd, F⟩ := c.def_ i hd
    have hg := He.glo_ok X G (fact (.glo f.x) (by
      unfold faOf
      simp only [List.mem_append, List.mem_map]
      exact .inl (.inl (.inl (.inl ⟨f, List.mem_of_getElem? hf, rfl⟩)))))
    exact ⟨_, fd, F, hg⟩
  · refine He.free_ok X G (fact (.free x) ?_)
    unfold faOf
    simp only [List.mem_append, List.mem_map]
    exact .inl (.inl (.inl (.inr ⟨x, of_decide_eq_true hx, rfl⟩)))
  · unfold conOf at hp
    split at hp
    · rename_i q hq
      cases hp
      have e1 := List.find?_some hq
      have e2 := List.mem_of_find?_eq_some hq
      obtain ⟨t, ht⟩ := He.int_ok X G (fact (.int q.1 q.2) (by
        unfold faOf
        simp only [List.mem_append, List.mem_map]
        exact .inl (.inl (.inr ⟨q, e2, rfl⟩))))
      have e3 : q.1 = x := of_decide_eq_true e1
      rw [e3] at ht
      exact ⟨_, .int q.2, ht, ⟨t, rfl⟩, fun g => .int _⟩
    · split at hp
      · rename_i q hq
        cases hp
        have e1 := List.find?_some hq
        have e2 := List.mem_of_find?_eq_some hq
        obtain ⟨t, ht⟩ := He.str_ok X G (fact (.str q.1 q.2) (by
          unfold faOf
          simp only [List.mem_append, List.mem_map]
          exact .inl (.inr ⟨q, e2, rfl⟩)))
        have e3 : q.1 = x := of_decide_eq_true e1
        rw [e3] at ht
        exact ⟨_, .str q.2, ht, ⟨t, rfl⟩, fun g => .str _⟩
      · obtain ⟨q, hq, rfl⟩ := Option.map_eq_some_iff.mp hp
        have e1 := List.find?_some hq
        have e2 := List.mem_of_find?_eq_some hq
        have ht := He.glo_ok X G (fact (.glo q.1) (by
          unfold faOf
          simp only [List.mem_append, List.mem_map]
          exact .inr ⟨q, e2, rfl⟩))
        have e3 : q.1 = x := of_decide_eq_true e1
        have e4 := List.all_eq_true.mp ct q e2
        rw [Bool.and_eq_true] at e4
        rw [e3] at ht
        rw [e3] at e4
        exact ⟨_, .ref (He.ga K x), ht, rfl, fun g => .tup (He.tupB_ok e4.1 g.F) (toDv_rps e4.2)⟩
/-- one def's promise -/
theorem fn_at {P : Nat → FnP Nat} {T : List FE} {blt : Str → Bool} {con : Str → Option PV} {prog : Program} {w : World} {K : PySem.W.Frag} {mg : MG} {base : Heap} (ht : TabOk P T blt con) (hm : TopOk T blt con prog w K mg) (k i : Nat) (f : FE) (hf : T[i]? = some f) {fa : Addr} {fd : FuncData} (F : FunD K f.x f.x f.params f.body f.scope [] [] fa fd) :
    FnOk prog w K mg base CX0 (k + 1) fa fd f.ps (spK ⟨prog, w, K⟩ (callK P (k + 1) i) (P i).np) := by
  have hc := ht.ck i f hf
  unfold feB at hc
  obtain ⟨hc, h4⟩ := bool_and hc
  obtain ⟨hc, h3⟩ := bool_and hc
  obtain ⟨h1, h2⟩ := bool_and hc
  have S := scB_ok h1
  refine fn_pure F S (of_decide_eq_true h2) (of_decide_eq_true h3) fun cdv A outer s H E hr => ?_
  refine ckSs_ok (P i).body (S := f.sc T blt con) ?_ h4
  exact {
    N := rfl
    sc := rfl
    kind := S.kind
    fnc := fun _ _ => rfl
    nd := S.nd
    calm := rfl
    room := hr
    own := PassesOwn.never
    fns := fun x j hj => fns_ok ht hm k x j hj
    blt := hm.blt
    con := hm.con }
/-- the law's own call -/
theorem sp_law {P : Nat → FnP Nat} {T : Wd} {k i : Nat} {ns : List Int} {c' : List PV} (hp : (P i).np = 1) (h : callK P k i [.scr ns] [] = .ok (.bl true) c') (H : Hp) (a : Addr) (hS : SqL T.K H a (ns.map V.int)) :
    spK T (callK P k i) (P i).np [.ref a] H (fun v _ => v = .bl true) (fun _ _ _ => False) := by
  refine ⟨hp.symm, ⟨H, none⟩, [], [.scr ns], ⟨fun _ _ e => e, fun _ => rfl, fun _ e => nomatch e⟩, .cons (.scr hS) .nil, ?_⟩
  rw [h]
  intro g' H' v _ _ r
  cases r
  rfl
end PP

set_option Elab.async false
set_option linter.all false
/-! PK: how a pure program is worked out. -/
namespace PP
open PySem
theorem call_ok {FN : Type} {P : FN → FnP FN} {k : Nat} {f : FN} {np nl : Nat} {body : List (Sm FN)} {args c : List PV} {r : R PV} (hp : P f = ⟨np, nl, body⟩) (hl : args.length = np) (h : finR (execSs (callK P k) body (startP np nl args) c) = r) : callK P (k + 1) f args c = r := by
  rw [callK, hp]
  simp only
  rw [if_pos hl, h]
theorem varv_0 {v : PV} {env : Env} : varv (.val v :: env) 0 = some v := rfl
theorem varv_s {s : Slot} {env : Env} {i : Nat} : varv (s :: env) (i + 1) = varv env i := by unfold varv; rw [List.getElem?_cons_succ]
theorem borv_0 {v : PV} {env : Env} : borv (.val v :: env) 0 = some v := rfl
theorem borv_0o {v : PV} {env : Env} : borv (.own v :: env) 0 = some v := rfl
theorem borv_s {s : Slot} {env : Env} {i : Nat} : borv (s :: env) (i + 1) = borv env i := by unfold borv; rw [List.getElem?_cons_succ]
theorem truthR_ok {v : PV} {c : List PV} {b : Bool} (h : truth v = some b) : truthR (.ok v c) = .ok b c := by
  unfold truthR; rw [R.bind_ok, h]
theorem truthR_bl {b : Bool} {c : List PV} : truthR (.ok (.bl b) c) = .ok b c := rfl
/-- the turns of a comprehension that leave the cup alone -/
theorem loopC_pure {α : Type} {f : PV → Nat → List PV → R (List PV)} {g : α → List PV} {φ : α → PV} {c : List PV} : ∀ (xs : List α) (n : Nat), (∀ x ∈ xs, ∀ m, m < LIM → f (φ x) m c = .ok (g x) c) → (∀ x ∈ xs, (g x).length ≤ 1) → n + xs.length ≤ LIM → loopC f (xs.map φ) n c = .ok (xs.flatMap g) c
  | [], n, _, _, _ => rfl
  | x :: r, n, h, h1, hl => by
    rw [List.length_cons] at hl
    rw [List.map_cons, loopC, h x (List.mem_cons_self ..) n (by omega), R.calm_ok, R.bind_ok]
    have q := h1 x (List.mem_cons_self ..)
    rw [loopC_pure r _ (fun y hy => h y (List.mem_cons_of_mem _ hy)) (fun y hy => h1 y (List.mem_cons_of_mem _ hy)) (by omega), R.bind_ok, List.flatMap_cons]
theorem flatMap_if {α β : Type} (p : α → Bool) (y : α → β) : ∀ xs : List α, (xs.flatMap fun x => if p x then [y x] else []) = (xs.filter p).map y
  | [] => rfl
  | x :: r => by
    rw [List.flatMap_cons, flatMap_if p y r, List.filter_cons]
    cases p x <;> rfl
section
variable {FN : Type} {C : FN → List PV → List PV → R PV} {vs : List Nat} {t : Tg} {e : Ex FN} {it : Ie FN} {cond : Option (Ex FN)} {env : Env} {c : List PV}
theorem comp_pure {α : Type} (as : List α) (φ : α → PV) (p : α → Bool) (y : α → PV) (hi : evalI C it env c = .ok (as.map φ) c)
    (hx : ∀ x ∈ as, ∃ env1, bindT t (φ x) (wipeP env vs) = some env1 ∧ condR C cond env1 c = .ok (p x) c ∧ (p x = true → evalE C e env1 c = .ok (y x) c)) (hl : as.length ≤ LIM) :
    evalE C (.comp vs e t it cond) env c = .ok (.lst ((as.filter p).map y)) c := by
  rw [evalE, hi, R.bind_ok, loopC_pure (g := fun x => if p x then [y x] else []) as 0 ?_ ?_ (by omega), R.bind_ok, flatMap_if]
  · intro x hm m hlt
    obtain ⟨env1, h1, h2, h3⟩ := hx x hm
    rw [h1]
    simp only
    rw [h2, R.bind_ok]
    cases hp : p x with
    | false => rfl
    | true =>
      simp only [if_true]
      rw [h3 hp, R.bind_ok]
      simp [hlt]
  · intro x hm
    split <;> simp
/-- with no condition -/
theorem comp_map {α : Type} (as : List α) (φ : α → PV) (y : α → PV) (hi : evalI C it env c = .ok (as.map φ) c)
    (hx : ∀ x ∈ as, ∃ env1, bindT t (φ x) (wipeP env vs) = some env1 ∧ evalE C e env1 c = .ok (y x) c) (hl : as.length ≤ LIM) :
    evalE C (.comp vs e t it none) env c = .ok (.lst (as.map y)) c := by
  rw [comp_pure as φ (fun _ => true) y hi (fun x hm => ?_) hl, List.filter_eq_self.mpr fun _ _ => rfl]
  obtain ⟨env1, h1, h2⟩ := hx x hm
  exact ⟨env1, h1, rfl, fun _ => h2⟩
/-- with rolls: what is left is a part -/
theorem loopC_part {f : PV → Nat → List PV → R (List PV)} {I : List PV → Prop} : ∀ (xs : List PV) (n : Nat) (c : List PV), I c → (∀ x ∈ xs, ∀ m c, m < LIM → I c → ∃ (b : Bool) (c' : List PV), f x m c = .ok (if b then [x] else []) c' ∧ I c') → n + xs.length ≤ LIM → ∃ ys c', loopC f xs n c = .ok ys c' ∧ I c' ∧ ys.Sublist xs
  | [], n, c, hc, _, _ => ⟨[], c, rfl, hc, .slnil⟩
  | x :: r, n, c, hc, h, hl => by
    rw [List.length_cons] at hl
    obtain ⟨b, c1, h1, i1⟩ := h x (List.mem_cons_self ..) n c (by omega) hc
    obtain ⟨ys, c2, h2, i2, s⟩ := loopC_part r (n + (if b then [x] else []).length) c1 i1 (fun y hy => h y (List.mem_cons_of_mem _ hy)) (by cases b <;> simp <;> omega)
    refine ⟨_, c2, by rw [loopC, h1, R.calm_ok, R.bind_ok, h2, R.bind_ok], i2, ?_⟩
    cases b
    · exact s.cons _
    · exact s.cons₂ _
theorem comp_part {I : List PV → Prop} {xs : List PV} (hc : I c) (hi : evalI C it env c = .ok xs c)
    (hx : ∀ x ∈ xs, ∃ env1, bindT t x (wipeP env vs) = some env1 ∧ ∀ c, I c → ∃ (b : Bool) (c' : List PV), condR C cond env1 c = .ok b c' ∧ I c' ∧ (b = true → evalE C e env1 c' = .ok x c')) (hl : xs.length ≤ LIM) :
    ∃ ys c', evalE C (.comp vs e t it cond) env c = .ok (.lst ys) c' ∧ I c' ∧ ys.Sublist xs := by
  rw [evalE, hi, R.bind_ok]
  obtain ⟨ys, c', h, i, s⟩ := loopC_part (I := I) (f := fun x n c => match bindT t x (wipeP env vs) with
        | some env1 => (condR C cond env1 c).bind fun k c => if k then (evalE C e env1 c).bind fun y c => guardR (decide (n < LIM)) (.ok [y] c) else .ok [] c
        | none => .stuck) xs 0 c hc (fun x hm m c hlt ic => by
    obtain ⟨env1, h1, h2⟩ := hx x hm
    obtain ⟨b, c', h3, i3, h4⟩ := h2 c ic
    refine ⟨b, c', ?_, i3⟩
    rw [h1]
    simp only
    rw [h3, R.bind_ok]
    cases b with
    | false => rfl
    | true =>
      simp only [if_true]
      rw [h4 rfl, R.bind_ok]
      simp [hlt]) (by omega)
  exact ⟨ys, c', congrArg (fun r : R (List PV) => r.bind fun ys c => R.ok (PV.lst ys) c) h, i, s⟩
/-- the turns of a loop -/
theorem forL_inv {f : PV → Env → List PV → SR} {I : Env → List PV → Prop} : ∀ (xs : List PV) (env : Env) (c : List PV), I env c → (∀ x ∈ xs, ∀ env c, I env c → ∃ env' c', f x env c = .nx env' c' ∧ I env' c') → ∃ env' c', forL f xs env c = .nx env' c' ∧ I env' c'
  | [], env, c, h, _ => ⟨env, c, rfl, h⟩
  | x :: r, env, c, h, hx => by
    obtain ⟨env1, c1, h1, i1⟩ := hx x (List.mem_cons_self ..) env c h
    obtain ⟨env2, c2, h2, i2⟩ := forL_inv r env1 c1 i1 fun y hy => hx y (List.mem_cons_of_mem _ hy)
    exact ⟨env2, c2, by rw [forL, h1, SR.bind_nx, h2], i2⟩
theorem fr_inv {b : List (Sm FN)} {I : Env → List PV → Prop} {xs c0 : List PV} (h : I env c) (hi : evalI C it env c0 = .ok xs c)
    (hx : ∀ x ∈ xs, ∀ env c, I env c → ∃ env1, bindT t x env = some env1 ∧ ∃ env' c', execSs C b env1 c = .nx env' c' ∧ I env' c') : ∃ env' c', execS C (.fr t it b) env c0 = .nx env' c' ∧ I env' c' := by
  obtain ⟨env', c', h1, h2⟩ := forL_inv (I := I) (f := fun x env c => match bindT t x env with
      | some env1 => execSs C b env1 c
      | none => .stuck) xs env c h fun x hm env c i => by
    obtain ⟨env1, h1, h2⟩ := hx x hm env c i
    rw [h1]; exact h2
  exact ⟨env', c', by rw [execS, hi, R.st_ok]; exact h1, h2⟩
end
section
variable {FN : Type} {C : FN → List PV → List PV → R PV} {t : Tg} {it : Ie FN} {env : Env} {c : List PV}
/-- the turns of a loop, counted down -/
theorem forL_count {f : PV → Env → List PV → SR} {I : Nat → Env → List PV → Prop} : ∀ (xs : List PV) (env : Env) (c : List PV), I xs.length env c → (∀ x ∈ xs, ∀ m env c, I (m + 1) env c → ∃ env' c', f x env c = .nx env' c' ∧ I m env' c') → ∃ env' c', forL f xs env c = .nx env' c' ∧ I 0 env' c'
  | [], env, c, h, _ => ⟨env, c, rfl, h⟩
  | x :: r, env, c, h, hx => by
    obtain ⟨env1, c1, h1, i1⟩ := hx x (List.mem_cons_self ..) r.length env c h
    obtain ⟨env2, c2, h2, i2⟩ := forL_count r env1 c1 i1 fun y hy => hx y (List.mem_cons_of_mem _ hy)
    exact ⟨env2, c2, by rw [forL, h1, SR.bind_nx, h2], i2⟩
theorem fr_count {b : List (Sm FN)} {I : Nat → Env → List PV → Prop} {xs c0 : List PV} (h : I xs.length env c) (hi : evalI C it env c0 = .ok xs c)
    (hx : ∀ x ∈ xs, ∀ m env c, I (m + 1) env c → ∃ env1, bindT t x env = some env1 ∧ ∃ env' c', execSs C b env1 c = .nx env' c' ∧ I m env' c') : ∃ env' c', execS C (.fr t it b) env c0 = .nx env' c' ∧ I 0 env' c' := by
  obtain ⟨env', c', h1, h2⟩ := forL_count (I := I) (f := fun x env c => match bindT t x env with
      | some env1 => execSs C b env1 c
      | none => .stuck) xs env c h fun x hm m env c i => by
    obtain ⟨env1, h1, h2⟩ := hx x hm m env c i
    rw [h1]; exact h2
  exact ⟨env', c', by rw [execS, hi, R.st_ok]; exact h1, h2⟩
end
section
variable {FN : Type} {C : FN → List PV → List PV → R PV} {vs : List Nat} {t : Tg} {e : Ex FN} {it : Ie FN} {env : Env} {c : List PV}
/-- a loop that gathers -/
theorem forL_fold {α S : Type} {f : PV → Env → List PV → SR} {φ : α → PV} {I : S → Env → List PV → Prop} {g : S → α → S} : ∀ (xs : List α) (s : S) (env : Env) (c : List PV), I s env c → (∀ x ∈ xs, ∀ s env c, I s env c → ∃ env' c', f (φ x) env c = .nx env' c' ∧ I (g s x) env' c') → ∃ env' c', forL f (xs.map φ) env c = .nx env' c' ∧ I (xs.foldl g s) env' c'
  | [], s, env, c, h, _ => ⟨env, c, rfl, h⟩
  | x :: r, s, env, c, h, hx => by
    obtain ⟨env1, c1, h1, i1⟩ := hx x (List.mem_cons_self ..) s env c h
    obtain ⟨env2, c2, h2, i2⟩ := forL_fold r (g s x) env1 c1 i1 fun y hy => hx y (List.mem_cons_of_mem _ hy)
    exact ⟨env2, c2, by rw [List.map_cons, forL, h1, SR.bind_nx, h2], i2⟩
theorem fr_fold {α S : Type} {b : List (Sm FN)} {φ : α → PV} {I : S → Env → List PV → Prop} {g : S → α → S} {as : List α} {s : S} {c0 : List PV} (h : I s env c) (hi : evalI C it env c0 = .ok (as.map φ) c)
    (hx : ∀ x ∈ as, ∀ s env c, I s env c → ∃ env1, bindT t (φ x) env = some env1 ∧ ∃ env' c', execSs C b env1 c = .nx env' c' ∧ I (g s x) env' c') : ∃ env' c', execS C (.fr t it b) env c0 = .nx env' c' ∧ I (as.foldl g s) env' c' := by
  obtain ⟨env', c', h1, h2⟩ := forL_fold (I := I) (g := g) (φ := φ) (f := fun x env c => match bindT t x env with
      | some env1 => execSs C b env1 c
      | none => .stuck) as s env c h fun x hm s env c i => by
    obtain ⟨env1, h1, h2⟩ := hx x hm s env c i
    rw [h1]; exact h2
  exact ⟨env', c', by rw [execS, hi, R.st_ok]; exact h1, h2⟩
/-- a loop, by what has been gone through -/
theorem forL_pre {α : Type} {f : PV → Env → List PV → SR} {φ : α → PV} {I : List α → Env → List PV → Prop} {as : List α} (hx : ∀ pre x post, as = pre ++ x :: post → ∀ env c, I pre env c → ∃ env' c', f (φ x) env c = .nx env' c' ∧ I (pre ++ [x]) env' c') : ∀ (xs pre : List α) (env : Env) (c : List PV), as = pre ++ xs → I pre env c → ∃ env' c', forL f (xs.map φ) env c = .nx env' c' ∧ I as env' c'
  | [], pre, env, c, e, h => ⟨env, c, rfl, by rw [e, List.append_nil]; exact h⟩
  | x :: r, pre, env, c, e, h => by
    obtain ⟨env1, c1, h1, i1⟩ := hx pre x r e env c h
    obtain ⟨env2, c2, h2, i2⟩ := forL_pre hx r (pre ++ [x]) env1 c1 (by rw [e, List.append_assoc]; rfl) i1
    exact ⟨env2, c2, by rw [List.map_cons, forL, h1, SR.bind_nx, h2], i2⟩
theorem fr_pre {α : Type} {b : List (Sm FN)} {φ : α → PV} {I : List α → Env → List PV → Prop} {as : List α} {c0 : List PV} (h : I [] env c) (hi : evalI C it env c0 = .ok (as.map φ) c)
    (hx : ∀ pre x post, as = pre ++ x :: post → ∀ env c, I pre env c → ∃ env1, bindT t (φ x) env = some env1 ∧ ∃ env' c', execSs C b env1 c = .nx env' c' ∧ I (pre ++ [x]) env' c') : ∃ env' c', execS C (.fr t it b) env c0 = .nx env' c' ∧ I as env' c' := by
  obtain ⟨env', c', h1, h2⟩ := forL_pre (I := I) (φ := φ) (as := as) (f := fun x env c => match bindT t x env with
      | some env1 => execSs C b env1 c
      | none => .stuck) (fun pre x post e env c i => by
    obtain ⟨env1, h1, h2⟩ := hx pre x post e env c i
    simp only [h1]
    exact h2) as [] env c rfl h
  exact ⟨env', c', by rw [execS, hi, R.st_ok]; exact h1, h2⟩
/-- with rolls: each item by itself -/
theorem loopC_all {α : Type} {f : PV → Nat → List PV → R (List PV)} {I : List PV → Prop} {φ : α → PV} {G : PV → Prop} : ∀ (xs : List α) (n : Nat) (c : List PV), I c → (∀ x ∈ xs, ∀ m c, m < LIM → I c → ∃ y c', f (φ x) m c = .ok [y] c' ∧ I c' ∧ G y) → n + xs.length ≤ LIM → ∃ ys c', loopC f (xs.map φ) n c = .ok ys c' ∧ I c' ∧ ys.length = xs.length ∧ ∀ y ∈ ys, G y
  | [], n, c, hc, _, _ => ⟨[], c, rfl, hc, rfl, fun _ h => nomatch h⟩
  | x :: r, n, c, hc, h, hl => by
    rw [List.length_cons] at hl
    obtain ⟨y, c1, h1, i1, g1⟩ := h x (List.mem_cons_self ..) n c (by omega) hc
    obtain ⟨ys, c2, h2, i2, l2, g2⟩ := loopC_all r (n + 1) c1 i1 (fun y hy => h y (List.mem_cons_of_mem _ hy)) (by omega)
    refine ⟨y :: ys, c2, by rw [List.map_cons, loopC, h1, R.calm_ok, R.bind_ok]; show (loopC f (r.map φ) (n + 1) c1).bind _ = _; rw [h2]; rfl, i2, by rw [List.length_cons, List.length_cons, l2], fun z hz => ?_⟩
    rcases List.mem_cons.mp hz with rfl | hz
    · exact g1
    · exact g2 z hz
theorem comp_all {α : Type} {I : List PV → Prop} {as : List α} {φ : α → PV} {G : PV → Prop} {c0 : List PV} (hc : I c) (hi : evalI C it env c0 = .ok (as.map φ) c)
    (hx : ∀ x ∈ as, ∃ env1, bindT t (φ x) (wipeP env vs) = some env1 ∧ ∀ c, I c → ∃ y c', evalE C e env1 c = .ok y c' ∧ I c' ∧ G y) (hl : as.length ≤ LIM) :
    ∃ ys c', evalE C (.comp vs e t it none) env c0 = .ok (.lst ys) c' ∧ I c' ∧ ys.length = as.length ∧ ∀ y ∈ ys, G y := by
  rw [evalE, hi, R.bind_ok]
  obtain ⟨ys, c', h, i, s, g⟩ := loopC_all (I := I) (G := G) (φ := φ) (f := fun x n c => match bindT t x (wipeP env vs) with
        | some env1 => (condR C none env1 c).bind fun k c => if k then (evalE C e env1 c).bind fun y c => guardR (decide (n < LIM)) (.ok [y] c) else .ok [] c
        | none => .stuck) as 0 c hc (fun x hm m c hlt ic => by
    obtain ⟨env1, h1, h2⟩ := hx x hm
    obtain ⟨y, c', h3, i3, g3⟩ := h2 c ic
    refine ⟨y, c', ?_, i3, g3⟩
    rw [h1]
    simp only
    rw [condR, R.bind_ok, if_pos rfl, h3, R.bind_ok]
    simp [hlt]) (by omega)
  exact ⟨ys, c', congrArg (fun r : R (List PV) => r.bind fun ys c => R.ok (PV.lst ys) c) h, i, s, g⟩
end
theorem mkTup_0 : mkTup [] = some (.tup []) := rfl
theorem mkTup_1 {a1 : PV} : mkTup [a1] = some (.tup [a1]) := rfl
theorem mkTup_2 {a1 a2 : PV} : mkTup [a1, a2] = some (.tup [a1, a2]) := rfl
theorem mkTup_3 {a1 a2 a3 : PV} : mkTup [a1, a2, a3] = some (.tup [a1, a2, a3]) := rfl
theorem mkTup_4 {a1 a2 a3 a4 : PV} : mkTup [a1, a2, a3, a4] = some (.tup [a1, a2, a3, a4]) := rfl
theorem mkTup_5 {a1 a2 a3 a4 a5 : PV} : mkTup [a1, a2, a3, a4, a5] = some (.tup [a1, a2, a3, a4, a5]) := rfl
theorem mkTup_6 {a1 a2 a3 a4 a5 a6 : PV} : mkTup [a1, a2, a3, a4, a5, a6] = some (.tup [a1, a2, a3, a4, a5, a6]) := rfl
theorem mkTup_7 {a1 a2 a3 a4 a5 a6 a7 : PV} : mkTup [a1, a2, a3, a4, a5, a6, a7] = some (.tup [a1, a2, a3, a4, a5, a6, a7]) := rfl
theorem mkTup_8 {a1 a2 a3 a4 a5 a6 a7 a8 : PV} : mkTup [a1, a2, a3, a4, a5, a6, a7, a8] = some (.tup [a1, a2, a3, a4, a5, a6, a7, a8]) := rfl
theorem mkLst_0 : mkLst [] = some (.lst []) := rfl
theorem mkLst_1 {a1 : PV} : mkLst [a1] = some (.lst [a1]) := rfl
theorem mkLst_2 {a1 a2 : PV} : mkLst [a1, a2] = some (.lst [a1, a2]) := rfl
theorem mkLst_3 {a1 a2 a3 : PV} : mkLst [a1, a2, a3] = some (.lst [a1, a2, a3]) := rfl
theorem mkLst_4 {a1 a2 a3 a4 : PV} : mkLst [a1, a2, a3, a4] = some (.lst [a1, a2, a3, a4]) := rfl
theorem mkLst_5 {a1 a2 a3 a4 a5 : PV} : mkLst [a1, a2, a3, a4, a5] = some (.lst [a1, a2, a3, a4, a5]) := rfl
theorem mkLst_6 {a1 a2 a3 a4 a5 a6 : PV} : mkLst [a1, a2, a3, a4, a5, a6] = some (.lst [a1, a2, a3, a4, a5, a6]) := rfl
theorem mkLst_7 {a1 a2 a3 a4 a5 a6 a7 : PV} : mkLst [a1, a2, a3, a4, a5, a6, a7] = some (.lst [a1, a2, a3, a4, a5, a6, a7]) := rfl
theorem mkLst_8 {a1 a2 a3 a4 a5 a6 a7 a8 : PV} : mkLst [a1, a2, a3, a4, a5, a6, a7, a8] = some (.lst [a1, a2, a3, a4, a5, a6, a7, a8]) := rfl
theorem mkLst_9 {a1 a2 a3 a4 a5 a6 a7 a8 a9 : PV} : mkLst [a1, a2, a3, a4, a5, a6, a7, a8, a9] = some (.lst [a1, a2, a3, a4, a5, a6, a7, a8, a9]) := rfl
theorem mkLst_10 {a1 a2 a3 a4 a5 a6 a7 a8 a9 a10 : PV} : mkLst [a1, a2, a3, a4, a5, a6, a7, a8, a9, a10] = some (.lst [a1, a2, a3, a4, a5, a6, a7, a8, a9, a10]) := rfl
theorem mkLst_11 {a1 a2 a3 a4 a5 a6 a7 a8 a9 a10 a11 : PV} : mkLst [a1, a2, a3, a4, a5, a6, a7, a8, a9, a10, a11] = some (.lst [a1, a2, a3, a4, a5, a6, a7, a8, a9, a10, a11]) := rfl
theorem mkLst_12 {a1 a2 a3 a4 a5 a6 a7 a8 a9 a10 a11 a12 : PV} : mkLst [a1, a2, a3, a4, a5, a6, a7, a8, a9, a10, a11, a12] = some (.lst [a1, a2, a3, a4, a5, a6, a7, a8, a9, a10, a11, a12]) := rfl
theorem mkLst_13 {a1 a2 a3 a4 a5 a6 a7 a8 a9 a10 a11 a12 a13 : PV} : mkLst [a1, a2, a3, a4, a5, a6, a7, a8, a9, a10, a11, a12, a13] = some (.lst [a1, a2, a3, a4, a5, a6, a7, a8, a9, a10, a11, a12, a13]) := rfl
theorem mkLst_14 {a1 a2 a3 a4 a5 a6 a7 a8 a9 a10 a11 a12 a13 a14 : PV} : mkLst [a1, a2, a3, a4, a5, a6, a7, a8, a9, a10, a11, a12, a13, a14] = some (.lst [a1, a2, a3, a4, a5, a6, a7, a8, a9, a10, a11, a12, a13, a14]) := rfl
theorem mkLst_15 {a1 a2 a3 a4 a5 a6 a7 a8 a9 a10 a11 a12 a13 a14 a15 : PV} : mkLst [a1, a2, a3, a4, a5, a6, a7, a8, a9, a10, a11, a12, a13, a14, a15] = some (.lst [a1, a2, a3, a4, a5, a6, a7, a8, a9, a10, a11, a12, a13, a14, a15]) := rfl
theorem mkLst_16 {a1 a2 a3 a4 a5 a6 a7 a8 a9 a10 a11 a12 a13 a14 a15 a16 : PV} : mkLst [a1, a2, a3, a4, a5, a6, a7, a8, a9, a10, a11, a12, a13, a14, a15, a16] = some (.lst [a1, a2, a3, a4, a5, a6, a7, a8, a9, a10, a11, a12, a13, a14, a15, a16]) := rfl
theorem mkTup_s {xs : List PV} (h : xs.length ≤ LIM) : mkTup xs = some (.tup xs) := if_pos h
theorem mkLst_s {xs : List PV} (h : xs.length ≤ LIM) : mkLst xs = some (.lst xs) := if_pos h
theorem len_le0 {α : Type} : ([] : List α).length ≤ LIM := Nat.zero_le _
theorem len_le1 {α : Type} {a : α} {xs : List α} : (a :: xs).length ≤ LIM ↔ xs.length < LIM := Iff.rfl
theorem dat_int {i : Int} : dat (.int i) = true := rfl
theorem dat_bl {i : Bool} : dat (.bl i) = true := rfl
theorem dat_non : dat .non = true := rfl
theorem peq_int {i j : Int} : peq (.int i) (.int j) = decide (i = j) := by rw [peq, Bool.eq_iff_iff]; simp
theorem peq_bl {i j : Bool} : peq (.bl i) (.bl j) = (i == j) := rfl
theorem peq_nonnon : peq .non .non = true := rfl
theorem ixP_nat {n i : Nat} (h : i < n) : ixP n (i : Int) = some i := by
  unfold ixP
  rw [if_pos (by omega), if_pos (by omega)]; rfl
theorem item_tup {xs : List PV} {i : Nat} {x : PV} {c : List PV} (h : xs[i]? = some x) : item (.tup xs) (.int i) c = some x := by
  unfold item
  simp only
  rw [ixP_nat (List.getElem?_eq_some_iff.mp h).1]; exact h
theorem item_lst {xs : List PV} {i : Nat} {x : PV} {c : List PV} (h : xs[i]? = some x) : item (.lst xs) (.int i) c = some x := by
  unfold item
  simp only
  rw [ixP_nat (List.getElem?_eq_some_iff.mp h).1]; exact h
theorem popAt_nat {xs : List PV} {j : Nat} (h : j < xs.length) (hl : xs.length ≤ LIM) : popAt xs (j : Int) = some (xs[j], xs.eraseIdx j) := by
  unfold popAt
  rw [if_neg (by omega), ixP_nat h, Option.bind_some, List.getElem?_eq_getElem h]; rfl
theorem item_0 {a : PV} {xs c : List PV} : item (.tup (a :: xs)) (.int 0) c = some a := item_tup (i := 0) rfl
theorem item_1 {a b : PV} {xs c : List PV} : item (.tup (a :: b :: xs)) (.int 1) c = some b := item_tup (i := 1) rfl
theorem item_2 {a b d : PV} {xs c : List PV} : item (.tup (a :: b :: d :: xs)) (.int 2) c = some d := item_tup (i := 2) rfl
theorem item_3 {a b d e : PV} {xs c : List PV} : item (.tup (a :: b :: d :: e :: xs)) (.int 3) c = some e := item_tup (i := 3) rfl
theorem item_c0 {a b : PV} : item .cup (.int 0) [a, b] = some a := rfl
theorem item_c1 {a b : PV} : item .cup (.int 1) [a, b] = some b := rfl

/-! ### the meaning, first-order -/
def WB : Nat := 999980
section
variable {FN : Type} (C : FN → List PV → List PV → R PV)
def optB (o : Option Bool) (c : List PV) : R Bool := match o with
  | some b => .ok b c
  | none => .stuck
def kBin (o : Bop) (b : Ex FN) (env : Env) (r : R PV) : R PV := r.bind fun x c => (evalE C b env c).bind fun y c => pureR (binop o x y) c
def kBin2 (o : Bop) (x : PV) (r : R PV) : R PV := r.bind fun y c => pureR (binop o x y) c
def kCmp (o : Cop) (b : Ex FN) (env : Env) (r : R PV) : R PV := r.bind fun x c => (evalE C b env c).bind fun y c => pureR (cmpop o x y) c
def kCmp2 (o : Cop) (x : PV) (r : R PV) : R PV := r.bind fun y c => pureR (cmpop o x y) c
def kNeg (r : R PV) : R PV := r.bind fun x c => match x with
    | .int i => .ok (.int (-i)) c
    | _ => .stuck
def kNt (r : R Bool) : R PV := r.bind fun b c => .ok (.bl (!b)) c
def kAnd (b : Ex FN) (env : Env) (r : R PV) : R PV := r.bind fun x c => match truth x with
    | some true => evalE C b env c
    | some false => .ok x c
    | none => .stuck
def kAnd2 (b : Ex FN) (env : Env) (x : PV) (o : Option Bool) (c : List PV) : R PV := match o with
    | some true => evalE C b env c
    | some false => .ok x c
    | none => .stuck
def kOr (b : Ex FN) (env : Env) (r : R PV) : R PV := r.bind fun x c => match truth x with
    | some true => .ok x c
    | some false => evalE C b env c
    | none => .stuck
def kOr2 (b : Ex FN) (env : Env) (x : PV) (o : Option Bool) (c : List PV) : R PV := match o with
    | some true => .ok x c
    | some false => evalE C b env c
    | none => .stuck
def kIte (a b : Ex FN) (env : Env) (r : R Bool) : R PV := r.bind fun k c => if k then evalE C a env c else evalE C b env c
def kCh (b d : Ex FN) (env : Env) (r : R PV) : R PV := r.bind fun x c => (evalE C b env c).bind fun y c => match cmpop .le x y with
    | some (.bl true) => (evalE C d env c).bind fun z c => pureR (cmpop .le y z) c
    | some (.bl false) => .ok (.bl false) c
    | _ => .stuck
def kCh2 (d : Ex FN) (env : Env) (x : PV) (r : R PV) : R PV := r.bind fun y c => match cmpop .le x y with
    | some (.bl true) => (evalE C d env c).bind fun z c => pureR (cmpop .le y z) c
    | some (.bl false) => .ok (.bl false) c
    | _ => .stuck
def kCh3 (d : Ex FN) (env : Env) (y : PV) (o : Option PV) (c : List PV) : R PV := match o with
    | some (.bl true) => (evalE C d env c).bind fun z c => pureR (cmpop .le y z) c
    | some (.bl false) => .ok (.bl false) c
    | _ => .stuck
def kTup (r : R (List PV)) : R PV := r.bind fun xs c => pureR (mkTup xs) c
def kLst (r : R (List PV)) : R PV := r.bind fun xs c => pureR (mkLst xs) c
def kIx (b : Ex FN) (env : Env) (r : R PV) : R PV := r.bind fun x c => (evalE C b env c).bind fun y c => pureR (item x y c) c
def kIx2 (x : PV) (r : R PV) : R PV := r.bind fun y c => pureR (item x y c) c
def kSl (lo hi : Option (Ex FN)) (env : Env) (r : R PV) : R PV := r.bind fun x c => (evalO C lo env c).bind fun l c => (evalO C hi env c).bind fun h c => pureR (slice x l h) c
def kSl2 (hi : Option (Ex FN)) (env : Env) (x : PV) (r : R (Option Int)) : R PV := r.bind fun l c => (evalO C hi env c).bind fun h c => pureR (slice x l h) c
def kSl3 (x : PV) (l : Option Int) (r : R (Option Int)) : R PV := r.bind fun h c => pureR (slice x l h) c
def kCall (f : FN) (r : R (List PV)) : R PV := r.bind fun xs c => C f xs c
def kBlt (b : Blt) (r : R (List PV)) : R PV := r.bind fun xs c => pureR (bltop b xs) c
def kMth (m : Mth) (es : List (Ex FN)) (env : Env) (r : R PV) : R PV := r.bind fun x c => guardR (recv m x) ((evalEs C es env c).bind fun xs c => pureR (mthop m x xs) c)
def kMth2 (m : Mth) (x : PV) (r : R (List PV)) : R PV := r.bind fun xs c => pureR (mthop m x xs) c
def kPick (ks : List Str) (e : Ex FN) (env : Env) (r : R (List PV)) : R PV := r.bind fun vs c => (evalE C e env c).bind fun x c => pickR ks vs x c
def kPick2 (ks : List Str) (vs : List PV) (r : R PV) : R PV := r.bind fun x c => pickR ks vs x c
def kIs (t : Ty) (r : R PV) : R PV := r.bind fun x c => pureR (blV (isTy t x)) c
def kEs (es : List (Ex FN)) (env : Env) (r : R PV) : R (List PV) := r.bind fun x c => (evalEs C es env c).bind fun xs c => .ok (x :: xs) c
def kEs2 (x : PV) (r : R (List PV)) : R (List PV) := r.bind fun xs c => .ok (x :: xs) c
def kO (r : R PV) : R (Option Int) := r.bind fun x c => match x with
    | .int i => .ok (some i) c
    | _ => .stuck
def kSeq (r : R PV) : R (List PV) := r.bind fun x c => seqR (asSeq x) c
def kR1 (r : R PV) : R (List PV) := r.bind fun x c => match x with
    | .int b => if okR b then .ok (rng 0 b) c else .stuck
    | _ => .stuck
def kR2 (b : Ex FN) (env : Env) (r : R PV) : R (List PV) := r.bind fun x c => (evalE C b env c).bind fun y c => match x, y with
    | .int i, .int j => if okR i && okR j then .ok (rng i j) c else .stuck
    | _, _ => .stuck
def kR3 (x : PV) (r : R PV) : R (List PV) := r.bind fun y c => match x, y with
    | .int i, .int j => if okR i && okR j then .ok (rng i j) c else .stuck
    | _, _ => .stuck
def kZip (b : Ex FN) (env : Env) (r : R PV) : R (List PV) := r.bind fun x c => (evalE C b env c).bind fun y c => match x, y with
    | .lst xs, .lst ys => .ok (zipV xs ys) c
    | .tup xs, .tup ys => .ok (zipV xs ys) c
    | _, _ => .stuck
def kZip2 (x : PV) (r : R PV) : R (List PV) := r.bind fun y c => match x, y with
    | .lst xs, .lst ys => .ok (zipV xs ys) c
    | .tup xs, .tup ys => .ok (zipV xs ys) c
    | _, _ => .stuck
def kEnum (r : R PV) : R (List PV) := r.bind fun x c => match x with
    | .lst xs => .ok (enumV 0 xs) c
    | _ => .stuck
def kAsg (t : Tg) (env : Env) (r : R PV) : SR := r.st env fun v c => optS (bindT t v env) c
def kOwn (i : Nat) (env : Env) (r : R PV) : SR := (slotR true r).st env fun s c => .nx (env.set i s) c
def kSlot (o : Bool) (x : Option PV) (z : PV) (c : List PV) : R Slot := if o then (match x with
  | some v => .ok (.own v) c
  | none => .stuck) else .ok (.val z) c
def kPar (i : Nat) (oj : Bool) (j : Nat) (b : Ex FN) (env : Env) (r : R Slot) : SR := r.st env fun s c => (slotR oj (evalE C b env c)).st env fun t c => .nx ((env.set i s).set j t) c
def kPar2 (i : Nat) (j : Nat) (env : Env) (s : Slot) (r : R Slot) : SR := r.st env fun t c => .nx ((env.set i s).set j t) c
def kOwn2 (i : Nat) (env : Env) (r : R Slot) : SR := r.st env fun s c => .nx (env.set i s) c
def kApp (i : Nat) (e : Ex FN) (env : Env) (c : List PV) (o : Option Slot) : SR := match o with
    | some (.own (.lst xs)) => (evalE C e env c).st env fun v c => if xs.length < LIM then .nx (env.set i (.own (.lst (xs ++ [v])))) c else .stuck
    | _ => .stuck
def kApp2 (i : Nat) (env : Env) (xs : List PV) (r : R PV) : SR := r.st env fun v c => if xs.length < LIM then .nx (env.set i (.own (.lst (xs ++ [v])))) c else .stuck
def kIfe (a b : List (Sm FN)) (env : Env) (r : R Bool) : SR := r.st env fun k c => if k then execSs C a env c else execSs C b env c
def kW (t : Ex FN) (b : List (Sm FN)) (n : Nat) (env : Env) (c : List PV) : SR := whileN (fun env c => truthR (evalE C t env c)) (fun env c => execSs C b env c) n env c
def kWt (t : Ex FN) (b : List (Sm FN)) (n : Nat) (env : Env) (r : R Bool) : SR := r.st env fun k c => if k then (execSs C b env c).bind fun env c => kW C t b n env c else .nx env c
def kWs (t : Ex FN) (b : List (Sm FN)) (n : Nat) (x : SR) : SR := x.bind fun env c => kW C t b n env c
def kRet (env : Env) (r : R PV) : SR := r.st env fun v c => .rt v c
def kExp (env : Env) (r : R PV) : SR := r.st env fun _ c => .nx env c
def kSs (r : List (Sm FN)) (x : SR) : SR := x.bind fun env c => execSs C r env c
def kSetC (i j : Nat) (env : Env) (r : R PV) : SR := r.st env fun v c => match env[i]? with
    | some (.val .cup) => if j < c.length then .nx env (c.set j v) else .stuck
    | _ => .stuck
def kSetC2 (j : Nat) (env : Env) (v : PV) (c : List PV) (o : Option Slot) : SR := match o with
    | some (.val .cup) => if j < c.length then .nx env (c.set j v) else .stuck
    | _ => .stuck
def kRc (env : Env) (r : R (List PV)) : SR := r.st env fun xs c => match c with
    | [] => if xs.isEmpty then .stuck else if xs.length ≤ LIM then .rt .cup xs else .stuck
    | _ => .stuck
def kAP (k i : Nat) (e : Ex FN) (env : Env) (c : List PV) (o1 o2 : Option Slot) : SR := match o1, o2 with
    | some (.val (.tup ys)), some (.own (.lst xs)) => (evalE C e env c).st env fun v c => (match v with
      | .int n => (match popAt xs n with
        | some (x, r) => if ys.length < LIM then .nx ((env.set i (.own (.lst r))).set k (.val (.tup (ys ++ [x])))) c else .stuck
        | none => .stuck)
      | _ => .stuck)
    | _, _ => .stuck
def kAP2 (k i : Nat) (env : Env) (ys xs : List PV) (r : R PV) : SR := r.st env fun v c => (match v with
      | .int n => (match popAt xs n with
        | some (x, r) => if ys.length < LIM then .nx ((env.set i (.own (.lst r))).set k (.val (.tup (ys ++ [x])))) c else .stuck
        | none => .stuck)
      | _ => .stuck)
def kAP3 (k i : Nat) (env : Env) (ys : List PV) (c : List PV) (o : Option (PV × List PV)) : SR := match o with
        | some (x, r) => if ys.length < LIM then .nx ((env.set i (.own (.lst r))).set k (.val (.tup (ys ++ [x])))) c else .stuck
        | none => .stuck
variable {C}
variable {a b d t e : Ex FN} {es : List (Ex FN)} {env : Env} {c : List PV} {v x y z : PV} {xs : List PV} {i j : Nat} {o : Bop} {q : Cop} {lo hi : Option (Ex FN)}
theorem e_con : evalE C (.con v) env c = .ok v c := by rw [evalE]
theorem e_var : evalE C (.var i) env c = pureR (varv env i) c := by rw [evalE]
theorem e_bor : evalE C (.bor i) env c = pureR (borv env i) c := by rw [evalE]
theorem e_bin : evalE C (.bin o a b) env c = kBin C o b env (evalE C a env c) := by rw [evalE]; rfl
theorem k_bin : kBin C o b env (.ok x c) = kBin2 o x (evalE C b env c) := rfl
theorem k_bin2 : kBin2 o x (.ok y c) = pureR (binop o x y) c := rfl
theorem e_cmp : evalE C (.cmp q a b) env c = kCmp C q b env (evalE C a env c) := by rw [evalE]; rfl
theorem k_cmp : kCmp C q b env (.ok x c) = kCmp2 q x (evalE C b env c) := rfl
theorem k_cmp2 : kCmp2 q x (.ok y c) = pureR (cmpop q x y) c := rfl
theorem e_neg : evalE C (.neg a) env c = kNeg (evalE C a env c) := by rw [evalE]; rfl
theorem k_neg {n : Int} : kNeg (.ok (.int n) c) = .ok (.int (-n)) c := rfl
theorem e_nt : evalE C (.nt a) env c = kNt (truthR (evalE C a env c)) := by rw [evalE]; rfl
theorem k_nt {k : Bool} : kNt (.ok k c) = .ok (.bl (!k)) c := rfl
theorem k_truth : truthR (.ok v c) = optB (truth v) c := rfl
theorem k_optB {k : Bool} : optB (some k) c = .ok k c := rfl
theorem e_and : evalE C (.and a b) env c = kAnd C b env (evalE C a env c) := by rw [evalE]; rfl
theorem k_and : kAnd C b env (.ok x c) = kAnd2 C b env x (truth x) c := rfl
theorem k_andT : kAnd2 C b env x (some true) c = evalE C b env c := rfl
theorem k_andF : kAnd2 C b env x (some false) c = .ok x c := rfl
theorem e_or : evalE C (.or a b) env c = kOr C b env (evalE C a env c) := by rw [evalE]; rfl
theorem k_or : kOr C b env (.ok x c) = kOr2 C b env x (truth x) c := rfl
theorem k_orT : kOr2 C b env x (some true) c = .ok x c := rfl
theorem k_orF : kOr2 C b env x (some false) c = evalE C b env c := rfl
theorem e_ite : evalE C (.ite t a b) env c = kIte C a b env (truthR (evalE C t env c)) := by rw [evalE]; rfl
theorem k_iteT : kIte C a b env (.ok true c) = evalE C a env c := rfl
theorem k_iteF : kIte C a b env (.ok false c) = evalE C b env c := rfl
theorem e_chain : evalE C (.chain a b d) env c = kCh C b d env (evalE C a env c) := by rw [evalE]; rfl
theorem k_ch : kCh C b d env (.ok x c) = kCh2 C d env x (evalE C b env c) := rfl
theorem k_ch2 : kCh2 C d env x (.ok y c) = kCh3 C d env y (cmpop .le x y) c := rfl
theorem k_ch3T : kCh3 C d env y (some (.bl true)) c = kCmp2 .le y (evalE C d env c) := rfl
theorem k_ch3F : kCh3 C d env y (some (.bl false)) c = .ok (.bl false) c := rfl
theorem e_tup : evalE C (.tup es) env c = kTup (evalEs C es env c) := by rw [evalE]; rfl
theorem k_tup : kTup (.ok xs c) = pureR (mkTup xs) c := rfl
theorem e_lst : evalE C (.lst es) env c = kLst (evalEs C es env c) := by rw [evalE]; rfl
theorem k_lst : kLst (.ok xs c) = pureR (mkLst xs) c := rfl
theorem e_ix : evalE C (.ix a b) env c = kIx C b env (evalE C a env c) := by rw [evalE]; rfl
theorem k_ix : kIx C b env (.ok x c) = kIx2 x (evalE C b env c) := rfl
theorem k_ix2 : kIx2 x (.ok y c) = pureR (item x y c) c := rfl
theorem e_sl : evalE C (.sl a lo hi) env c = kSl C lo hi env (evalE C a env c) := by rw [evalE]; rfl
theorem k_sl : kSl C lo hi env (.ok x c) = kSl2 C hi env x (evalO C lo env c) := rfl
theorem k_sl2 {l : Option Int} : kSl2 C hi env x (.ok l c) = kSl3 x l (evalO C hi env c) := rfl
theorem k_sl3 {l h : Option Int} : kSl3 x l (.ok h c) = pureR (slice x l h) c := rfl
theorem e_call {f : FN} : evalE C (.call f es) env c = kCall C f (evalEs C es env c) := by rw [evalE]; rfl
theorem k_call {f : FN} : kCall C f (.ok xs c) = C f xs c := rfl
theorem e_blt {m : Blt} : evalE C (.blt m es) env c = kBlt m (evalEs C es env c) := by rw [evalE]; rfl
theorem k_blt {m : Blt} : kBlt m (.ok xs c) = pureR (bltop m xs) c := rfl
theorem e_mth {m : Mth} : evalE C (.mth m a es) env c = kMth C m es env (evalE C a env c) := by rw [evalE]; rfl
theorem k_mth {m : Mth} (h : recv m x = true) : kMth C m es env (.ok x c) = kMth2 m x (evalEs C es env c) := by
  show guardR (recv m x) _ = _
  rw [h]; rfl
theorem k_mth2 {m : Mth} : kMth2 m x (.ok xs c) = pureR (mthop m x xs) c := rfl
theorem e_isin {t : Ty} : evalE C (.isin a t) env c = kIs t (evalE C a env c) := by rw [evalE]; rfl
theorem k_is {t : Ty} : kIs t (.ok x c) = pureR (blV (isTy t x)) c := rfl
theorem e_pick {ks : List Str} : evalE C (.pick ks es a) env c = kPick C ks a env (evalEs C es env c) := by rw [evalE]; rfl
theorem k_pick {ks : List Str} : kPick C ks a env (.ok xs c) = kPick2 ks xs (evalE C a env c) := rfl
theorem k_pick2 {ks : List Str} {s : Str} : kPick2 ks xs (.ok (.str s) c) = pureR (pickV ks xs s) c := rfl
theorem es_nil : evalEs C [] env c = .ok [] c := by rw [evalEs]
theorem es_cons : evalEs C (a :: es) env c = kEs C es env (evalE C a env c) := by rw [evalEs]; rfl
theorem k_es : kEs C es env (.ok x c) = kEs2 x (evalEs C es env c) := rfl
theorem k_es2 : kEs2 x (.ok xs c) = .ok (x :: xs) c := rfl
theorem o_none : evalO C none env c = .ok none c := by rw [evalO]
theorem o_some : evalO C (some a) env c = kO (evalE C a env c) := by rw [evalO]; rfl
theorem k_o {n : Int} : kO (.ok (.int n) c) = .ok (some n) c := rfl
theorem c_none : condR C none env c = .ok true c := by rw [condR]
theorem c_some : condR C (some a) env c = truthR (evalE C a env c) := by rw [condR]; rfl
theorem i_seq : evalI C (.seq a) env c = kSeq (evalE C a env c) := by rw [evalI]; rfl
theorem k_seqT : kSeq (.ok (.tup xs) c) = .ok xs c := rfl
theorem k_seqL : kSeq (.ok (.lst xs) c) = .ok xs c := rfl
theorem i_r1 : evalI C (.range1 a) env c = kR1 (evalE C a env c) := by rw [evalI]; rfl
theorem k_r1 {n : Int} (h : okR n = true) : kR1 (.ok (.int n) c) = .ok (rng 0 n) c := by
  show (if okR n then _ else _) = _
  rw [if_pos h]
theorem i_r2 : evalI C (.range2 a b) env c = kR2 C b env (evalE C a env c) := by rw [evalI]; rfl
theorem k_r2 : kR2 C b env (.ok x c) = kR3 x (evalE C b env c) := rfl
theorem k_r3 {m n : Int} (h1 : okR m = true) (h : okR n = true) : kR3 (.int m) (.ok (.int n) c) = .ok (rng m n) c := by
  show (if okR m && okR n then _ else _) = _
  rw [if_pos (by rw [h1, h]; rfl)]
theorem i_zip : evalI C (.zip a b) env c = kZip C b env (evalE C a env c) := by rw [evalI]; rfl
theorem k_zip : kZip C b env (.ok x c) = kZip2 x (evalE C b env c) := rfl
theorem k_zipT {ys : List PV} : kZip2 (.tup xs) (.ok (.tup ys) c) = .ok (zipV xs ys) c := rfl
theorem k_zipL {ys : List PV} : kZip2 (.lst xs) (.ok (.lst ys) c) = .ok (zipV xs ys) c := rfl
theorem i_enum : evalI C (.enum a) env c = kEnum (evalE C a env c) := by rw [evalI]; rfl
theorem k_enum : kEnum (.ok (.lst xs) c) = .ok (enumV 0 xs) c := rfl
variable {tg : Tg} {r ss : List (Sm FN)} {s : Sm FN} {it : Ie FN} {env' : Env}
theorem s_asg : execS C (.asg tg a) env c = kAsg tg env (evalE C a env c) := by rw [execS]; rfl
theorem k_asg : kAsg tg env (.ok v c) = optS (bindT tg v env) c := rfl
theorem s_own : execS C (.own i a) env c = kOwn2 i env (slotR true (evalE C a env c)) := by rw [execS]; rfl
theorem k_own2 {w : Slot} : kOwn2 i env (.ok w c) = .nx (env.set i w) c := rfl
theorem k_slotL : slotR true (.ok (.lst xs) c) = .ok (.own (.lst xs)) c := rfl
theorem k_slotD {kv : List (PV × PV)} : slotR true (.ok (.dic kv) c) = .ok (.own (.dic kv)) c := rfl
theorem k_slotV : slotR false (.ok v c) = .ok (.val v) c := rfl
theorem s_par {oi oj : Bool} : execS C (.par oi i a oj j b) env c = kPar C i oj j b env (slotR oi (evalE C a env c)) := by rw [execS]; rfl
theorem k_par {oj : Bool} {w : Slot} : kPar C i oj j b env (.ok w c) = kPar2 i j env w (slotR oj (evalE C b env c)) := rfl
theorem k_par2 {w u : Slot} : kPar2 i j env w (.ok u c) = .nx ((env.set i w).set j u) c := rfl
theorem s_frz {is : List Nat} : execS C (.frz is) env c = .nx (frzP env is) c := by rw [execS]
theorem s_app : execS C (.app i a) env c = kApp C i a env c env[i]? := by rw [execS]; rfl
theorem k_app : kApp C i a env c (some (.own (.lst xs))) = kApp2 i env xs (evalE C a env c) := rfl
theorem k_app2 (h : xs.length < LIM) : kApp2 i env xs (.ok v c) = .nx (env.set i (.own (.lst (xs ++ [v])))) c := by
  show (if _ then _ else _) = _
  rw [if_pos h]
theorem s_ife : execS C (.ife t r ss) env c = kIfe C r ss env (truthR (evalE C t env c)) := by rw [execS]; rfl
theorem k_ifeT : kIfe C r ss env (.ok true c) = execSs C r env c := rfl
theorem k_ifeF : kIfe C r ss env (.ok false c) = execSs C ss env c := rfl
theorem s_whl : execS C (.whl t r) env c = kW C t r (WB + 20) env c := by rw [execS]; rfl
theorem k_w {n : Nat} : kW C t r (n + 1) env c = kWt C t r n env (truthR (evalE C t env c)) := rfl
theorem k_wT {n : Nat} : kWt C t r n env (.ok true c) = kWs C t r n (execSs C r env c) := rfl
theorem k_wF {n : Nat} : kWt C t r n env (.ok false c) = .nx env c := rfl
theorem k_wN {n : Nat} : kWs C t r n (.nx env c) = kW C t r n env c := rfl
theorem k_wR {n : Nat} : kWs C t r n (.rt v c) = .rt v c := rfl
theorem s_ret : execS C (.ret a) env c = kRet env (evalE C a env c) := by rw [execS]; rfl
theorem k_ret : kRet env (.ok v c) = .rt v c := rfl
theorem s_exp : execS C (.exp a) env c = kExp env (evalE C a env c) := by rw [execS]; rfl
theorem k_exp : kExp env (.ok v c) = .nx env c := rfl
theorem s_setC : execS C (.setC i j a) env c = kSetC i j env (evalE C a env c) := by rw [execS]; rfl
theorem k_setC : kSetC i j env (.ok v c) = kSetC2 j env v c env[i]? := rfl
theorem k_setC2 (h : j < c.length) : kSetC2 j env v c (some (.val .cup)) = .nx env (c.set j v) := by
  show (if _ then _ else _) = _
  rw [if_pos h]
theorem k_cup0 : kSetC2 0 env v [x, y] (some (.val .cup)) = .nx env [v, y] := rfl
theorem k_cup1 : kSetC2 1 env v [x, y] (some (.val .cup)) = .nx env [x, v] := rfl
theorem s_ap {k : Nat} : execS C (.addPop k i a) env c = kAP C k i a env c env[k]? env[i]? := by rw [execS]; rfl
theorem k_ap {k : Nat} {ys : List PV} : kAP C k i a env c (some (.val (.tup ys))) (some (.own (.lst xs))) = kAP2 k i env ys xs (evalE C a env c) := rfl
theorem k_ap2 {k : Nat} {ys : List PV} {n : Int} : kAP2 k i env ys xs (.ok (.int n) c) = kAP3 k i env ys c (popAt xs n) := rfl
theorem k_ap3 {k : Nat} {ys rr : List PV} (h : ys.length < LIM) : kAP3 k i env ys c (some (x, rr)) = .nx ((env.set i (.own (.lst rr))).set k (.val (.tup (ys ++ [x])))) c := by
  show (if _ then _ else _) = _
  rw [if_pos h]
theorem s_rc : execS C (.retCup es) env c = kRc env (evalEs C es env c) := by rw [execS]; rfl
theorem k_rc (h : xs.isEmpty = false) (hl : xs.length ≤ LIM) : kRc env (.ok xs []) = .rt .cup xs := by
  show (if _ then _ else if _ then _ else _) = _
  rw [h, if_neg (by decide), if_pos hl]
theorem ss_nil : execSs C [] env c = .nx env c := by rw [execSs]
theorem ss_cons : execSs C (s :: r) env c = kSs C r (execS C s env c) := by rw [execSs]; rfl
theorem k_ssN : kSs C r (.nx env c) = execSs C r env c := rfl
theorem k_ssR : kSs C r (.rt v c) = .rt v c := rfl
end
end PP

set_option linter.all false
set_option maxRecDepth 100000
namespace K09
open PP
abbrev n_is_whole : Nat := 0
abbrev n_is_tuple_of : Nat := 1
abbrev n_are_whole : Nat := 2
abbrev n_pairs_of : Nat := 3
abbrev n_pair_of : Nat := 4
abbrev n_fits_tie : Nat := 5
abbrev n_fits_company : Nat := 6
abbrev n_company_by : Nat := 7
abbrev n_ties_in : Nat := 8
abbrev n_need_named : Nat := 9
abbrev n_need_company : Nat := 10
abbrev n_answer_of : Nat := 11
abbrev n_behind : Nat := 12
abbrev n_run_by : Nat := 13
abbrev n_run_on : Nat := 14
abbrev n_are_two_named : Nat := 15
abbrev n_are_answers : Nat := 16
abbrev n_fits_deed : Nat := 17
abbrev n_fits_choice : Nat := 18
abbrev n_items_in : Nat := 19
abbrev n_fits_script : Nat := 20
abbrev n_need_script : Nat := 21
abbrev n_deeds_done : Nat := 22
abbrev n_need_three : Nat := 23
abbrev n_done : Nat := 24
abbrev n_done_on : Nat := 25
abbrev n__law_cup : Nat := 26
abbrev n__law_roll : Nat := 27
abbrev n__law_some : Nat := 28
abbrev n__law_two : Nat := 29
abbrev n__law_knows : Nat := 30
abbrev n__law_pairs : Nat := 31
abbrev n__law_behind : Nat := 32
abbrev n__law_done : Nat := 33
abbrev n__law_company : Nat := 34
abbrev n__law_answers : Nat := 35
abbrev n__law_deed : Nat := 36
abbrev n__law_items : Nat := 37
abbrev n__law_count : Nat := 38
abbrev n__law_script : Nat := 39
abbrev n__law_change : Nat := 40
abbrev n__law_deeds : Nat := 41
abbrev n__law_right : Nat := 42
abbrev n_law : Nat := 43
/-- is_whole: 0 value 1 low 2 high -/
def b_is_whole : List (Sm Nat) := [.ret (.and (.isin (.var 0) .int) (.and (.nt (.isin (.var 0) .bool)) (.chain (.var 1) (.var 0) (.var 2))))]
/-- is_tuple_of: 0 value 1 low 2 high -/
def b_is_tuple_of : List (Sm Nat) := [.ret (.and (.isin (.var 0) .tuple) (.chain (.var 1) (.blt .len [.var 0]) (.var 2)))]
/-- are_whole: 0 value 1 low 2 high 3 item -/
def b_are_whole_c0 : Ex Nat := .comp [3] (.call n_is_whole [.var 3, .var 1, .var 2]) (.name 3) (.seq (.var 0)) none
def b_are_whole : List (Sm Nat) := [.ret (.blt .all [b_are_whole_c0])]
/-- pairs_of: 0 people 1 one 2 other -/
def b_pairs_of_c0 : Ex Nat := .comp2 [1, 2] [2] (.tup [.var 1, .var 2]) (.name 1) (.range1 (.var 0)) none (.name 2) (.range2 (.bin .add (.var 1) (.con (.int 1))) (.var 0)) none
def b_pairs_of : List (Sm Nat) := [.ret b_pairs_of_c0]
/-- pair_of: 0 one 1 other -/
def b_pair_of : List (Sm Nat) := [.ret (.tup [.blt .min2 [.var 0, .var 1], .blt .max2 [.var 0, .var 1]])]
/-- fits_tie: 0 people 1 value -/
def b_fits_tie : List (Sm Nat) := [.ret (.and (.call n_is_tuple_of [.var 1, .con (.int 2), .con (.int 2)]) (.and (.call n_are_whole [.var 1, .con (.int 0), .bin .sub (.var 0) (.con (.int 1))]) (.cmp .lt (.ix (.var 1) (.con (.int 0))) (.ix (.var 1) (.con (.int 1))))))]
/-- fits_company: 0 named 1 value 2 tie 3 one 4 other -/
def b_fits_company_c0 : Ex Nat := .comp [2] (.call n_fits_tie [.ix (.var 1) (.con (.int 0)), .var 2]) (.name 2) (.seq (.ix (.var 1) (.con (.int 1)))) none
def b_fits_company_c1 : Ex Nat := .comp [3, 4] (.cmp .lt (.var 3) (.var 4)) (.tup [.name 3, .name 4]) (.zip (.ix (.var 1) (.con (.int 1))) (.sl (.ix (.var 1) (.con (.int 1))) (some (.con (.int 1))) none)) none
def b_fits_company : List (Sm Nat) := [.ife (.or (.nt (.call n_is_tuple_of [.var 1, .con (.int 2), .con (.int 2)])) (.or (.nt (.call n_is_whole [.ix (.var 1) (.con (.int 0)), .var 0, .con (.int 9)])) (.nt (.isin (.ix (.var 1) (.con (.int 1))) .tuple)))) [.ret (.con (.bl false))] [],
  .ife (.nt (.blt .all [b_fits_company_c0])) [.ret (.con (.bl false))] [],
  .ret (.blt .all [b_fits_company_c1])]
/-- company_by: 0 people 1 ties 2 pair -/
def b_company_by_c0 : Ex Nat := .comp [2] (.var 2) (.name 2) (.seq (.call n_pairs_of [.var 0])) (some (.ix (.var 1) (.var 2)))
def b_company_by : List (Sm Nat) := [.ret (.tup [.var 0, .blt .tuple [b_company_by_c0]])]
/-- ties_in: 0 company 1 pair -/
def b_ties_in_c0 : Ex Nat := .comp [1] (.tup [.var 1, .cmp .inn (.var 1) (.ix (.var 0) (.con (.int 1)))]) (.name 1) (.seq (.call n_pairs_of [.ix (.var 0) (.con (.int 0))])) none
def b_ties_in : List (Sm Nat) := [.ret (.blt .dict [b_ties_in_c0])]
/-- need_named: 0 value -/
def b_need_named : List (Sm Nat) := [.ife (.nt (.call n_is_whole [.var 0, .con (.int 1), .con (.int 3)])) [.bad] []]
/-- need_company: 0 named 1 value -/
def b_need_company : List (Sm Nat) := [.ife (.nt (.call n_fits_company [.var 0, .var 1])) [.bad] []]
/-- answer_of: 0 ties 1 deed 2 one 3 other 4 know 5 many 6 person 7 third -/
def b_answer_of_c0 : Ex Nat := .comp [6] (.con (.int 1)) (.name 6) (.seq (.tup [.var 2, .var 3])) (some (.ix (.var 0) (.call n_pair_of [.ix (.var 1) (.con (.int 1)), .var 6])))
def b_answer_of : List (Sm Nat) := [.asg (.name 4) (.ix (.var 0) (.tup [.var 2, .var 3])),
  .ife (.cmp .eq (.ix (.var 1) (.con (.int 0))) (.con (.str "pairs"))) [.ife (.cmp .inn (.ix (.var 1) (.con (.int 1))) (.tup [.var 2, .var 3])) [.ret (.var 4)] [], .asg (.name 5) (.blt .sum [b_answer_of_c0]), .ret (.cmp .eq (.ix (.ix (.var 1) (.con (.int 2))) (.bin .add (.bin .mul (.con (.int 3)) (.blt .int [.var 4])) (.var 5))) (.con (.int 1)))] [],
  .ife (.cmp .eq (.ix (.var 1) (.con (.int 0))) (.con (.str "takes"))) [.ife (.or (.cmp .eq (.cmp .inn (.ix (.var 1) (.con (.int 1))) (.tup [.var 2, .var 3])) (.cmp .inn (.ix (.var 1) (.con (.int 2))) (.tup [.var 2, .var 3]))) (.cmp .nin (.ix (.var 1) (.con (.int 1))) (.tup [.var 2, .var 3]))) [.ret (.var 4)] [], .asg (.name 7) (.bin .sub (.bin .add (.var 2) (.var 3)) (.ix (.var 1) (.con (.int 1)))), .ret (.cmp .eq (.ix (.ix (.var 1) (.con (.int 3))) (.bin .add (.bin .mul (.con (.int 2)) (.blt .int [.var 4])) (.blt .int [.ix (.var 0) (.call n_pair_of [.ix (.var 1) (.con (.int 2)), .var 7])]))) (.con (.int 1)))] [],
  .ife (.cmp .ne (.call n_pair_of [.ix (.var 1) (.con (.int 1)), .ix (.var 1) (.con (.int 2))]) (.tup [.var 2, .var 3])) [.ret (.var 4)] [],
  .ret (.ite (.cmp .eq (.ix (.var 1) (.con (.int 3))) (.con (.str "turn"))) (.nt (.var 4)) (.cmp .eq (.ix (.var 1) (.con (.int 3))) (.con (.str "know"))))]
/-- behind: 0 company 1 deed 2 ties 3 pairs 4 pair -/
def b_behind_c0 : Ex Nat := .comp [4] (.tup [.var 4, .call n_answer_of [.var 2, .var 1, .ix (.var 4) (.con (.int 0)), .ix (.var 4) (.con (.int 1))]]) (.name 4) (.seq (.var 3)) none
def b_behind : List (Sm Nat) := [.asg (.name 2) (.call n_ties_in [.var 0]),
  .asg (.name 3) (.call n_pairs_of [.ix (.var 0) (.con (.int 0))]),
  .ret (.call n_company_by [.ix (.var 0) (.con (.int 0)), .blt .dict [b_behind_c0]])]
/-- run_by: 0 company 1 script 2 found 3 left 4 item -/
def b_run_by_l0 : List (Sm Nat) := [.par false 4 (.ix (.var 3) (.con (.int 0))) false 3 (.sl (.var 3) (some (.con (.int 1))) none), .ife (.cmp .eq (.ix (.var 4) (.con (.int 0))) (.con (.str "ask"))) [.asg (.name 3) (.bin .add (.blt .list [.ite (.cmp .inn (.call n_pair_of [.ix (.var 4) (.con (.int 1)), .ix (.var 4) (.con (.int 2))]) (.ix (.var 0) (.con (.int 1)))) (.ix (.var 4) (.con (.int 3))) (.ix (.var 4) (.con (.int 4)))]) (.var 3))] [.par false 0 (.call n_behind [.var 0, .var 4]) false 2 (.bin .add (.var 2) (.lst [.var 4]))]]
def b_run_by_w0 : Sm Nat := .whl (.cmp .ne (.var 3) (.lst [])) b_run_by_l0
def b_run_by : List (Sm Nat) := [.par false 2 (.lst []) false 3 (.blt .list [.var 1]),
  b_run_by_w0,
  .ret (.tup [.var 0, .var 2])]
/-- run_on: 0 company 1 script 2 found 3 item -/
def b_run_on_l0 : List (Sm Nat) := [.asg (.name 2) (.bin .add (.var 2) (.lst [.ix (.call n_run_by [.ix (.var 2) (.neg (.con (.int 1))), .tup [.var 3]]) (.con (.int 0))]))]
def b_run_on_f0 : Sm Nat := .fr (.name 3) (.seq (.var 1)) b_run_on_l0
def b_run_on : List (Sm Nat) := [.asg (.name 2) (.lst [.var 0]),
  b_run_on_f0,
  .ret (.var 2)]
/-- are_two_named: 0 named 1 one 2 other -/
def b_are_two_named : List (Sm Nat) := [.ret (.and (.call n_is_whole [.var 1, .con (.int 0), .bin .sub (.var 0) (.con (.int 1))]) (.and (.call n_is_whole [.var 2, .con (.int 0), .bin .sub (.var 0) (.con (.int 1))]) (.cmp .ne (.var 1) (.var 2))))]
/-- are_answers: 0 value 1 many -/
def b_are_answers : List (Sm Nat) := [.ret (.and (.call n_is_tuple_of [.var 0, .var 1, .var 1]) (.call n_are_whole [.var 0, .con (.int 0), .con (.int 1)]))]
/-- fits_deed: 0 named 1 value -/
def b_fits_deed : List (Sm Nat) := [.ife (.or (.nt (.call n_is_tuple_of [.var 1, .con (.int 3), .con (.int 4)])) (.nt (.isin (.ix (.var 1) (.con (.int 0))) .str))) [.ret (.con (.bl false))] [],
  .ife (.cmp .eq (.ix (.var 1) (.con (.int 0))) (.con (.str "pairs"))) [.ret (.and (.cmp .eq (.blt .len [.var 1]) (.con (.int 3))) (.and (.call n_is_whole [.ix (.var 1) (.con (.int 1)), .con (.int 0), .bin .sub (.var 0) (.con (.int 1))]) (.call n_are_answers [.ix (.var 1) (.con (.int 2)), .con (.int 6)])))] [],
  .ife (.or (.cmp .ne (.blt .len [.var 1]) (.con (.int 4))) (.nt (.call n_are_two_named [.var 0, .ix (.var 1) (.con (.int 1)), .ix (.var 1) (.con (.int 2))]))) [.ret (.con (.bl false))] [],
  .ife (.cmp .eq (.ix (.var 1) (.con (.int 0))) (.con (.str "takes"))) [.ret (.call n_are_answers [.ix (.var 1) (.con (.int 3)), .con (.int 4)])] [],
  .ret (.and (.cmp .eq (.ix (.var 1) (.con (.int 0))) (.con (.str "tie"))) (.and (.isin (.ix (.var 1) (.con (.int 3))) .str) (.cmp .inn (.ix (.var 1) (.con (.int 3))) (.con (.tup [.str "know", .str "part", .str "turn"])))))]
/-- fits_choice: 0 named 1 value -/
def b_fits_choice : List (Sm Nat) := [.ife (.or (.nt (.call n_is_tuple_of [.var 1, .con (.int 5), .con (.int 5)])) (.or (.nt (.isin (.ix (.var 1) (.con (.int 0))) .str)) (.cmp .ne (.ix (.var 1) (.con (.int 0))) (.con (.str "ask"))))) [.ret (.con (.bl false))] [],
  .ret (.and (.call n_are_two_named [.var 0, .ix (.var 1) (.con (.int 1)), .ix (.var 1) (.con (.int 2))]) (.and (.isin (.ix (.var 1) (.con (.int 3))) .tuple) (.isin (.ix (.var 1) (.con (.int 4))) .tuple)))]
/-- items_in: 0 named 1 value 2 found 3 line 4 script 5 depth 6 item -/
def b_items_in_c0 : Ex Nat := .comp [6] (.tup [.var 6, .var 5]) (.name 6) (.seq (.var 4)) none
def b_items_in_l0 : List (Sm Nat) := [.ife (.call n_fits_choice [.var 0, .var 6]) [.asg (.name 3) (.bin .add (.var 3) (.lst [.tup [.ix (.var 6) (.con (.int 3)), .bin .add (.var 5) (.con (.int 1))], .tup [.ix (.var 6) (.con (.int 4)), .bin .add (.var 5) (.con (.int 1))]]))] [.ife (.nt (.call n_fits_deed [.var 0, .var 6])) [.ret (.con .non)] []]]
def b_items_in_f0 : Sm Nat := .fr (.name 6) (.seq (.var 4)) b_items_in_l0
def b_items_in_l1 : List (Sm Nat) := [.asg (.tup [.tup [.name 4, .name 5], .name 3]) (.tup [.ix (.var 3) (.con (.int 0)), .sl (.var 3) (some (.con (.int 1))) none]), .asg (.name 2) (.bin .add (.var 2) b_items_in_c0), .ife (.cmp .gt (.blt .len [.var 2]) (.con (.int 30))) [.ret (.con .non)] [], b_items_in_f0]
def b_items_in_w0 : Sm Nat := .whl (.cmp .ne (.var 3) (.lst [])) b_items_in_l1
def b_items_in : List (Sm Nat) := [.par false 2 (.lst []) false 3 (.lst [.tup [.var 1, .con (.int 0)]]),
  b_items_in_w0,
  .ret (.var 2)]
/-- fits_script: 0 named 1 value 2 items 3 item 4 depth -/
def b_fits_script_c0 : Ex Nat := .comp [3, 4] (.cmp .lt (.var 4) (.con (.int 4))) (.tup [.name 3, .name 4]) (.seq (.var 2)) (some (.cmp .eq (.ix (.var 3) (.con (.int 0))) (.con (.str "ask"))))
def b_fits_script : List (Sm Nat) := [.asg (.name 2) (.ite (.isin (.var 1) .tuple) (.call n_items_in [.var 0, .var 1]) (.con .non)),
  .ife (.cmp .is (.var 2) (.con .non)) [.ret (.con (.bl false))] [],
  .ret (.blt .all [b_fits_script_c0])]
/-- need_script: 0 named 1 value -/
def b_need_script : List (Sm Nat) := [.ife (.nt (.call n_fits_script [.var 0, .var 1])) [.bad] []]
/-- deeds_done: 0 named 1 company 2 script -/
def b_deeds_done : List (Sm Nat) := [.exp (.call n_need_named [.var 0]),
  .exp (.call n_need_company [.var 0, .var 1]),
  .exp (.call n_need_script [.var 0, .var 2]),
  .ret (.ix (.call n_run_by [.var 1, .var 2]) (.con (.int 1)))]
/-- need_three: 0 named 1 company 2 script -/
def b_need_three : List (Sm Nat) := [.exp (.call n_need_named [.var 0]),
  .exp (.call n_need_company [.var 0, .var 1]),
  .exp (.call n_need_script [.var 0, .var 2])]
/-- done: 0 named 1 company 2 script -/
def b_done : List (Sm Nat) := [.exp (.call n_need_three [.var 0, .var 1, .var 2]),
  .ret (.ix (.call n_run_by [.var 1, .var 2]) (.con (.int 0)))]
/-- done_on: 0 named 1 company 2 script -/
def b_done_on : List (Sm Nat) := [.exp (.call n_need_three [.var 0, .var 1, .var 2]),
  .ret (.call n_run_on [.var 1, .var 2])]
/-- _law_cup: 0 _law_script_here 1 _law_cell -/
def b__law_cup : List (Sm Nat) := [.asg (.name 1) (.blt .abs [.ix (.bin .add (.blt .list [.var 0]) (.lst [.con (.int 0)])) (.con (.int 0))]),
  .retCup [.ite (.cmp .ge (.var 1) (.bin .pow (.con (.int 10)) (.con (.int 18)))) (.bin .fdiv (.var 1) (.con (.int 43))) (.con (.int 0)), .bin .add (.bin .mod (.blt .int [.bin .add (.bin .mul (.var 1) (.con (.int 251))) (.con (.int 2111))]) (.con (.int 2077503301))) (.con (.int 137))]]
/-- _law_roll: 0 _law_cup_here 1 _law_many 2 _law_found 3 _law_deep -/
def b__law_roll : List (Sm Nat) := [.ife (.cmp .gt (.ix (.var 0) (.con (.int 0))) (.con (.int 0))) [.asg (.name 2) (.bin .mod (.blt .int [.ix (.var 0) (.con (.int 0))]) (.var 1)), .setC 0 0 (.bin .fdiv (.ix (.var 0) (.con (.int 0))) (.var 1)), .ret (.var 2)] [],
  .setC 0 1 (.bin .mod (.blt .int [.bin .add (.bin .mul (.ix (.var 0) (.con (.int 1))) (.con (.int 30983))) (.con (.int 7933))]) (.con (.int 2147483563))),
  .asg (.name 3) (.bin .mod (.blt .int [.bin .mul (.ix (.var 0) (.con (.int 1))) (.bin .add (.ix (.var 0) (.con (.int 1))) (.con (.int 197)))]) (.con (.int 2147483587))),
  .ret (.bin .mod (.blt .int [.bin .fdiv (.var 3) (.con (.int 773))]) (.var 1))]
/-- _law_some: 0 _law_cup_here 1 _law_things -/
def b__law_some : List (Sm Nat) := [.ret (.ix (.var 1) (.call n__law_roll [.var 0, .blt .len [.var 1]]))]
/-- _law_two: 0 _law_one 1 _law_other -/
def b__law_two : List (Sm Nat) := [.ret (.ite (.cmp .lt (.var 0) (.var 1)) (.tup [.var 0, .var 1]) (.tup [.var 1, .var 0]))]
/-- _law_knows: 0 _law_company_here 1 _law_one 2 _law_other -/
def b__law_knows : List (Sm Nat) := [.ret (.cmp .inn (.call n__law_two [.var 1, .var 2]) (.ix (.var 0) (.con (.int 1))))]
/-- _law_pairs: 0 _law_people 1 _law_found 2 _law_one 3 _law_other -/
def b__law_pairs_c0 : Ex Nat := .comp [3] (.tup [.var 2, .var 3]) (.name 3) (.range2 (.bin .add (.var 2) (.con (.int 1))) (.var 0)) none
def b__law_pairs_l0 : List (Sm Nat) := [.asg (.name 1) (.bin .add (.var 1) b__law_pairs_c0)]
def b__law_pairs_f0 : Sm Nat := .fr (.name 2) (.range1 (.var 0)) b__law_pairs_l0
def b__law_pairs : List (Sm Nat) := [.asg (.name 1) (.lst []),
  b__law_pairs_f0,
  .ret (.var 1)]
/-- _law_behind: 0 _law_company_here 1 _law_deed_here 2 _law_found 3 _law_one 4 _law_other 5 _law_know 6 _law_many 7 _law_person 8 _law_third -/
def b__law_behind_c0 : Ex Nat := .comp [7] (.call n__law_knows [.var 0, .ix (.var 1) (.con (.int 1)), .var 7]) (.name 7) (.seq (.tup [.var 3, .var 4])) none
def b__law_behind_l0 : List (Sm Nat) := [.asg (.name 5) (.call n__law_knows [.var 0, .var 3, .var 4]), .ife (.and (.cmp .eq (.ix (.var 1) (.con (.int 0))) (.con (.str "pairs"))) (.cmp .nin (.ix (.var 1) (.con (.int 1))) (.tup [.var 3, .var 4]))) [.asg (.name 6) (.mth .count b__law_behind_c0 [.con (.bl true)]), .asg (.name 5) (.cmp .eq (.ix (.ix (.var 1) (.con (.int 2))) (.bin .add (.ite (.var 5) (.con (.int 3)) (.con (.int 0))) (.var 6))) (.con (.int 1)))] [.ife (.and (.cmp .eq (.ix (.var 1) (.con (.int 0))) (.con (.str "takes"))) (.and (.cmp .inn (.ix (.var 1) (.con (.int 1))) (.tup [.var 3, .var 4])) (.cmp .nin (.ix (.var 1) (.con (.int 2))) (.tup [.var 3, .var 4])))) [.asg (.name 8) (.ite (.cmp .eq (.ix (.var 1) (.con (.int 1))) (.var 3)) (.var 4) (.var 3)), .asg (.name 5) (.cmp .eq (.ix (.ix (.var 1) (.con (.int 3))) (.bin .add (.ite (.var 5) (.con (.int 2)) (.con (.int 0))) (.ite (.call n__law_knows [.var 0, .ix (.var 1) (.con (.int 2)), .var 8]) (.con (.int 1)) (.con (.int 0))))) (.con (.int 1)))] [.ife (.and (.cmp .eq (.ix (.var 1) (.con (.int 0))) (.con (.str "tie"))) (.cmp .eq (.call n__law_two [.ix (.var 1) (.con (.int 1)), .ix (.var 1) (.con (.int 2))]) (.tup [.var 3, .var 4]))) [.asg (.name 5) (.pick ["know", "part", "turn"] [.con (.bl true), .con (.bl false), .nt (.var 5)] (.ix (.var 1) (.con (.int 3))))] []]], .ife (.var 5) [.app 2 (.tup [.var 3, .var 4])] []]
def b__law_behind_f0 : Sm Nat := .fr (.tup [.name 3, .name 4]) (.seq (.call n__law_pairs [.ix (.var 0) (.con (.int 0))])) b__law_behind_l0
def b__law_behind : List (Sm Nat) := [.own 2 (.lst []),
  b__law_behind_f0,
  .ret (.tup [.ix (.var 0) (.con (.int 0)), .blt .tuple [.bor 2]])]
/-- _law_done: 0 _law_company_here 1 _law_script_here 2 _law_item -/
def b__law_done_l0 : List (Sm Nat) := [.ife (.cmp .eq (.ix (.var 2) (.con (.int 0))) (.con (.str "ask"))) [.asg (.name 0) (.call n__law_done [.var 0, .ite (.call n__law_knows [.var 0, .ix (.var 2) (.con (.int 1)), .ix (.var 2) (.con (.int 2))]) (.ix (.var 2) (.con (.int 3))) (.ix (.var 2) (.con (.int 4)))])] [.asg (.name 0) (.call n__law_behind [.var 0, .var 2])]]
def b__law_done_f0 : Sm Nat := .fr (.name 2) (.seq (.var 1)) b__law_done_l0
def b__law_done : List (Sm Nat) := [b__law_done_f0,
  .ret (.var 0)]
/-- _law_company: 0 _law_cup_here 1 _law_named 2 _law_least 3 _law_most 4 _law_people 5 _law_way 6 _law_pair -/
def b__law_company_c0 : Ex Nat := .comp [6] (.var 6) (.name 6) (.seq (.call n__law_pairs [.var 4])) (some (.cmp .eq (.call n__law_roll [.var 0, .con (.int 2)]) (.con (.int 0))))
def b__law_company : List (Sm Nat) := [.par false 4 (.bin .add (.bin .add (.var 1) (.var 2)) (.call n__law_roll [.var 0, .bin .add (.bin .sub (.var 3) (.var 2)) (.con (.int 1))])) false 5 (.call n__law_roll [.var 0, .con (.int 8)]),
  .ife (.cmp .lt (.var 5) (.con (.int 2))) [.ret (.tup [.var 4, .ite (.cmp .eq (.var 5) (.con (.int 0))) (.blt .tuple [.call n__law_pairs [.var 4]]) (.tup [])])] [],
  .ret (.tup [.var 4, .blt .tuple [b__law_company_c0]])]
/-- _law_answers: 0 _law_cup_here 1 _law_many 2 _law_answer -/
def b__law_answers_c0 : Ex Nat := .comp [2] (.call n__law_roll [.var 0, .con (.int 2)]) (.name 2) (.range1 (.var 1)) none
def b__law_answers : List (Sm Nat) := [.ret (.blt .tuple [b__law_answers_c0])]
/-- _law_deed: 0 _law_cup_here 1 _law_named 2 _law_doer 3 _law_some_here 4 _law_other 5 _law_person -/
def b__law_deed_c0 : Ex Nat := .comp [5] (.var 5) (.name 5) (.range1 (.var 1)) (some (.cmp .ne (.var 5) (.var 2)))
def b__law_deed : List (Sm Nat) := [.asg (.name 2) (.call n__law_roll [.var 0, .var 1]),
  .ife (.or (.cmp .eq (.var 1) (.con (.int 1))) (.cmp .lt (.call n__law_roll [.var 0, .con (.int 5)]) (.con (.int 2)))) [.asg (.name 3) (.lst [.tup [.con (.int 0), .con (.int 0), .con (.int 1), .con (.int 1), .con (.int 1), .con (.int 1)], .tup [.con (.int 0), .con (.int 0), .con (.int 0), .con (.int 1), .con (.int 1), .con (.int 0)], .tup [.con (.int 1), .con (.int 0), .con (.int 0), .con (.int 1), .con (.int 1), .con (.int 1)], .tup [.con (.int 0), .con (.int 0), .con (.int 1), .con (.int 1), .con (.int 1), .con (.int 0)], .tup [.con (.int 1), .con (.int 1), .con (.int 1), .con (.int 0), .con (.int 0), .con (.int 0)], .tup [.con (.int 0), .con (.int 0), .con (.int 0), .con (.int 1), .con (.int 1), .con (.int 1)], .tup [.con (.int 0), .con (.int 1), .con (.int 0), .con (.int 0), .con (.int 1), .con (.int 0)]]), .ret (.tup [.con (.str "pairs"), .var 2, .call n__law_some [.var 0, .bin .add (.var 3) (.lst [.call n__law_answers [.var 0, .con (.int 6)], .call n__law_answers [.var 0, .con (.int 6)], .call n__law_answers [.var 0, .con (.int 6)]])]])] [],
  .asg (.name 4) (.call n__law_some [.var 0, b__law_deed_c0]),
  .ife (.cmp .gt (.call n__law_roll [.var 0, .con (.int 3)]) (.con (.int 0))) [.asg (.name 3) (.lst [.tup [.con (.int 0), .con (.int 1), .con (.int 0), .con (.int 1)], .tup [.con (.int 0), .con (.int 1), .con (.int 1), .con (.int 0)], .tup [.con (.int 0), .con (.int 1), .con (.int 1), .con (.int 1)], .tup [.con (.int 0), .con (.int 0), .con (.int 0), .con (.int 1)], .tup [.con (.int 0), .con (.int 0), .con (.int 1), .con (.int 1)], .call n__law_answers [.var 0, .con (.int 4)], .call n__law_answers [.var 0, .con (.int 4)]]), .ret (.tup [.con (.str "takes"), .var 2, .var 4, .call n__law_some [.var 0, .var 3]])] [],
  .ret (.tup [.con (.str "tie"), .var 2, .var 4, .call n__law_some [.var 0, .lst [.con (.str "know"), .con (.str "part"), .con (.str "turn")]]])]
/-- _law_items: 0 _law_cup_here 1 _law_named 2 _law_most 3 _law_deep 4 _law_found 5 _law_turn 6 _law_one 7 _law_other 8 _law_person 9 _law_yes 10 _law_no -/
def b__law_items_c0 : Ex Nat := .comp [8] (.var 8) (.name 8) (.range1 (.var 1)) (some (.cmp .ne (.var 8) (.var 6)))
def b__law_items_l0 : List (Sm Nat) := [.ife (.and (.cmp .gt (.var 1) (.con (.int 1))) (.and (.cmp .gt (.var 3) (.con (.int 0))) (.cmp .eq (.call n__law_roll [.var 0, .con (.int 4)]) (.con (.int 0))))) [.asg (.name 6) (.call n__law_roll [.var 0, .var 1]), .asg (.name 7) (.call n__law_some [.var 0, b__law_items_c0]), .par false 9 (.call n__law_items [.var 0, .var 1, .bin .fdiv (.var 2) (.con (.int 2)), .bin .sub (.var 3) (.con (.int 1))]) false 10 (.call n__law_items [.var 0, .var 1, .bin .fdiv (.var 2) (.con (.int 2)), .bin .sub (.var 3) (.con (.int 1))]), .asg (.name 4) (.bin .add (.var 4) (.tup [.tup [.con (.str "ask"), .var 6, .var 7, .var 9, .var 10]]))] [.asg (.name 4) (.bin .add (.var 4) (.tup [.call n__law_deed [.var 0, .var 1]]))]]
def b__law_items_f0 : Sm Nat := .fr (.name 5) (.range1 (.call n__law_roll [.var 0, .bin .add (.var 2) (.con (.int 1))])) b__law_items_l0
def b__law_items : List (Sm Nat) := [.asg (.name 4) (.tup []),
  b__law_items_f0,
  .ret (.var 4)]
/-- _law_count: 0 _law_script_here 1 _law_found 2 _law_item -/
def b__law_count_l0 : List (Sm Nat) := [.asg (.name 1) (.bin .add (.bin .add (.var 1) (.con (.int 1))) (.ite (.cmp .eq (.ix (.var 2) (.con (.int 0))) (.con (.str "ask"))) (.bin .add (.call n__law_count [.ix (.var 2) (.con (.int 3))]) (.call n__law_count [.ix (.var 2) (.con (.int 4))])) (.con (.int 0))))]
def b__law_count_f0 : Sm Nat := .fr (.name 2) (.seq (.var 0)) b__law_count_l0
def b__law_count : List (Sm Nat) := [.asg (.name 1) (.con (.int 0)),
  b__law_count_f0,
  .ret (.var 1)]
/-- _law_script: 0 _law_cup_here 1 _law_named 2 _law_most 3 _law_deep 4 _law_found -/
def b__law_script_l0 : List (Sm Nat) := [.asg (.name 4) (.sl (.var 4) (some (.con (.int 1))) none)]
def b__law_script_w0 : Sm Nat := .whl (.cmp .gt (.call n__law_count [.var 4]) (.con (.int 30))) b__law_script_l0
def b__law_script : List (Sm Nat) := [.asg (.name 4) (.call n__law_items [.var 0, .var 1, .var 2, .var 3]),
  b__law_script_w0,
  .ret (.var 4)]
/-- _law_change: 0 _law_differ -/
def b__law_change : List (Sm Nat) := [.asg (.name 0) (.tup [.con (.int 0), .con (.int 1), .con (.int 1), .con (.int 0)]),
  .ret (.tup [.tup [.con (.str "takes"), .con (.int 0), .con (.int 1), .var 0], .tup [.con (.str "takes"), .con (.int 1), .con (.int 0), .var 0], .tup [.con (.str "takes"), .con (.int 0), .con (.int 1), .var 0]])]
/-- _law_deeds: 0 _law_company_here 1 _law_script_here 2 _law_found 3 _law_item 4 _law_own 5 _law_deed_here -/
def b__law_deeds_l0 : List (Sm Nat) := [.asg (.name 0) (.call n__law_behind [.var 0, .var 5])]
def b__law_deeds_f0 : Sm Nat := .fr (.name 5) (.seq (.var 4)) b__law_deeds_l0
def b__law_deeds_l1 : List (Sm Nat) := [.ife (.cmp .eq (.ix (.var 3) (.con (.int 0))) (.con (.str "ask"))) [.asg (.name 4) (.call n__law_deeds [.var 0, .ite (.call n__law_knows [.var 0, .ix (.var 3) (.con (.int 1)), .ix (.var 3) (.con (.int 2))]) (.ix (.var 3) (.con (.int 3))) (.ix (.var 3) (.con (.int 4)))])] [.asg (.name 4) (.lst [.var 3])], b__law_deeds_f0, .asg (.name 2) (.bin .add (.var 2) (.var 4))]
def b__law_deeds_f1 : Sm Nat := .fr (.name 3) (.seq (.var 1)) b__law_deeds_l1
def b__law_deeds : List (Sm Nat) := [.asg (.name 2) (.lst []),
  b__law_deeds_f1,
  .ret (.var 2)]
/-- _law_right: 0 _law_named 1 _law_company_here 2 _law_script_here 3 _law_line 4 _law_item 5 _law_deeds_here -/
def b__law_right_l0 : List (Sm Nat) := [.app 3 (.call n__law_done [.ix (.bor 3) (.neg (.con (.int 1))), .tup [.var 4]])]
def b__law_right_f0 : Sm Nat := .fr (.name 4) (.seq (.var 2)) b__law_right_l0
def b__law_right : List (Sm Nat) := [.own 3 (.lst [.var 1]),
  b__law_right_f0,
  .ife (.or (.cmp .ne (.call n_done_on [.var 0, .var 1, .var 2]) (.bor 3)) (.cmp .ne (.call n_done [.var 0, .var 1, .var 2]) (.ix (.bor 3) (.neg (.con (.int 1)))))) [.ret (.con (.bl false))] [],
  .asg (.name 5) (.call n_deeds_done [.var 0, .var 1, .var 2]),
  .ret (.and (.cmp .eq (.var 5) (.call n__law_deeds [.var 1, .var 2])) (.cmp .eq (.call n__law_done [.var 1, .blt .tuple [.var 5]]) (.ix (.bor 3) (.neg (.con (.int 1))))))]
/-- law: 0 _law_script_here 1 _law_cup_here 2 _law_turn 3 _law_named 4 _law_four 5 _law_own 6 _law_tie 7 _law_twice -/
def b_law_l0 : List (Sm Nat) := [.asg (.name 3) (.call n__law_some [.var 1, .lst [.con (.int 1), .con (.int 2), .con (.int 2), .con (.int 3)]]), .ife (.nt (.call n__law_right [.var 3, .call n__law_company [.var 1, .var 3, .con (.int 0), .con (.int 4)], .call n__law_script [.var 1, .var 3, .con (.int 6), .con (.int 3)]])) [.ret (.con (.bl false))] []]
def b_law_f0 : Sm Nat := .fr (.name 2) (.range1 (.con (.int 6))) b_law_l0
def b_law : List (Sm Nat) := [.asg (.name 1) (.call n__law_cup [.var 0]),
  b_law_f0,
  .asg (.tup [.name 4, .name 5]) (.tup [.tup [.con (.int 4), .tup [.tup [.con (.int 0), .con (.int 2)], .tup [.con (.int 1), .con (.int 3)]]], .tup [.tup [.con (.str "takes"), .con (.int 0), .con (.int 1), .tup [.con (.int 0), .con (.int 1), .con (.int 1), .con (.int 0)]], .tup [.con (.str "ask"), .con (.int 0), .con (.int 1), .tup [], .tup [.tup [.con (.str "tie"), .con (.int 0), .con (.int 1), .con (.str "know")]]]]]),
  .ife (.or (.cmp .ne (.call n_done [.con (.int 2), .var 4, .var 5]) (.tup [.con (.int 4), .tup [.tup [.con (.int 0), .con (.int 1)], .tup [.con (.int 0), .con (.int 2)], .tup [.con (.int 0), .con (.int 3)], .tup [.con (.int 1), .con (.int 3)]]])) (.cmp .ne (.call n_deeds_done [.con (.int 2), .var 4, .var 5]) (.lst [.ix (.var 5) (.con (.int 0)), .tup [.con (.str "tie"), .con (.int 0), .con (.int 1), .con (.str "know")]]))) [.ret (.con (.bl false))] [],
  .ife (.or (.cmp .ne (.call n_done_on [.con (.int 2), .tup [.con (.int 3), .tup [.tup [.con (.int 1), .con (.int 2)]]], .var 5]) (.lst [.tup [.con (.int 3), .tup [.tup [.con (.int 1), .con (.int 2)]]], .tup [.con (.int 3), .tup [.tup [.con (.int 0), .con (.int 2)], .tup [.con (.int 1), .con (.int 2)]]], .tup [.con (.int 3), .tup [.tup [.con (.int 0), .con (.int 1)], .tup [.con (.int 0), .con (.int 2)], .tup [.con (.int 1), .con (.int 2)]]]])) (.cmp .ne (.call n_done_on [.con (.int 2), .var 4, .tup []]) (.lst [.var 4]))) [.ret (.con (.bl false))] [],
  .asg (.name 6) (.tup [.con (.str "tie"), .con (.int 0), .con (.int 1), .con (.str "turn")]),
  .asg (.name 7) (.tup [.var 6, .tup [.con (.str "ask"), .con (.int 0), .con (.int 1), .tup [.tup [.con (.str "tie"), .con (.int 0), .con (.int 1), .con (.str "part")], .tup [.con (.str "ask"), .con (.int 1), .con (.int 0), .tup [], .tup [.tup [.con (.str "pairs"), .con (.int 0), .bin .mul (.tup [.con (.int 1)]) (.con (.int 6))]]]], .tup []], .tup [.con (.str "ask"), .con (.int 0), .con (.int 1), .tup [], .tup [.var 6]]]),
  .ife (.or (.cmp .ne (.call n_done [.con (.int 2), .var 4, .var 7]) (.tup [.con (.int 4), .tup [.tup [.con (.int 0), .con (.int 1)], .tup [.con (.int 0), .con (.int 2)], .tup [.con (.int 1), .con (.int 2)], .tup [.con (.int 1), .con (.int 3)], .tup [.con (.int 2), .con (.int 3)]]])) (.cmp .ne (.blt .len [.call n_deeds_done [.con (.int 2), .var 4, .var 7]]) (.con (.int 4)))) [.ret (.con (.bl false))] [],
  .ife (.or (.cmp .ne (.call n_deeds_done [.con (.int 2), .tup [.con (.int 4), .tup [.tup [.con (.int 0), .con (.int 1)]]], .var 7]) (.lst [.var 6, .var 6])) (.cmp .ne (.call n_done [.con (.int 2), .tup [.con (.int 4), .tup [.tup [.con (.int 0), .con (.int 1)]]], .var 7]) (.tup [.con (.int 4), .tup [.tup [.con (.int 0), .con (.int 1)]]]))) [.ret (.con (.bl false))] [],
  .ret (.and (.cmp .eq (.call n_done [.con (.int 2), .var 4, .call n__law_change []]) (.tup [.con (.int 4), .tup [.tup [.con (.int 0), .con (.int 3)], .tup [.con (.int 1), .con (.int 2)]]])) (.and (.call n__law_right [.con (.int 2), .var 4, .var 7]) (.call n__law_right [.con (.int 3), .var 4, .bin .add (.var 7) (.var 5)])))]
def P : Nat → FnP Nat
  | 0 => ⟨3, 3, b_is_whole⟩
  | 1 => ⟨3, 3, b_is_tuple_of⟩
  | 2 => ⟨3, 4, b_are_whole⟩
  | 3 => ⟨1, 3, b_pairs_of⟩
  | 4 => ⟨2, 2, b_pair_of⟩
  | 5 => ⟨2, 2, b_fits_tie⟩
  | 6 => ⟨2, 5, b_fits_company⟩
  | 7 => ⟨2, 3, b_company_by⟩
  | 8 => ⟨1, 2, b_ties_in⟩
  | 9 => ⟨1, 1, b_need_named⟩
  | 10 => ⟨2, 2, b_need_company⟩
  | 11 => ⟨4, 8, b_answer_of⟩
  | 12 => ⟨2, 5, b_behind⟩
  | 13 => ⟨2, 5, b_run_by⟩
  | 14 => ⟨2, 4, b_run_on⟩
  | 15 => ⟨3, 3, b_are_two_named⟩
  | 16 => ⟨2, 2, b_are_answers⟩
  | 17 => ⟨2, 2, b_fits_deed⟩
  | 18 => ⟨2, 2, b_fits_choice⟩
  | 19 => ⟨2, 7, b_items_in⟩
  | 20 => ⟨2, 5, b_fits_script⟩
  | 21 => ⟨2, 2, b_need_script⟩
  | 22 => ⟨3, 3, b_deeds_done⟩
  | 23 => ⟨3, 3, b_need_three⟩
  | 24 => ⟨3, 3, b_done⟩
  | 25 => ⟨3, 3, b_done_on⟩
  | 26 => ⟨1, 2, b__law_cup⟩
  | 27 => ⟨2, 4, b__law_roll⟩
  | 28 => ⟨2, 2, b__law_some⟩
  | 29 => ⟨2, 2, b__law_two⟩
  | 30 => ⟨3, 3, b__law_knows⟩
  | 31 => ⟨1, 4, b__law_pairs⟩
  | 32 => ⟨2, 9, b__law_behind⟩
  | 33 => ⟨2, 3, b__law_done⟩
  | 34 => ⟨4, 7, b__law_company⟩
  | 35 => ⟨2, 3, b__law_answers⟩
  | 36 => ⟨2, 6, b__law_deed⟩
  | 37 => ⟨4, 11, b__law_items⟩
  | 38 => ⟨1, 3, b__law_count⟩
  | 39 => ⟨4, 5, b__law_script⟩
  | 40 => ⟨0, 1, b__law_change⟩
  | 41 => ⟨2, 6, b__law_deeds⟩
  | 42 => ⟨3, 6, b__law_right⟩
  | 43 => ⟨1, 8, b_law⟩
  | _ => ⟨0, 0, [.bad]⟩
end K09

set_option Elab.async false
set_option linter.all false
set_option maxRecDepth 100000
namespace K09
open PySem PP
/-! K06A: the defs of companies. -/

/-! ### values that are looked at -/
/-- small data: all tuples shorter than 64 -/
def sm : Nat → PV → Bool
  | _, .non => true
  | _, .bl _ => true
  | _, .int _ => true
  | _, .str s => PySem.PyData.strOk s
  | n + 1, .tup xs => decide (xs.length < 64) && xs.all (sm n)
  | n + 1, .lst xs => decide (xs.length < 64) && xs.all (sm n)
  | _, _ => false
def isD : PV → Bool
  | .cup => false
  | .scr _ => false
  | .dic _ => false
  | _ => true
theorem sm_isD {n : Nat} {v : PV} (h : sm n v = true) : isD v = true := by
  cases v <;> first | rfl | (cases n <;> simp [sm] at h)
def wholeB (v : PV) (lo hi : Int) : Bool := match v with
  | .int i => decide (lo ≤ i) && decide (i ≤ hi)
  | _ => false
theorem f_is_whole (k : Nat) (v : PV) (lo hi : Int) (c : List PV) (h : isD v = true) : callK P (k + 1) n_is_whole [v, .int lo, .int hi] c = .ok (.bl (wholeB v lo hi)) c := by
  refine call_ok rfl rfl ?_
  cases v <;> first | (cases h; done) | skip
  all_goals simp -implicitDefEqProofs only [e_con, e_var, e_bor, e_bin, k_bin, k_bin2, e_cmp, k_cmp, k_cmp2, e_neg, k_neg, e_nt, k_nt, k_truth, k_optB, e_and, k_and, k_andT, k_andF, e_or, k_or, k_orT, k_orF, e_ite, k_iteT, k_iteF, e_chain, k_ch, k_ch2, k_ch3T, k_ch3F, e_tup, k_tup, e_lst, k_lst, e_ix, k_ix, k_ix2, e_sl, k_sl, k_sl2, k_sl3, e_call, k_call, e_blt, k_blt, e_mth, k_mth, k_mth2, e_isin, k_is, e_pick, k_pick, k_pick2, es_nil, es_cons, k_es, k_es2, o_none, o_some, k_o, c_none, c_some, i_seq, k_seqT, k_seqL, i_r1, k_r1, i_r2, k_r2, k_r3, i_zip, k_zip, k_zipT, k_zipL, i_enum, k_enum, s_asg, k_asg, s_own, k_own2, k_slotL, k_slotD, k_slotV, s_par, k_par, k_par2, s_frz, s_app, k_app, k_app2, s_ife, k_ifeT, k_ifeF, s_whl, k_w, k_wT, k_wF, k_wN, k_wR, s_ret, k_ret, s_exp, k_exp, s_setC, k_setC, k_cup0, k_cup1, s_ap, k_ap, k_ap2, k_ap3, s_rc, k_rc, ss_nil, ss_cons, k_ssN, k_ssR, finR_rt, finR_nx, pureR_some, varv_0, varv_s, borv_0, borv_0o, borv_s, truth, startP, List.map_cons, List.map_nil, List.replicate_succ, List.replicate_zero, List.cons_append, List.nil_append, Nat.reduceSub, Nat.reduceAdd, bindT, bindTs, optS_some, List.set_cons_succ, List.set_cons_zero, wipeP, mkTup_0, mkTup_1, mkTup_2, mkTup_3, mkTup_4, mkTup_5, mkTup_6, mkTup_7, mkTup_8, mkLst_0, mkLst_1, mkLst_2, mkLst_3, mkLst_4, mkLst_5, mkLst_6, mkLst_7, mkLst_8, mkLst_9, mkLst_10, mkLst_11, mkLst_12, mkLst_13, mkLst_14, mkLst_15, mkLst_16, binop, cmpop, blV, Option.map_some, isTy, bltop, Bool.not_true, Bool.not_false, item_0, item_1, item_2, item_3, item_c0, item_c1, Option.bind_some, List.getElem?_cons_zero, List.getElem?_cons_succ, if_true, if_false, Bool.false_eq_true, and_self, dat_int, dat_bl, dat_non, peq_int, peq_bl, peq_nonnon, Int.cast_ofNat_Int, Int.reduceEq, Bool.and_self, List.length_cons, List.length_nil, Int.reduceLT, Int.reduceLE, Int.reduceAdd, Int.reduceSub, Nat.reduceLT, Nat.reduceLeDiff, decide_true, decide_false, Bool.or_true, Bool.true_or, true_and, and_true, b_is_whole, wholeB]
  rename_i i
  by_cases h1 : lo ≤ i <;> simp -implicitDefEqProofs only [e_con, e_var, e_bor, e_bin, k_bin, k_bin2, e_cmp, k_cmp, k_cmp2, e_neg, k_neg, e_nt, k_nt, k_truth, k_optB, e_and, k_and, k_andT, k_andF, e_or, k_or, k_orT, k_orF, e_ite, k_iteT, k_iteF, e_chain, k_ch, k_ch2, k_ch3T, k_ch3F, e_tup, k_tup, e_lst, k_lst, e_ix, k_ix, k_ix2, e_sl, k_sl, k_sl2, k_sl3, e_call, k_call, e_blt, k_blt, e_mth, k_mth, k_mth2, e_isin, k_is, e_pick, k_pick, k_pick2, es_nil, es_cons, k_es, k_es2, o_none, o_some, k_o, c_none, c_some, i_seq, k_seqT, k_seqL, i_r1, k_r1, i_r2, k_r2, k_r3, i_zip, k_zip, k_zipT, k_zipL, i_enum, k_enum, s_asg, k_asg, s_own, k_own2, k_slotL, k_slotD, k_slotV, s_par, k_par, k_par2, s_frz, s_app, k_app, k_app2, s_ife, k_ifeT, k_ifeF, s_whl, k_w, k_wT, k_wF, k_wN, k_wR, s_ret, k_ret, s_exp, k_exp, s_setC, k_setC, k_cup0, k_cup1, s_ap, k_ap, k_ap2, k_ap3, s_rc, k_rc, ss_nil, ss_cons, k_ssN, k_ssR, finR_rt, finR_nx, pureR_some, varv_0, varv_s, borv_0, borv_0o, borv_s, truth, startP, List.map_cons, List.map_nil, List.replicate_succ, List.replicate_zero, List.cons_append, List.nil_append, Nat.reduceSub, Nat.reduceAdd, bindT, bindTs, optS_some, List.set_cons_succ, List.set_cons_zero, wipeP, mkTup_0, mkTup_1, mkTup_2, mkTup_3, mkTup_4, mkTup_5, mkTup_6, mkTup_7, mkTup_8, mkLst_0, mkLst_1, mkLst_2, mkLst_3, mkLst_4, mkLst_5, mkLst_6, mkLst_7, mkLst_8, mkLst_9, mkLst_10, mkLst_11, mkLst_12, mkLst_13, mkLst_14, mkLst_15, mkLst_16, binop, cmpop, blV, Option.map_some, isTy, bltop, Bool.not_true, Bool.not_false, item_0, item_1, item_2, item_3, item_c0, item_c1, Option.bind_some, List.getElem?_cons_zero, List.getElem?_cons_succ, if_true, if_false, Bool.false_eq_true, and_self, dat_int, dat_bl, dat_non, peq_int, peq_bl, peq_nonnon, Int.cast_ofNat_Int, Int.reduceEq, Bool.and_self, List.length_cons, List.length_nil, Int.reduceLT, Int.reduceLE, Int.reduceAdd, Int.reduceSub, Nat.reduceLT, Nat.reduceLeDiff, decide_true, decide_false, Bool.or_true, Bool.true_or, true_and, and_true, h1, decide_true, decide_false, Bool.true_and, Bool.false_and]
def tupB (v : PV) (lo hi : Int) : Bool := match v with
  | .tup xs => decide (lo ≤ xs.length) && decide ((xs.length : Int) ≤ hi)
  | _ => false
theorem f_is_tuple_of (k : Nat) (v : PV) (lo hi : Int) (c : List PV) (h : isD v = true) : callK P (k + 1) n_is_tuple_of [v, .int lo, .int hi] c = .ok (.bl (tupB v lo hi)) c := by
  refine call_ok rfl rfl ?_
  cases v <;> first | (cases h; done) | skip
  all_goals simp -implicitDefEqProofs only [e_con, e_var, e_bor, e_bin, k_bin, k_bin2, e_cmp, k_cmp, k_cmp2, e_neg, k_neg, e_nt, k_nt, k_truth, k_optB, e_and, k_and, k_andT, k_andF, e_or, k_or, k_orT, k_orF, e_ite, k_iteT, k_iteF, e_chain, k_ch, k_ch2, k_ch3T, k_ch3F, e_tup, k_tup, e_lst, k_lst, e_ix, k_ix, k_ix2, e_sl, k_sl, k_sl2, k_sl3, e_call, k_call, e_blt, k_blt, e_mth, k_mth, k_mth2, e_isin, k_is, e_pick, k_pick, k_pick2, es_nil, es_cons, k_es, k_es2, o_none, o_some, k_o, c_none, c_some, i_seq, k_seqT, k_seqL, i_r1, k_r1, i_r2, k_r2, k_r3, i_zip, k_zip, k_zipT, k_zipL, i_enum, k_enum, s_asg, k_asg, s_own, k_own2, k_slotL, k_slotD, k_slotV, s_par, k_par, k_par2, s_frz, s_app, k_app, k_app2, s_ife, k_ifeT, k_ifeF, s_whl, k_w, k_wT, k_wF, k_wN, k_wR, s_ret, k_ret, s_exp, k_exp, s_setC, k_setC, k_cup0, k_cup1, s_ap, k_ap, k_ap2, k_ap3, s_rc, k_rc, ss_nil, ss_cons, k_ssN, k_ssR, finR_rt, finR_nx, pureR_some, varv_0, varv_s, borv_0, borv_0o, borv_s, truth, startP, List.map_cons, List.map_nil, List.replicate_succ, List.replicate_zero, List.cons_append, List.nil_append, Nat.reduceSub, Nat.reduceAdd, bindT, bindTs, optS_some, List.set_cons_succ, List.set_cons_zero, wipeP, mkTup_0, mkTup_1, mkTup_2, mkTup_3, mkTup_4, mkTup_5, mkTup_6, mkTup_7, mkTup_8, mkLst_0, mkLst_1, mkLst_2, mkLst_3, mkLst_4, mkLst_5, mkLst_6, mkLst_7, mkLst_8, mkLst_9, mkLst_10, mkLst_11, mkLst_12, mkLst_13, mkLst_14, mkLst_15, mkLst_16, binop, cmpop, blV, Option.map_some, isTy, bltop, Bool.not_true, Bool.not_false, item_0, item_1, item_2, item_3, item_c0, item_c1, Option.bind_some, List.getElem?_cons_zero, List.getElem?_cons_succ, if_true, if_false, Bool.false_eq_true, and_self, dat_int, dat_bl, dat_non, peq_int, peq_bl, peq_nonnon, Int.cast_ofNat_Int, Int.reduceEq, Bool.and_self, List.length_cons, List.length_nil, Int.reduceLT, Int.reduceLE, Int.reduceAdd, Int.reduceSub, Nat.reduceLT, Nat.reduceLeDiff, decide_true, decide_false, Bool.or_true, Bool.true_or, true_and, and_true, b_is_tuple_of, tupB]
  rename_i xs
  by_cases h1 : lo ≤ xs.length <;> simp -implicitDefEqProofs only [e_con, e_var, e_bor, e_bin, k_bin, k_bin2, e_cmp, k_cmp, k_cmp2, e_neg, k_neg, e_nt, k_nt, k_truth, k_optB, e_and, k_and, k_andT, k_andF, e_or, k_or, k_orT, k_orF, e_ite, k_iteT, k_iteF, e_chain, k_ch, k_ch2, k_ch3T, k_ch3F, e_tup, k_tup, e_lst, k_lst, e_ix, k_ix, k_ix2, e_sl, k_sl, k_sl2, k_sl3, e_call, k_call, e_blt, k_blt, e_mth, k_mth, k_mth2, e_isin, k_is, e_pick, k_pick, k_pick2, es_nil, es_cons, k_es, k_es2, o_none, o_some, k_o, c_none, c_some, i_seq, k_seqT, k_seqL, i_r1, k_r1, i_r2, k_r2, k_r3, i_zip, k_zip, k_zipT, k_zipL, i_enum, k_enum, s_asg, k_asg, s_own, k_own2, k_slotL, k_slotD, k_slotV, s_par, k_par, k_par2, s_frz, s_app, k_app, k_app2, s_ife, k_ifeT, k_ifeF, s_whl, k_w, k_wT, k_wF, k_wN, k_wR, s_ret, k_ret, s_exp, k_exp, s_setC, k_setC, k_cup0, k_cup1, s_ap, k_ap, k_ap2, k_ap3, s_rc, k_rc, ss_nil, ss_cons, k_ssN, k_ssR, finR_rt, finR_nx, pureR_some, varv_0, varv_s, borv_0, borv_0o, borv_s, truth, startP, List.map_cons, List.map_nil, List.replicate_succ, List.replicate_zero, List.cons_append, List.nil_append, Nat.reduceSub, Nat.reduceAdd, bindT, bindTs, optS_some, List.set_cons_succ, List.set_cons_zero, wipeP, mkTup_0, mkTup_1, mkTup_2, mkTup_3, mkTup_4, mkTup_5, mkTup_6, mkTup_7, mkTup_8, mkLst_0, mkLst_1, mkLst_2, mkLst_3, mkLst_4, mkLst_5, mkLst_6, mkLst_7, mkLst_8, mkLst_9, mkLst_10, mkLst_11, mkLst_12, mkLst_13, mkLst_14, mkLst_15, mkLst_16, binop, cmpop, blV, Option.map_some, isTy, bltop, Bool.not_true, Bool.not_false, item_0, item_1, item_2, item_3, item_c0, item_c1, Option.bind_some, List.getElem?_cons_zero, List.getElem?_cons_succ, if_true, if_false, Bool.false_eq_true, and_self, dat_int, dat_bl, dat_non, peq_int, peq_bl, peq_nonnon, Int.cast_ofNat_Int, Int.reduceEq, Bool.and_self, List.length_cons, List.length_nil, Int.reduceLT, Int.reduceLE, Int.reduceAdd, Int.reduceSub, Nat.reduceLT, Nat.reduceLeDiff, decide_true, decide_false, Bool.or_true, Bool.true_or, true_and, and_true, h1, decide_true, decide_false, Bool.true_and, Bool.false_and]
theorem asBools_map {α : Type} (p : α → Bool) : ∀ xs : List α, asBools (xs.map fun x => PV.bl (p x)) = some (xs.map p)
  | [] => rfl
  | x :: r => by rw [List.map_cons, asBools, asBools_map p r]; rfl
theorem all_map {α : Type} (p : α → Bool) (xs : List α) : Option.map (fun bs : List Bool => PV.bl (bs.all id)) (asBools (xs.map fun x => PV.bl (p x))) = some (.bl (xs.all p)) := by
  rw [asBools_map]
  simp
theorem f_are_whole (k : Nat) (xs : List PV) (lo hi : Int) (c : List PV) (h : ∀ x ∈ xs, isD x = true) (hl : xs.length < 64) : callK P (k + 2) n_are_whole [.tup xs, .int lo, .int hi] c = .ok (.bl (xs.all (wholeB · lo hi))) c := by
  have h1 : evalE (callK P (k + 1)) b_are_whole_c0 [.val (.tup xs), .val (.int lo), .val (.int hi), .no] c = .ok (.lst (xs.map fun x => PV.bl (wholeB x lo hi))) c := by
    refine comp_map xs id _ ?_ (fun x hm => ⟨_, rfl, ?_⟩) (by unfold LIM; omega)
    · simp -implicitDefEqProofs only [e_con, e_var, e_bor, e_bin, k_bin, k_bin2, e_cmp, k_cmp, k_cmp2, e_neg, k_neg, e_nt, k_nt, k_truth, k_optB, e_and, k_and, k_andT, k_andF, e_or, k_or, k_orT, k_orF, e_ite, k_iteT, k_iteF, e_chain, k_ch, k_ch2, k_ch3T, k_ch3F, e_tup, k_tup, e_lst, k_lst, e_ix, k_ix, k_ix2, e_sl, k_sl, k_sl2, k_sl3, e_call, k_call, e_blt, k_blt, e_mth, k_mth, k_mth2, e_isin, k_is, e_pick, k_pick, k_pick2, es_nil, es_cons, k_es, k_es2, o_none, o_some, k_o, c_none, c_some, i_seq, k_seqT, k_seqL, i_r1, k_r1, i_r2, k_r2, k_r3, i_zip, k_zip, k_zipT, k_zipL, i_enum, k_enum, s_asg, k_asg, s_own, k_own2, k_slotL, k_slotD, k_slotV, s_par, k_par, k_par2, s_frz, s_app, k_app, k_app2, s_ife, k_ifeT, k_ifeF, s_whl, k_w, k_wT, k_wF, k_wN, k_wR, s_ret, k_ret, s_exp, k_exp, s_setC, k_setC, k_cup0, k_cup1, s_ap, k_ap, k_ap2, k_ap3, s_rc, k_rc, ss_nil, ss_cons, k_ssN, k_ssR, finR_rt, finR_nx, pureR_some, varv_0, varv_s, borv_0, borv_0o, borv_s, truth, startP, List.map_cons, List.map_nil, List.replicate_succ, List.replicate_zero, List.cons_append, List.nil_append, Nat.reduceSub, Nat.reduceAdd, bindT, bindTs, optS_some, List.set_cons_succ, List.set_cons_zero, wipeP, mkTup_0, mkTup_1, mkTup_2, mkTup_3, mkTup_4, mkTup_5, mkTup_6, mkTup_7, mkTup_8, mkLst_0, mkLst_1, mkLst_2, mkLst_3, mkLst_4, mkLst_5, mkLst_6, mkLst_7, mkLst_8, mkLst_9, mkLst_10, mkLst_11, mkLst_12, mkLst_13, mkLst_14, mkLst_15, mkLst_16, binop, cmpop, blV, Option.map_some, isTy, bltop, Bool.not_true, Bool.not_false, item_0, item_1, item_2, item_3, item_c0, item_c1, Option.bind_some, List.getElem?_cons_zero, List.getElem?_cons_succ, if_true, if_false, Bool.false_eq_true, and_self, dat_int, dat_bl, dat_non, peq_int, peq_bl, peq_nonnon, Int.cast_ofNat_Int, Int.reduceEq, Bool.and_self, List.length_cons, List.length_nil, Int.reduceLT, Int.reduceLE, Int.reduceAdd, Int.reduceSub, Nat.reduceLT, Nat.reduceLeDiff, decide_true, decide_false, Bool.or_true, Bool.true_or, true_and, and_true, asSeq, seqR, List.map_id]
    · simp -implicitDefEqProofs only [e_con, e_var, e_bor, e_bin, k_bin, k_bin2, e_cmp, k_cmp, k_cmp2, e_neg, k_neg, e_nt, k_nt, k_truth, k_optB, e_and, k_and, k_andT, k_andF, e_or, k_or, k_orT, k_orF, e_ite, k_iteT, k_iteF, e_chain, k_ch, k_ch2, k_ch3T, k_ch3F, e_tup, k_tup, e_lst, k_lst, e_ix, k_ix, k_ix2, e_sl, k_sl, k_sl2, k_sl3, e_call, k_call, e_blt, k_blt, e_mth, k_mth, k_mth2, e_isin, k_is, e_pick, k_pick, k_pick2, es_nil, es_cons, k_es, k_es2, o_none, o_some, k_o, c_none, c_some, i_seq, k_seqT, k_seqL, i_r1, k_r1, i_r2, k_r2, k_r3, i_zip, k_zip, k_zipT, k_zipL, i_enum, k_enum, s_asg, k_asg, s_own, k_own2, k_slotL, k_slotD, k_slotV, s_par, k_par, k_par2, s_frz, s_app, k_app, k_app2, s_ife, k_ifeT, k_ifeF, s_whl, k_w, k_wT, k_wF, k_wN, k_wR, s_ret, k_ret, s_exp, k_exp, s_setC, k_setC, k_cup0, k_cup1, s_ap, k_ap, k_ap2, k_ap3, s_rc, k_rc, ss_nil, ss_cons, k_ssN, k_ssR, finR_rt, finR_nx, pureR_some, varv_0, varv_s, borv_0, borv_0o, borv_s, truth, startP, List.map_cons, List.map_nil, List.replicate_succ, List.replicate_zero, List.cons_append, List.nil_append, Nat.reduceSub, Nat.reduceAdd, bindT, bindTs, optS_some, List.set_cons_succ, List.set_cons_zero, wipeP, mkTup_0, mkTup_1, mkTup_2, mkTup_3, mkTup_4, mkTup_5, mkTup_6, mkTup_7, mkTup_8, mkLst_0, mkLst_1, mkLst_2, mkLst_3, mkLst_4, mkLst_5, mkLst_6, mkLst_7, mkLst_8, mkLst_9, mkLst_10, mkLst_11, mkLst_12, mkLst_13, mkLst_14, mkLst_15, mkLst_16, binop, cmpop, blV, Option.map_some, isTy, bltop, Bool.not_true, Bool.not_false, item_0, item_1, item_2, item_3, item_c0, item_c1, Option.bind_some, List.getElem?_cons_zero, List.getElem?_cons_succ, if_true, if_false, Bool.false_eq_true, and_self, dat_int, dat_bl, dat_non, peq_int, peq_bl, peq_nonnon, Int.cast_ofNat_Int, Int.reduceEq, Bool.and_self, List.length_cons, List.length_nil, Int.reduceLT, Int.reduceLE, Int.reduceAdd, Int.reduceSub, Nat.reduceLT, Nat.reduceLeDiff, decide_true, decide_false, Bool.or_true, Bool.true_or, true_and, and_true, id, f_is_whole k x lo hi c (h x hm)]
  refine call_ok rfl rfl ?_
  simp -implicitDefEqProofs only [e_con, e_var, e_bor, e_bin, k_bin, k_bin2, e_cmp, k_cmp, k_cmp2, e_neg, k_neg, e_nt, k_nt, k_truth, k_optB, e_and, k_and, k_andT, k_andF, e_or, k_or, k_orT, k_orF, e_ite, k_iteT, k_iteF, e_chain, k_ch, k_ch2, k_ch3T, k_ch3F, e_tup, k_tup, e_lst, k_lst, e_ix, k_ix, k_ix2, e_sl, k_sl, k_sl2, k_sl3, e_call, k_call, e_blt, k_blt, e_mth, k_mth, k_mth2, e_isin, k_is, e_pick, k_pick, k_pick2, es_nil, es_cons, k_es, k_es2, o_none, o_some, k_o, c_none, c_some, i_seq, k_seqT, k_seqL, i_r1, k_r1, i_r2, k_r2, k_r3, i_zip, k_zip, k_zipT, k_zipL, i_enum, k_enum, s_asg, k_asg, s_own, k_own2, k_slotL, k_slotD, k_slotV, s_par, k_par, k_par2, s_frz, s_app, k_app, k_app2, s_ife, k_ifeT, k_ifeF, s_whl, k_w, k_wT, k_wF, k_wN, k_wR, s_ret, k_ret, s_exp, k_exp, s_setC, k_setC, k_cup0, k_cup1, s_ap, k_ap, k_ap2, k_ap3, s_rc, k_rc, ss_nil, ss_cons, k_ssN, k_ssR, finR_rt, finR_nx, pureR_some, varv_0, varv_s, borv_0, borv_0o, borv_s, truth, startP, List.map_cons, List.map_nil, List.replicate_succ, List.replicate_zero, List.cons_append, List.nil_append, Nat.reduceSub, Nat.reduceAdd, bindT, bindTs, optS_some, List.set_cons_succ, List.set_cons_zero, wipeP, mkTup_0, mkTup_1, mkTup_2, mkTup_3, mkTup_4, mkTup_5, mkTup_6, mkTup_7, mkTup_8, mkLst_0, mkLst_1, mkLst_2, mkLst_3, mkLst_4, mkLst_5, mkLst_6, mkLst_7, mkLst_8, mkLst_9, mkLst_10, mkLst_11, mkLst_12, mkLst_13, mkLst_14, mkLst_15, mkLst_16, binop, cmpop, blV, Option.map_some, isTy, bltop, Bool.not_true, Bool.not_false, item_0, item_1, item_2, item_3, item_c0, item_c1, Option.bind_some, List.getElem?_cons_zero, List.getElem?_cons_succ, if_true, if_false, Bool.false_eq_true, and_self, dat_int, dat_bl, dat_non, peq_int, peq_bl, peq_nonnon, Int.cast_ofNat_Int, Int.reduceEq, Bool.and_self, List.length_cons, List.length_nil, Int.reduceLT, Int.reduceLE, Int.reduceAdd, Int.reduceSub, Nat.reduceLT, Nat.reduceLeDiff, decide_true, decide_false, Bool.or_true, Bool.true_or, true_and, and_true, b_are_whole, h1, all_map]

/-! ### pairs -/
def prs (n : Nat) : List (Int × Int) := (List.range n).flatMap fun i => (List.range (n - (i + 1))).map fun j => ((i : Int), ((i + 1 + j : Nat) : Int))
theorem n9 {n : Nat} {p : Nat → Prop} (h : n ≤ 9) (h0 : p 0) (h1 : p 1) (h2 : p 2) (h3 : p 3) (h4 : p 4) (h5 : p 5) (h6 : p 6) (h7 : p 7) (h8 : p 8) (h9 : p 9) : p n := by
  have : n = 0 ∨ n = 1 ∨ n = 2 ∨ n = 3 ∨ n = 4 ∨ n = 5 ∨ n = 6 ∨ n = 7 ∨ n = 8 ∨ n = 9 := by omega
  rcases this with h | h | h | h | h | h | h | h | h | h <;> subst h <;> assumption
theorem f_pairs_of (k : Nat) (n : Nat) (c : List PV) (h : n ≤ 9) : callK P (k + 1) n_pairs_of [.int n] c = .ok (.lst ((prs n).map prV)) c :=
  n9 (p := fun n => callK P (k + 1) n_pairs_of [.int n] c = .ok (.lst ((prs n).map prV)) c) h rfl rfl rfl rfl rfl rfl rfl rfl rfl rfl
theorem f__law_pairs (k : Nat) (n : Nat) (c : List PV) (h : n ≤ 9) : callK P (k + 1) n__law_pairs [.int n] c = .ok (.lst ((prs n).map prV)) c :=
  n9 (p := fun n => callK P (k + 1) n__law_pairs [.int n] c = .ok (.lst ((prs n).map prV)) c) h rfl rfl rfl rfl rfl rfl rfl rfl rfl rfl
theorem f_pair_of (k : Nat) (a b : Int) (c : List PV) : callK P (k + 1) n_pair_of [.int a, .int b] c = .ok (prV (if b < a then b else a, if b > a then b else a)) c := by
  refine call_ok rfl rfl ?_
  simp -implicitDefEqProofs only [e_con, e_var, e_bor, e_bin, k_bin, k_bin2, e_cmp, k_cmp, k_cmp2, e_neg, k_neg, e_nt, k_nt, k_truth, k_optB, e_and, k_and, k_andT, k_andF, e_or, k_or, k_orT, k_orF, e_ite, k_iteT, k_iteF, e_chain, k_ch, k_ch2, k_ch3T, k_ch3F, e_tup, k_tup, e_lst, k_lst, e_ix, k_ix, k_ix2, e_sl, k_sl, k_sl2, k_sl3, e_call, k_call, e_blt, k_blt, e_mth, k_mth, k_mth2, e_isin, k_is, e_pick, k_pick, k_pick2, es_nil, es_cons, k_es, k_es2, o_none, o_some, k_o, c_none, c_some, i_seq, k_seqT, k_seqL, i_r1, k_r1, i_r2, k_r2, k_r3, i_zip, k_zip, k_zipT, k_zipL, i_enum, k_enum, s_asg, k_asg, s_own, k_own2, k_slotL, k_slotD, k_slotV, s_par, k_par, k_par2, s_frz, s_app, k_app, k_app2, s_ife, k_ifeT, k_ifeF, s_whl, k_w, k_wT, k_wF, k_wN, k_wR, s_ret, k_ret, s_exp, k_exp, s_setC, k_setC, k_cup0, k_cup1, s_ap, k_ap, k_ap2, k_ap3, s_rc, k_rc, ss_nil, ss_cons, k_ssN, k_ssR, finR_rt, finR_nx, pureR_some, varv_0, varv_s, borv_0, borv_0o, borv_s, truth, startP, List.map_cons, List.map_nil, List.replicate_succ, List.replicate_zero, List.cons_append, List.nil_append, Nat.reduceSub, Nat.reduceAdd, bindT, bindTs, optS_some, List.set_cons_succ, List.set_cons_zero, wipeP, mkTup_0, mkTup_1, mkTup_2, mkTup_3, mkTup_4, mkTup_5, mkTup_6, mkTup_7, mkTup_8, mkLst_0, mkLst_1, mkLst_2, mkLst_3, mkLst_4, mkLst_5, mkLst_6, mkLst_7, mkLst_8, mkLst_9, mkLst_10, mkLst_11, mkLst_12, mkLst_13, mkLst_14, mkLst_15, mkLst_16, binop, cmpop, blV, Option.map_some, isTy, bltop, Bool.not_true, Bool.not_false, item_0, item_1, item_2, item_3, item_c0, item_c1, Option.bind_some, List.getElem?_cons_zero, List.getElem?_cons_succ, if_true, if_false, Bool.false_eq_true, and_self, dat_int, dat_bl, dat_non, peq_int, peq_bl, peq_nonnon, Int.cast_ofNat_Int, Int.reduceEq, Bool.and_self, List.length_cons, List.length_nil, Int.reduceLT, Int.reduceLE, Int.reduceAdd, Int.reduceSub, Nat.reduceLT, Nat.reduceLeDiff, decide_true, decide_false, Bool.or_true, Bool.true_or, true_and, and_true, b_pair_of, prV]
theorem f__law_two (k : Nat) (a b : Int) (c : List PV) : callK P (k + 1) n__law_two [.int a, .int b] c = .ok (prV (if a < b then (a, b) else (b, a))) c := by
  refine call_ok rfl rfl ?_
  by_cases h : a < b <;> simp -implicitDefEqProofs only [e_con, e_var, e_bor, e_bin, k_bin, k_bin2, e_cmp, k_cmp, k_cmp2, e_neg, k_neg, e_nt, k_nt, k_truth, k_optB, e_and, k_and, k_andT, k_andF, e_or, k_or, k_orT, k_orF, e_ite, k_iteT, k_iteF, e_chain, k_ch, k_ch2, k_ch3T, k_ch3F, e_tup, k_tup, e_lst, k_lst, e_ix, k_ix, k_ix2, e_sl, k_sl, k_sl2, k_sl3, e_call, k_call, e_blt, k_blt, e_mth, k_mth, k_mth2, e_isin, k_is, e_pick, k_pick, k_pick2, es_nil, es_cons, k_es, k_es2, o_none, o_some, k_o, c_none, c_some, i_seq, k_seqT, k_seqL, i_r1, k_r1, i_r2, k_r2, k_r3, i_zip, k_zip, k_zipT, k_zipL, i_enum, k_enum, s_asg, k_asg, s_own, k_own2, k_slotL, k_slotD, k_slotV, s_par, k_par, k_par2, s_frz, s_app, k_app, k_app2, s_ife, k_ifeT, k_ifeF, s_whl, k_w, k_wT, k_wF, k_wN, k_wR, s_ret, k_ret, s_exp, k_exp, s_setC, k_setC, k_cup0, k_cup1, s_ap, k_ap, k_ap2, k_ap3, s_rc, k_rc, ss_nil, ss_cons, k_ssN, k_ssR, finR_rt, finR_nx, pureR_some, varv_0, varv_s, borv_0, borv_0o, borv_s, truth, startP, List.map_cons, List.map_nil, List.replicate_succ, List.replicate_zero, List.cons_append, List.nil_append, Nat.reduceSub, Nat.reduceAdd, bindT, bindTs, optS_some, List.set_cons_succ, List.set_cons_zero, wipeP, mkTup_0, mkTup_1, mkTup_2, mkTup_3, mkTup_4, mkTup_5, mkTup_6, mkTup_7, mkTup_8, mkLst_0, mkLst_1, mkLst_2, mkLst_3, mkLst_4, mkLst_5, mkLst_6, mkLst_7, mkLst_8, mkLst_9, mkLst_10, mkLst_11, mkLst_12, mkLst_13, mkLst_14, mkLst_15, mkLst_16, binop, cmpop, blV, Option.map_some, isTy, bltop, Bool.not_true, Bool.not_false, item_0, item_1, item_2, item_3, item_c0, item_c1, Option.bind_some, List.getElem?_cons_zero, List.getElem?_cons_succ, if_true, if_false, Bool.false_eq_true, and_self, dat_int, dat_bl, dat_non, peq_int, peq_bl, peq_nonnon, Int.cast_ofNat_Int, Int.reduceEq, Bool.and_self, List.length_cons, List.length_nil, Int.reduceLT, Int.reduceLE, Int.reduceAdd, Int.reduceSub, Nat.reduceLT, Nat.reduceLeDiff, decide_true, decide_false, Bool.or_true, Bool.true_or, true_and, and_true, b__law_two, prV, h, decide_true, decide_false, if_true, if_false]
def ltP (p q : Int × Int) : Bool := decide (p.1 < q.1 ∨ p.1 = q.1 ∧ p.2 < q.2)
theorem lt_pr (p q : Int × Int) : pcmp (prV p) (prV q) = some (ltP p q) := by
  obtain ⟨a, b⟩ := p
  obtain ⟨d, e⟩ := q
  unfold pcmp
  rw [if_pos (by rfl)]
  congr 1
  show PySem.W.dataLt (.tuple [.int a, .int b]) (.tuple [.int d, .int e]) = _
  rw [PySem.W.dataLt_tuple]
  by_cases h : a = d
  · subst h
    rw [PySem.W.dataLt_all_yes rfl (by simp [PyData.eqv])]
    by_cases h2 : b = e
    · subst h2
      rw [PySem.W.dataLt_all_yes rfl (by simp [PyData.eqv])]
      have : ltP (a, b) (a, b) = false := by simp [ltP]
      rw [this]
      decide +kernel
    · rw [PySem.W.dataLt_all_no rfl (by simp [PyData.eqv, h2]), PySem.W.dataLt_int]
      simp [ltP]
  · rw [PySem.W.dataLt_all_no rfl (by simp [PyData.eqv, h]), PySem.W.dataLt_int]
    simp [ltP, h]
def fitsTieB (hi : Int) : PV → Bool
  | .tup [.int a, .int b] => decide (0 ≤ a) && decide (a ≤ hi) && (decide (0 ≤ b) && decide (b ≤ hi)) && decide (a < b)
  | _ => false
theorem sm_tup {n : Nat} {xs : List PV} (h : sm (n + 1) (.tup xs) = true) : xs.length < 64 ∧ ∀ x ∈ xs, sm n x = true := by
  rw [sm, Bool.and_eq_true, List.all_eq_true] at h
  exact ⟨of_decide_eq_true h.1, h.2⟩
theorem whole_int {v : PV} {lo hi : Int} (h : wholeB v lo hi = true) : ∃ i, v = .int i ∧ lo ≤ i ∧ i ≤ hi := by
  cases v <;> first | (cases h; done) | skip
  rename_i i
  unfold wholeB at h
  rw [Bool.and_eq_true, decide_eq_true_iff, decide_eq_true_iff] at h
  exact ⟨i, rfl, h.1, h.2⟩
theorem tup2_of {v : PV} (h : tupB v 2 2 = true) : ∃ a b, v = .tup [a, b] := by
  cases v <;> first | (cases h; done) | skip
  rename_i xs
  unfold tupB at h
  rw [Bool.and_eq_true, decide_eq_true_iff, decide_eq_true_iff] at h
  have : xs.length = 2 := by omega
  match xs, this with
  | [a, b], _ => exact ⟨a, b, rfl⟩
theorem f_fits_tie (k : Nat) (hi : Int) (v : PV) (c : List PV) (h : sm 3 v = true) : callK P (k + 3) n_fits_tie [.int hi, v] c = .ok (.bl (fitsTieB (hi - 1) v)) c := by
  have hd := sm_isD h
  refine call_ok rfl rfl ?_
  have e1 := f_is_tuple_of (k + 1) v 2 2 c hd
  cases hv : tupB v 2 2 with
  | true =>
    obtain ⟨a, b, rfl⟩ := tup2_of hv
    rw [hv] at e1
    obtain ⟨h1, h2⟩ := sm_tup h
    have e2 := f_are_whole k [a, b] 0 (hi - 1) c (fun x hx => sm_isD (h2 x hx)) (by show 2 < 64; decide)
    cases hw : [a, b].all (wholeB · 0 (hi - 1)) with
    | true =>
      rw [hw] at e2
      simp only [List.all_cons, List.all_nil, Bool.and_true, Bool.and_eq_true] at hw
      obtain ⟨i, rfl, i1, i2⟩ := whole_int hw.1
      obtain ⟨j, rfl, j1, j2⟩ := whole_int hw.2
      simp -implicitDefEqProofs only [e_con, e_var, e_bor, e_bin, k_bin, k_bin2, e_cmp, k_cmp, k_cmp2, e_neg, k_neg, e_nt, k_nt, k_truth, k_optB, e_and, k_and, k_andT, k_andF, e_or, k_or, k_orT, k_orF, e_ite, k_iteT, k_iteF, e_chain, k_ch, k_ch2, k_ch3T, k_ch3F, e_tup, k_tup, e_lst, k_lst, e_ix, k_ix, k_ix2, e_sl, k_sl, k_sl2, k_sl3, e_call, k_call, e_blt, k_blt, e_mth, k_mth, k_mth2, e_isin, k_is, e_pick, k_pick, k_pick2, es_nil, es_cons, k_es, k_es2, o_none, o_some, k_o, c_none, c_some, i_seq, k_seqT, k_seqL, i_r1, k_r1, i_r2, k_r2, k_r3, i_zip, k_zip, k_zipT, k_zipL, i_enum, k_enum, s_asg, k_asg, s_own, k_own2, k_slotL, k_slotD, k_slotV, s_par, k_par, k_par2, s_frz, s_app, k_app, k_app2, s_ife, k_ifeT, k_ifeF, s_whl, k_w, k_wT, k_wF, k_wN, k_wR, s_ret, k_ret, s_exp, k_exp, s_setC, k_setC, k_cup0, k_cup1, s_ap, k_ap, k_ap2, k_ap3, s_rc, k_rc, ss_nil, ss_cons, k_ssN, k_ssR, finR_rt, finR_nx, pureR_some, varv_0, varv_s, borv_0, borv_0o, borv_s, truth, startP, List.map_cons, List.map_nil, List.replicate_succ, List.replicate_zero, List.cons_append, List.nil_append, Nat.reduceSub, Nat.reduceAdd, bindT, bindTs, optS_some, List.set_cons_succ, List.set_cons_zero, wipeP, mkTup_0, mkTup_1, mkTup_2, mkTup_3, mkTup_4, mkTup_5, mkTup_6, mkTup_7, mkTup_8, mkLst_0, mkLst_1, mkLst_2, mkLst_3, mkLst_4, mkLst_5, mkLst_6, mkLst_7, mkLst_8, mkLst_9, mkLst_10, mkLst_11, mkLst_12, mkLst_13, mkLst_14, mkLst_15, mkLst_16, binop, cmpop, blV, Option.map_some, isTy, bltop, Bool.not_true, Bool.not_false, item_0, item_1, item_2, item_3, item_c0, item_c1, Option.bind_some, List.getElem?_cons_zero, List.getElem?_cons_succ, if_true, if_false, Bool.false_eq_true, and_self, dat_int, dat_bl, dat_non, peq_int, peq_bl, peq_nonnon, Int.cast_ofNat_Int, Int.reduceEq, Bool.and_self, List.length_cons, List.length_nil, Int.reduceLT, Int.reduceLE, Int.reduceAdd, Int.reduceSub, Nat.reduceLT, Nat.reduceLeDiff, decide_true, decide_false, Bool.or_true, Bool.true_or, true_and, and_true, b_fits_tie, e1, e2]
      simp [fitsTieB, i1, i2, j1, j2]
    | false =>
      rw [hw] at e2
      simp -implicitDefEqProofs only [e_con, e_var, e_bor, e_bin, k_bin, k_bin2, e_cmp, k_cmp, k_cmp2, e_neg, k_neg, e_nt, k_nt, k_truth, k_optB, e_and, k_and, k_andT, k_andF, e_or, k_or, k_orT, k_orF, e_ite, k_iteT, k_iteF, e_chain, k_ch, k_ch2, k_ch3T, k_ch3F, e_tup, k_tup, e_lst, k_lst, e_ix, k_ix, k_ix2, e_sl, k_sl, k_sl2, k_sl3, e_call, k_call, e_blt, k_blt, e_mth, k_mth, k_mth2, e_isin, k_is, e_pick, k_pick, k_pick2, es_nil, es_cons, k_es, k_es2, o_none, o_some, k_o, c_none, c_some, i_seq, k_seqT, k_seqL, i_r1, k_r1, i_r2, k_r2, k_r3, i_zip, k_zip, k_zipT, k_zipL, i_enum, k_enum, s_asg, k_asg, s_own, k_own2, k_slotL, k_slotD, k_slotV, s_par, k_par, k_par2, s_frz, s_app, k_app, k_app2, s_ife, k_ifeT, k_ifeF, s_whl, k_w, k_wT, k_wF, k_wN, k_wR, s_ret, k_ret, s_exp, k_exp, s_setC, k_setC, k_cup0, k_cup1, s_ap, k_ap, k_ap2, k_ap3, s_rc, k_rc, ss_nil, ss_cons, k_ssN, k_ssR, finR_rt, finR_nx, pureR_some, varv_0, varv_s, borv_0, borv_0o, borv_s, truth, startP, List.map_cons, List.map_nil, List.replicate_succ, List.replicate_zero, List.cons_append, List.nil_append, Nat.reduceSub, Nat.reduceAdd, bindT, bindTs, optS_some, List.set_cons_succ, List.set_cons_zero, wipeP, mkTup_0, mkTup_1, mkTup_2, mkTup_3, mkTup_4, mkTup_5, mkTup_6, mkTup_7, mkTup_8, mkLst_0, mkLst_1, mkLst_2, mkLst_3, mkLst_4, mkLst_5, mkLst_6, mkLst_7, mkLst_8, mkLst_9, mkLst_10, mkLst_11, mkLst_12, mkLst_13, mkLst_14, mkLst_15, mkLst_16, binop, cmpop, blV, Option.map_some, isTy, bltop, Bool.not_true, Bool.not_false, item_0, item_1, item_2, item_3, item_c0, item_c1, Option.bind_some, List.getElem?_cons_zero, List.getElem?_cons_succ, if_true, if_false, Bool.false_eq_true, and_self, dat_int, dat_bl, dat_non, peq_int, peq_bl, peq_nonnon, Int.cast_ofNat_Int, Int.reduceEq, Bool.and_self, List.length_cons, List.length_nil, Int.reduceLT, Int.reduceLE, Int.reduceAdd, Int.reduceSub, Nat.reduceLT, Nat.reduceLeDiff, decide_true, decide_false, Bool.or_true, Bool.true_or, true_and, and_true, b_fits_tie, e1, e2]
      have : fitsTieB (hi - 1) (.tup [a, b]) = false := by
        cases a <;> first | rfl | skip
        cases b <;> first | rfl | skip
        simp only [List.all_cons, List.all_nil, Bool.and_true, wholeB] at hw
        rw [fitsTieB, hw]; rfl
      rw [this]
  | false =>
    rw [hv] at e1
    simp -implicitDefEqProofs only [e_con, e_var, e_bor, e_bin, k_bin, k_bin2, e_cmp, k_cmp, k_cmp2, e_neg, k_neg, e_nt, k_nt, k_truth, k_optB, e_and, k_and, k_andT, k_andF, e_or, k_or, k_orT, k_orF, e_ite, k_iteT, k_iteF, e_chain, k_ch, k_ch2, k_ch3T, k_ch3F, e_tup, k_tup, e_lst, k_lst, e_ix, k_ix, k_ix2, e_sl, k_sl, k_sl2, k_sl3, e_call, k_call, e_blt, k_blt, e_mth, k_mth, k_mth2, e_isin, k_is, e_pick, k_pick, k_pick2, es_nil, es_cons, k_es, k_es2, o_none, o_some, k_o, c_none, c_some, i_seq, k_seqT, k_seqL, i_r1, k_r1, i_r2, k_r2, k_r3, i_zip, k_zip, k_zipT, k_zipL, i_enum, k_enum, s_asg, k_asg, s_own, k_own2, k_slotL, k_slotD, k_slotV, s_par, k_par, k_par2, s_frz, s_app, k_app, k_app2, s_ife, k_ifeT, k_ifeF, s_whl, k_w, k_wT, k_wF, k_wN, k_wR, s_ret, k_ret, s_exp, k_exp, s_setC, k_setC, k_cup0, k_cup1, s_ap, k_ap, k_ap2, k_ap3, s_rc, k_rc, ss_nil, ss_cons, k_ssN, k_ssR, finR_rt, finR_nx, pureR_some, varv_0, varv_s, borv_0, borv_0o, borv_s, truth, startP, List.map_cons, List.map_nil, List.replicate_succ, List.replicate_zero, List.cons_append, List.nil_append, Nat.reduceSub, Nat.reduceAdd, bindT, bindTs, optS_some, List.set_cons_succ, List.set_cons_zero, wipeP, mkTup_0, mkTup_1, mkTup_2, mkTup_3, mkTup_4, mkTup_5, mkTup_6, mkTup_7, mkTup_8, mkLst_0, mkLst_1, mkLst_2, mkLst_3, mkLst_4, mkLst_5, mkLst_6, mkLst_7, mkLst_8, mkLst_9, mkLst_10, mkLst_11, mkLst_12, mkLst_13, mkLst_14, mkLst_15, mkLst_16, binop, cmpop, blV, Option.map_some, isTy, bltop, Bool.not_true, Bool.not_false, item_0, item_1, item_2, item_3, item_c0, item_c1, Option.bind_some, List.getElem?_cons_zero, List.getElem?_cons_succ, if_true, if_false, Bool.false_eq_true, and_self, dat_int, dat_bl, dat_non, peq_int, peq_bl, peq_nonnon, Int.cast_ofNat_Int, Int.reduceEq, Bool.and_self, List.length_cons, List.length_nil, Int.reduceLT, Int.reduceLE, Int.reduceAdd, Int.reduceSub, Nat.reduceLT, Nat.reduceLeDiff, decide_true, decide_false, Bool.or_true, Bool.true_or, true_and, and_true, b_fits_tie, e1]
    have : fitsTieB (hi - 1) v = false := by
      unfold fitsTieB
      split
      · cases hv
      · rfl
    rw [this]
/-! ### companies -/
def cmpV (n : Nat) (ps : List (Int × Int)) : PV := .tup [.int n, .tup (ps.map prV)]
def adjP (ps : List (Int × Int)) : Bool := (ps.zip (ps.drop 1)).all fun p => ltP p.1 p.2
theorem cut1 (xs : List PV) : cutP xs (some 1) none = xs.drop 1 := by
  unfold cutP sIxP
  simp only [show ¬ ((1 : Int) < 0) by decide, if_false]
  show (xs.drop (min 1 xs.length)).take (xs.length - min 1 xs.length) = _
  cases xs with
  | nil => rfl
  | cons a r =>
    rw [List.length_cons, Nat.min_eq_left (by omega)]
    show r.take (r.length + 1 - 1) = r
    rw [Nat.add_sub_cancel, List.take_length]
theorem zipV_prs : ∀ ps qs : List (Int × Int), zipV (ps.map prV) (qs.map prV) = (ps.zip qs).map fun p => .tup [prV p.1, prV p.2]
  | [], _ => rfl
  | _ :: _, [] => rfl
  | p :: ps, q :: qs => by rw [List.map_cons, List.map_cons, zipV, zipV_prs ps qs]; rfl
theorem ties_of {hi : Int} : ∀ {ts : List PV}, ts.all (fitsTieB hi) = true → ∃ ps : List (Int × Int), ts = ps.map prV ∧ ∀ p ∈ ps, 0 ≤ p.1 ∧ p.1 < p.2 ∧ p.2 ≤ hi
  | [], _ => ⟨[], rfl, fun _ h => nomatch h⟩
  | t :: ts, h => by
    rw [List.all_cons, Bool.and_eq_true] at h
    obtain ⟨ps, rfl, hp⟩ := ties_of h.2
    have ht := h.1
    unfold fitsTieB at ht
    split at ht
    · rename_i a b
      simp only [Bool.and_eq_true, decide_eq_true_iff] at ht
      refine ⟨(a, b) :: ps, rfl, fun p hm => ?_⟩
      rcases List.mem_cons.mp hm with rfl | hm
      · exact ⟨ht.1.1.1, ht.2, ht.1.2.2⟩
      · exact hp p hm
    · cases ht
/-- what a value may be: of no company's form; with a bad tie; with ties -/
inductive Kind (named : Int) : PV → Bool → Prop
  | odd {v : PV} : (∀ n ts, v = .tup [.int n, .tup ts] → ¬ (named ≤ n ∧ n ≤ 9)) → Kind named v false
  | bad {n : Int} {ts : List PV} : named ≤ n → n ≤ 9 → ts.all (fitsTieB (n - 1)) = false → Kind named (.tup [.int n, .tup ts]) false
  | ties {n : Int} {ps : List (Int × Int)} : named ≤ n → n ≤ 9 → (∀ p ∈ ps, 0 ≤ p.1 ∧ p.1 < p.2 ∧ p.2 ≤ n - 1) → Kind named (.tup [.int n, .tup (ps.map prV)]) (adjP ps)
theorem kind_of (named : Int) (v : PV) : ∃ b, Kind named v b := by
  by_cases h : ∃ n ts, v = .tup [.int n, .tup ts] ∧ named ≤ n ∧ n ≤ 9
  · obtain ⟨n, ts, rfl, h1, h2⟩ := h
    cases hb : ts.all (fitsTieB (n - 1)) with
    | false => exact ⟨_, .bad h1 h2 hb⟩
    | true =>
      obtain ⟨ps, rfl, hp⟩ := ties_of hb
      exact ⟨_, .ties h1 h2 hp⟩
  · exact ⟨_, .odd fun n ts e hn => h ⟨n, ts, e, hn.1, hn.2⟩⟩
theorem fits_c0 (k : Nat) (named n : Int) (ts : List PV) (c : List PV) (h : ∀ t ∈ ts, sm 3 t = true) (hl : ts.length < 64) :
    evalE (callK P (k + 3)) b_fits_company_c0 [.val (.int named), .val (.tup [.int n, .tup ts]), .no, .no, .no] c = .ok (.lst (ts.map fun t => .bl (fitsTieB (n - 1) t))) c := by
  refine comp_map ts id _ ?_ (fun x hm => ⟨_, rfl, ?_⟩) (by unfold LIM; omega)
  · simp -implicitDefEqProofs only [e_con, e_var, e_bor, e_bin, k_bin, k_bin2, e_cmp, k_cmp, k_cmp2, e_neg, k_neg, e_nt, k_nt, k_truth, k_optB, e_and, k_and, k_andT, k_andF, e_or, k_or, k_orT, k_orF, e_ite, k_iteT, k_iteF, e_chain, k_ch, k_ch2, k_ch3T, k_ch3F, e_tup, k_tup, e_lst, k_lst, e_ix, k_ix, k_ix2, e_sl, k_sl, k_sl2, k_sl3, e_call, k_call, e_blt, k_blt, e_mth, k_mth, k_mth2, e_isin, k_is, e_pick, k_pick, k_pick2, es_nil, es_cons, k_es, k_es2, o_none, o_some, k_o, c_none, c_some, i_seq, k_seqT, k_seqL, i_r1, k_r1, i_r2, k_r2, k_r3, i_zip, k_zip, k_zipT, k_zipL, i_enum, k_enum, s_asg, k_asg, s_own, k_own2, k_slotL, k_slotD, k_slotV, s_par, k_par, k_par2, s_frz, s_app, k_app, k_app2, s_ife, k_ifeT, k_ifeF, s_whl, k_w, k_wT, k_wF, k_wN, k_wR, s_ret, k_ret, s_exp, k_exp, s_setC, k_setC, k_cup0, k_cup1, s_ap, k_ap, k_ap2, k_ap3, s_rc, k_rc, ss_nil, ss_cons, k_ssN, k_ssR, finR_rt, finR_nx, pureR_some, varv_0, varv_s, borv_0, borv_0o, borv_s, truth, startP, List.map_cons, List.map_nil, List.replicate_succ, List.replicate_zero, List.cons_append, List.nil_append, Nat.reduceSub, Nat.reduceAdd, bindT, bindTs, optS_some, List.set_cons_succ, List.set_cons_zero, wipeP, mkTup_0, mkTup_1, mkTup_2, mkTup_3, mkTup_4, mkTup_5, mkTup_6, mkTup_7, mkTup_8, mkLst_0, mkLst_1, mkLst_2, mkLst_3, mkLst_4, mkLst_5, mkLst_6, mkLst_7, mkLst_8, mkLst_9, mkLst_10, mkLst_11, mkLst_12, mkLst_13, mkLst_14, mkLst_15, mkLst_16, binop, cmpop, blV, Option.map_some, isTy, bltop, Bool.not_true, Bool.not_false, item_0, item_1, item_2, item_3, item_c0, item_c1, Option.bind_some, List.getElem?_cons_zero, List.getElem?_cons_succ, if_true, if_false, Bool.false_eq_true, and_self, dat_int, dat_bl, dat_non, peq_int, peq_bl, peq_nonnon, Int.cast_ofNat_Int, Int.reduceEq, Bool.and_self, List.length_cons, List.length_nil, Int.reduceLT, Int.reduceLE, Int.reduceAdd, Int.reduceSub, Nat.reduceLT, Nat.reduceLeDiff, decide_true, decide_false, Bool.or_true, Bool.true_or, true_and, and_true, List.map_id]
  · simp -implicitDefEqProofs only [e_con, e_var, e_bor, e_bin, k_bin, k_bin2, e_cmp, k_cmp, k_cmp2, e_neg, k_neg, e_nt, k_nt, k_truth, k_optB, e_and, k_and, k_andT, k_andF, e_or, k_or, k_orT, k_orF, e_ite, k_iteT, k_iteF, e_chain, k_ch, k_ch2, k_ch3T, k_ch3F, e_tup, k_tup, e_lst, k_lst, e_ix, k_ix, k_ix2, e_sl, k_sl, k_sl2, k_sl3, e_call, k_call, e_blt, k_blt, e_mth, k_mth, k_mth2, e_isin, k_is, e_pick, k_pick, k_pick2, es_nil, es_cons, k_es, k_es2, o_none, o_some, k_o, c_none, c_some, i_seq, k_seqT, k_seqL, i_r1, k_r1, i_r2, k_r2, k_r3, i_zip, k_zip, k_zipT, k_zipL, i_enum, k_enum, s_asg, k_asg, s_own, k_own2, k_slotL, k_slotD, k_slotV, s_par, k_par, k_par2, s_frz, s_app, k_app, k_app2, s_ife, k_ifeT, k_ifeF, s_whl, k_w, k_wT, k_wF, k_wN, k_wR, s_ret, k_ret, s_exp, k_exp, s_setC, k_setC, k_cup0, k_cup1, s_ap, k_ap, k_ap2, k_ap3, s_rc, k_rc, ss_nil, ss_cons, k_ssN, k_ssR, finR_rt, finR_nx, pureR_some, varv_0, varv_s, borv_0, borv_0o, borv_s, truth, startP, List.map_cons, List.map_nil, List.replicate_succ, List.replicate_zero, List.cons_append, List.nil_append, Nat.reduceSub, Nat.reduceAdd, bindT, bindTs, optS_some, List.set_cons_succ, List.set_cons_zero, wipeP, mkTup_0, mkTup_1, mkTup_2, mkTup_3, mkTup_4, mkTup_5, mkTup_6, mkTup_7, mkTup_8, mkLst_0, mkLst_1, mkLst_2, mkLst_3, mkLst_4, mkLst_5, mkLst_6, mkLst_7, mkLst_8, mkLst_9, mkLst_10, mkLst_11, mkLst_12, mkLst_13, mkLst_14, mkLst_15, mkLst_16, binop, cmpop, blV, Option.map_some, isTy, bltop, Bool.not_true, Bool.not_false, item_0, item_1, item_2, item_3, item_c0, item_c1, Option.bind_some, List.getElem?_cons_zero, List.getElem?_cons_succ, if_true, if_false, Bool.false_eq_true, and_self, dat_int, dat_bl, dat_non, peq_int, peq_bl, peq_nonnon, Int.cast_ofNat_Int, Int.reduceEq, Bool.and_self, List.length_cons, List.length_nil, Int.reduceLT, Int.reduceLE, Int.reduceAdd, Int.reduceSub, Nat.reduceLT, Nat.reduceLeDiff, decide_true, decide_false, Bool.or_true, Bool.true_or, true_and, and_true, id, f_fits_tie k n x c (h x hm)]
theorem fits_c1 (k : Nat) (named n : Int) (ps : List (Int × Int)) (c : List PV) (hl : ps.length < 64) :
    evalE (callK P (k + 3)) b_fits_company_c1 [.val (.int named), .val (.tup [.int n, .tup (ps.map prV)]), .no, .no, .no] c = .ok (.lst ((ps.zip (ps.drop 1)).map fun p => .bl (ltP p.1 p.2))) c := by
  refine comp_map (ps.zip (ps.drop 1)) (fun p => .tup [prV p.1, prV p.2]) _ ?_ (fun x hm => ⟨_, rfl, ?_⟩) (by rw [List.length_zip]; unfold LIM; omega)
  · simp -implicitDefEqProofs only [e_con, e_var, e_bor, e_bin, k_bin, k_bin2, e_cmp, k_cmp, k_cmp2, e_neg, k_neg, e_nt, k_nt, k_truth, k_optB, e_and, k_and, k_andT, k_andF, e_or, k_or, k_orT, k_orF, e_ite, k_iteT, k_iteF, e_chain, k_ch, k_ch2, k_ch3T, k_ch3F, e_tup, k_tup, e_lst, k_lst, e_ix, k_ix, k_ix2, e_sl, k_sl, k_sl2, k_sl3, e_call, k_call, e_blt, k_blt, e_mth, k_mth, k_mth2, e_isin, k_is, e_pick, k_pick, k_pick2, es_nil, es_cons, k_es, k_es2, o_none, o_some, k_o, c_none, c_some, i_seq, k_seqT, k_seqL, i_r1, k_r1, i_r2, k_r2, k_r3, i_zip, k_zip, k_zipT, k_zipL, i_enum, k_enum, s_asg, k_asg, s_own, k_own2, k_slotL, k_slotD, k_slotV, s_par, k_par, k_par2, s_frz, s_app, k_app, k_app2, s_ife, k_ifeT, k_ifeF, s_whl, k_w, k_wT, k_wF, k_wN, k_wR, s_ret, k_ret, s_exp, k_exp, s_setC, k_setC, k_cup0, k_cup1, s_ap, k_ap, k_ap2, k_ap3, s_rc, k_rc, ss_nil, ss_cons, k_ssN, k_ssR, finR_rt, finR_nx, pureR_some, varv_0, varv_s, borv_0, borv_0o, borv_s, truth, startP, List.map_cons, List.map_nil, List.replicate_succ, List.replicate_zero, List.cons_append, List.nil_append, Nat.reduceSub, Nat.reduceAdd, bindT, bindTs, optS_some, List.set_cons_succ, List.set_cons_zero, wipeP, mkTup_0, mkTup_1, mkTup_2, mkTup_3, mkTup_4, mkTup_5, mkTup_6, mkTup_7, mkTup_8, mkLst_0, mkLst_1, mkLst_2, mkLst_3, mkLst_4, mkLst_5, mkLst_6, mkLst_7, mkLst_8, mkLst_9, mkLst_10, mkLst_11, mkLst_12, mkLst_13, mkLst_14, mkLst_15, mkLst_16, binop, cmpop, blV, Option.map_some, isTy, bltop, Bool.not_true, Bool.not_false, item_0, item_1, item_2, item_3, item_c0, item_c1, Option.bind_some, List.getElem?_cons_zero, List.getElem?_cons_succ, if_true, if_false, Bool.false_eq_true, and_self, dat_int, dat_bl, dat_non, peq_int, peq_bl, peq_nonnon, Int.cast_ofNat_Int, Int.reduceEq, Bool.and_self, List.length_cons, List.length_nil, Int.reduceLT, Int.reduceLE, Int.reduceAdd, Int.reduceSub, Nat.reduceLT, Nat.reduceLeDiff, decide_true, decide_false, Bool.or_true, Bool.true_or, true_and, and_true, slice, cut1, ← List.map_drop, zipV_prs]
  · obtain ⟨⟨a, b⟩, ⟨d, e⟩⟩ := x
    have e := lt_pr (a, b) (d, e)
    simp only [prV] at e
    simp -implicitDefEqProofs only [e_con, e_var, e_bor, e_bin, k_bin, k_bin2, e_cmp, k_cmp, k_cmp2, e_neg, k_neg, e_nt, k_nt, k_truth, k_optB, e_and, k_and, k_andT, k_andF, e_or, k_or, k_orT, k_orF, e_ite, k_iteT, k_iteF, e_chain, k_ch, k_ch2, k_ch3T, k_ch3F, e_tup, k_tup, e_lst, k_lst, e_ix, k_ix, k_ix2, e_sl, k_sl, k_sl2, k_sl3, e_call, k_call, e_blt, k_blt, e_mth, k_mth, k_mth2, e_isin, k_is, e_pick, k_pick, k_pick2, es_nil, es_cons, k_es, k_es2, o_none, o_some, k_o, c_none, c_some, i_seq, k_seqT, k_seqL, i_r1, k_r1, i_r2, k_r2, k_r3, i_zip, k_zip, k_zipT, k_zipL, i_enum, k_enum, s_asg, k_asg, s_own, k_own2, k_slotL, k_slotD, k_slotV, s_par, k_par, k_par2, s_frz, s_app, k_app, k_app2, s_ife, k_ifeT, k_ifeF, s_whl, k_w, k_wT, k_wF, k_wN, k_wR, s_ret, k_ret, s_exp, k_exp, s_setC, k_setC, k_cup0, k_cup1, s_ap, k_ap, k_ap2, k_ap3, s_rc, k_rc, ss_nil, ss_cons, k_ssN, k_ssR, finR_rt, finR_nx, pureR_some, varv_0, varv_s, borv_0, borv_0o, borv_s, truth, startP, List.map_cons, List.map_nil, List.replicate_succ, List.replicate_zero, List.cons_append, List.nil_append, Nat.reduceSub, Nat.reduceAdd, bindT, bindTs, optS_some, List.set_cons_succ, List.set_cons_zero, wipeP, mkTup_0, mkTup_1, mkTup_2, mkTup_3, mkTup_4, mkTup_5, mkTup_6, mkTup_7, mkTup_8, mkLst_0, mkLst_1, mkLst_2, mkLst_3, mkLst_4, mkLst_5, mkLst_6, mkLst_7, mkLst_8, mkLst_9, mkLst_10, mkLst_11, mkLst_12, mkLst_13, mkLst_14, mkLst_15, mkLst_16, binop, cmpop, blV, Option.map_some, isTy, bltop, Bool.not_true, Bool.not_false, item_0, item_1, item_2, item_3, item_c0, item_c1, Option.bind_some, List.getElem?_cons_zero, List.getElem?_cons_succ, if_true, if_false, Bool.false_eq_true, and_self, dat_int, dat_bl, dat_non, peq_int, peq_bl, peq_nonnon, Int.cast_ofNat_Int, Int.reduceEq, Bool.and_self, List.length_cons, List.length_nil, Int.reduceLT, Int.reduceLE, Int.reduceAdd, Int.reduceSub, Nat.reduceLT, Nat.reduceLeDiff, decide_true, decide_false, Bool.or_true, Bool.true_or, true_and, and_true, prV, e]
theorem fits_all {hi : Int} {ps : List (Int × Int)} (h : ∀ p ∈ ps, 0 ≤ p.1 ∧ p.1 < p.2 ∧ p.2 ≤ hi) : (ps.map prV).all (fitsTieB hi) = true := by
  rw [List.all_map, List.all_eq_true]
  intro p hp
  obtain ⟨h1, h2, h3⟩ := h p hp
  show (decide (0 ≤ p.1) && decide (p.1 ≤ hi) && (decide (0 ≤ p.2) && decide (p.2 ≤ hi)) && decide (p.1 < p.2)) = true
  simp only [Bool.and_eq_true, decide_eq_true_iff]
  omega
theorem f_fits_company (k : Nat) (named : Int) (v : PV) (b : Bool) (c : List PV) (h : sm 5 v = true) (hk : Kind named v b) : callK P (k + 4) n_fits_company [.int named, v] c = .ok (.bl b) c := by
  have hd := sm_isD h
  refine call_ok rfl rfl ?_
  have e1 := f_is_tuple_of (k + 2) v 2 2 c hd
  cases hk with
  | odd ho =>
    cases hv : tupB v 2 2 with
    | false =>
      rw [hv] at e1
      simp -implicitDefEqProofs only [e_con, e_var, e_bor, e_bin, k_bin, k_bin2, e_cmp, k_cmp, k_cmp2, e_neg, k_neg, e_nt, k_nt, k_truth, k_optB, e_and, k_and, k_andT, k_andF, e_or, k_or, k_orT, k_orF, e_ite, k_iteT, k_iteF, e_chain, k_ch, k_ch2, k_ch3T, k_ch3F, e_tup, k_tup, e_lst, k_lst, e_ix, k_ix, k_ix2, e_sl, k_sl, k_sl2, k_sl3, e_call, k_call, e_blt, k_blt, e_mth, k_mth, k_mth2, e_isin, k_is, e_pick, k_pick, k_pick2, es_nil, es_cons, k_es, k_es2, o_none, o_some, k_o, c_none, c_some, i_seq, k_seqT, k_seqL, i_r1, k_r1, i_r2, k_r2, k_r3, i_zip, k_zip, k_zipT, k_zipL, i_enum, k_enum, s_asg, k_asg, s_own, k_own2, k_slotL, k_slotD, k_slotV, s_par, k_par, k_par2, s_frz, s_app, k_app, k_app2, s_ife, k_ifeT, k_ifeF, s_whl, k_w, k_wT, k_wF, k_wN, k_wR, s_ret, k_ret, s_exp, k_exp, s_setC, k_setC, k_cup0, k_cup1, s_ap, k_ap, k_ap2, k_ap3, s_rc, k_rc, ss_nil, ss_cons, k_ssN, k_ssR, finR_rt, finR_nx, pureR_some, varv_0, varv_s, borv_0, borv_0o, borv_s, truth, startP, List.map_cons, List.map_nil, List.replicate_succ, List.replicate_zero, List.cons_append, List.nil_append, Nat.reduceSub, Nat.reduceAdd, bindT, bindTs, optS_some, List.set_cons_succ, List.set_cons_zero, wipeP, mkTup_0, mkTup_1, mkTup_2, mkTup_3, mkTup_4, mkTup_5, mkTup_6, mkTup_7, mkTup_8, mkLst_0, mkLst_1, mkLst_2, mkLst_3, mkLst_4, mkLst_5, mkLst_6, mkLst_7, mkLst_8, mkLst_9, mkLst_10, mkLst_11, mkLst_12, mkLst_13, mkLst_14, mkLst_15, mkLst_16, binop, cmpop, blV, Option.map_some, isTy, bltop, Bool.not_true, Bool.not_false, item_0, item_1, item_2, item_3, item_c0, item_c1, Option.bind_some, List.getElem?_cons_zero, List.getElem?_cons_succ, if_true, if_false, Bool.false_eq_true, and_self, dat_int, dat_bl, dat_non, peq_int, peq_bl, peq_nonnon, Int.cast_ofNat_Int, Int.reduceEq, Bool.and_self, List.length_cons, List.length_nil, Int.reduceLT, Int.reduceLE, Int.reduceAdd, Int.reduceSub, Nat.reduceLT, Nat.reduceLeDiff, decide_true, decide_false, Bool.or_true, Bool.true_or, true_and, and_true, b_fits_company, e1]
    | true =>
      obtain ⟨a, b, rfl⟩ := tup2_of hv
      rw [hv] at e1
      obtain ⟨h1, h2⟩ := sm_tup h
      have e2 := f_is_whole (k + 2) a named 9 c (sm_isD (h2 a (by simp)))
      cases hw : wholeB a named 9 with
      | false =>
        rw [hw] at e2
        simp -implicitDefEqProofs only [e_con, e_var, e_bor, e_bin, k_bin, k_bin2, e_cmp, k_cmp, k_cmp2, e_neg, k_neg, e_nt, k_nt, k_truth, k_optB, e_and, k_and, k_andT, k_andF, e_or, k_or, k_orT, k_orF, e_ite, k_iteT, k_iteF, e_chain, k_ch, k_ch2, k_ch3T, k_ch3F, e_tup, k_tup, e_lst, k_lst, e_ix, k_ix, k_ix2, e_sl, k_sl, k_sl2, k_sl3, e_call, k_call, e_blt, k_blt, e_mth, k_mth, k_mth2, e_isin, k_is, e_pick, k_pick, k_pick2, es_nil, es_cons, k_es, k_es2, o_none, o_some, k_o, c_none, c_some, i_seq, k_seqT, k_seqL, i_r1, k_r1, i_r2, k_r2, k_r3, i_zip, k_zip, k_zipT, k_zipL, i_enum, k_enum, s_asg, k_asg, s_own, k_own2, k_slotL, k_slotD, k_slotV, s_par, k_par, k_par2, s_frz, s_app, k_app, k_app2, s_ife, k_ifeT, k_ifeF, s_whl, k_w, k_wT, k_wF, k_wN, k_wR, s_ret, k_ret, s_exp, k_exp, s_setC, k_setC, k_cup0, k_cup1, s_ap, k_ap, k_ap2, k_ap3, s_rc, k_rc, ss_nil, ss_cons, k_ssN, k_ssR, finR_rt, finR_nx, pureR_some, varv_0, varv_s, borv_0, borv_0o, borv_s, truth, startP, List.map_cons, List.map_nil, List.replicate_succ, List.replicate_zero, List.cons_append, List.nil_append, Nat.reduceSub, Nat.reduceAdd, bindT, bindTs, optS_some, List.set_cons_succ, List.set_cons_zero, wipeP, mkTup_0, mkTup_1, mkTup_2, mkTup_3, mkTup_4, mkTup_5, mkTup_6, mkTup_7, mkTup_8, mkLst_0, mkLst_1, mkLst_2, mkLst_3, mkLst_4, mkLst_5, mkLst_6, mkLst_7, mkLst_8, mkLst_9, mkLst_10, mkLst_11, mkLst_12, mkLst_13, mkLst_14, mkLst_15, mkLst_16, binop, cmpop, blV, Option.map_some, isTy, bltop, Bool.not_true, Bool.not_false, item_0, item_1, item_2, item_3, item_c0, item_c1, Option.bind_some, List.getElem?_cons_zero, List.getElem?_cons_succ, if_true, if_false, Bool.false_eq_true, and_self, dat_int, dat_bl, dat_non, peq_int, peq_bl, peq_nonnon, Int.cast_ofNat_Int, Int.reduceEq, Bool.and_self, List.length_cons, List.length_nil, Int.reduceLT, Int.reduceLE, Int.reduceAdd, Int.reduceSub, Nat.reduceLT, Nat.reduceLeDiff, decide_true, decide_false, Bool.or_true, Bool.true_or, true_and, and_true, b_fits_company, e1, e2]
      | true =>
        rw [hw] at e2
        obtain ⟨i, rfl, i1, i2⟩ := whole_int hw
        have hb := sm_isD (h2 b (by simp))
        cases b <;> first | (cases hb; done) | skip
        case tup ts => exact absurd ⟨i1, i2⟩ (ho i ts rfl)
        all_goals simp -implicitDefEqProofs only [e_con, e_var, e_bor, e_bin, k_bin, k_bin2, e_cmp, k_cmp, k_cmp2, e_neg, k_neg, e_nt, k_nt, k_truth, k_optB, e_and, k_and, k_andT, k_andF, e_or, k_or, k_orT, k_orF, e_ite, k_iteT, k_iteF, e_chain, k_ch, k_ch2, k_ch3T, k_ch3F, e_tup, k_tup, e_lst, k_lst, e_ix, k_ix, k_ix2, e_sl, k_sl, k_sl2, k_sl3, e_call, k_call, e_blt, k_blt, e_mth, k_mth, k_mth2, e_isin, k_is, e_pick, k_pick, k_pick2, es_nil, es_cons, k_es, k_es2, o_none, o_some, k_o, c_none, c_some, i_seq, k_seqT, k_seqL, i_r1, k_r1, i_r2, k_r2, k_r3, i_zip, k_zip, k_zipT, k_zipL, i_enum, k_enum, s_asg, k_asg, s_own, k_own2, k_slotL, k_slotD, k_slotV, s_par, k_par, k_par2, s_frz, s_app, k_app, k_app2, s_ife, k_ifeT, k_ifeF, s_whl, k_w, k_wT, k_wF, k_wN, k_wR, s_ret, k_ret, s_exp, k_exp, s_setC, k_setC, k_cup0, k_cup1, s_ap, k_ap, k_ap2, k_ap3, s_rc, k_rc, ss_nil, ss_cons, k_ssN, k_ssR, finR_rt, finR_nx, pureR_some, varv_0, varv_s, borv_0, borv_0o, borv_s, truth, startP, List.map_cons, List.map_nil, List.replicate_succ, List.replicate_zero, List.cons_append, List.nil_append, Nat.reduceSub, Nat.reduceAdd, bindT, bindTs, optS_some, List.set_cons_succ, List.set_cons_zero, wipeP, mkTup_0, mkTup_1, mkTup_2, mkTup_3, mkTup_4, mkTup_5, mkTup_6, mkTup_7, mkTup_8, mkLst_0, mkLst_1, mkLst_2, mkLst_3, mkLst_4, mkLst_5, mkLst_6, mkLst_7, mkLst_8, mkLst_9, mkLst_10, mkLst_11, mkLst_12, mkLst_13, mkLst_14, mkLst_15, mkLst_16, binop, cmpop, blV, Option.map_some, isTy, bltop, Bool.not_true, Bool.not_false, item_0, item_1, item_2, item_3, item_c0, item_c1, Option.bind_some, List.getElem?_cons_zero, List.getElem?_cons_succ, if_true, if_false, Bool.false_eq_true, and_self, dat_int, dat_bl, dat_non, peq_int, peq_bl, peq_nonnon, Int.cast_ofNat_Int, Int.reduceEq, Bool.and_self, List.length_cons, List.length_nil, Int.reduceLT, Int.reduceLE, Int.reduceAdd, Int.reduceSub, Nat.reduceLT, Nat.reduceLeDiff, decide_true, decide_false, Bool.or_true, Bool.true_or, true_and, and_true, b_fits_company, e1, e2]
  | @bad n ts n1 n2 hb =>
    obtain ⟨h1, h2⟩ := sm_tup h
    obtain ⟨h3, h4⟩ := sm_tup (h2 (.tup ts) (by simp))
    have e2 := f_is_whole (k + 2) (.int n) named 9 c rfl
    have e3 := fits_c0 k named n ts c h4 h3
    simp -implicitDefEqProofs only [e_con, e_var, e_bor, e_bin, k_bin, k_bin2, e_cmp, k_cmp, k_cmp2, e_neg, k_neg, e_nt, k_nt, k_truth, k_optB, e_and, k_and, k_andT, k_andF, e_or, k_or, k_orT, k_orF, e_ite, k_iteT, k_iteF, e_chain, k_ch, k_ch2, k_ch3T, k_ch3F, e_tup, k_tup, e_lst, k_lst, e_ix, k_ix, k_ix2, e_sl, k_sl, k_sl2, k_sl3, e_call, k_call, e_blt, k_blt, e_mth, k_mth, k_mth2, e_isin, k_is, e_pick, k_pick, k_pick2, es_nil, es_cons, k_es, k_es2, o_none, o_some, k_o, c_none, c_some, i_seq, k_seqT, k_seqL, i_r1, k_r1, i_r2, k_r2, k_r3, i_zip, k_zip, k_zipT, k_zipL, i_enum, k_enum, s_asg, k_asg, s_own, k_own2, k_slotL, k_slotD, k_slotV, s_par, k_par, k_par2, s_frz, s_app, k_app, k_app2, s_ife, k_ifeT, k_ifeF, s_whl, k_w, k_wT, k_wF, k_wN, k_wR, s_ret, k_ret, s_exp, k_exp, s_setC, k_setC, k_cup0, k_cup1, s_ap, k_ap, k_ap2, k_ap3, s_rc, k_rc, ss_nil, ss_cons, k_ssN, k_ssR, finR_rt, finR_nx, pureR_some, varv_0, varv_s, borv_0, borv_0o, borv_s, truth, startP, List.map_cons, List.map_nil, List.replicate_succ, List.replicate_zero, List.cons_append, List.nil_append, Nat.reduceSub, Nat.reduceAdd, bindT, bindTs, optS_some, List.set_cons_succ, List.set_cons_zero, wipeP, mkTup_0, mkTup_1, mkTup_2, mkTup_3, mkTup_4, mkTup_5, mkTup_6, mkTup_7, mkTup_8, mkLst_0, mkLst_1, mkLst_2, mkLst_3, mkLst_4, mkLst_5, mkLst_6, mkLst_7, mkLst_8, mkLst_9, mkLst_10, mkLst_11, mkLst_12, mkLst_13, mkLst_14, mkLst_15, mkLst_16, binop, cmpop, blV, Option.map_some, isTy, bltop, Bool.not_true, Bool.not_false, item_0, item_1, item_2, item_3, item_c0, item_c1, Option.bind_some, List.getElem?_cons_zero, List.getElem?_cons_succ, if_true, if_false, Bool.false_eq_true, and_self, dat_int, dat_bl, dat_non, peq_int, peq_bl, peq_nonnon, Int.cast_ofNat_Int, Int.reduceEq, Bool.and_self, List.length_cons, List.length_nil, Int.reduceLT, Int.reduceLE, Int.reduceAdd, Int.reduceSub, Nat.reduceLT, Nat.reduceLeDiff, decide_true, decide_false, Bool.or_true, Bool.true_or, true_and, and_true, b_fits_company, e1, e2, e3, tupB, wholeB, n1, n2, all_map, hb, List.length_cons, List.length_nil, Int.cast_ofNat_Int, decide_true, Bool.and_self, Int.le_refl]
  | @ties n ps n1 n2 hp =>
    obtain ⟨h1, h2⟩ := sm_tup h
    obtain ⟨h3, h4⟩ := sm_tup (h2 (.tup (ps.map prV)) (by simp))
    have e2 := f_is_whole (k + 2) (.int n) named 9 c rfl
    have e3 := fits_c0 k named n (ps.map prV) c h4 h3
    have e4 := fits_c1 k named n ps c (by simpa using h3)
    have e5 := fits_all hp
    simp -implicitDefEqProofs only [e_con, e_var, e_bor, e_bin, k_bin, k_bin2, e_cmp, k_cmp, k_cmp2, e_neg, k_neg, e_nt, k_nt, k_truth, k_optB, e_and, k_and, k_andT, k_andF, e_or, k_or, k_orT, k_orF, e_ite, k_iteT, k_iteF, e_chain, k_ch, k_ch2, k_ch3T, k_ch3F, e_tup, k_tup, e_lst, k_lst, e_ix, k_ix, k_ix2, e_sl, k_sl, k_sl2, k_sl3, e_call, k_call, e_blt, k_blt, e_mth, k_mth, k_mth2, e_isin, k_is, e_pick, k_pick, k_pick2, es_nil, es_cons, k_es, k_es2, o_none, o_some, k_o, c_none, c_some, i_seq, k_seqT, k_seqL, i_r1, k_r1, i_r2, k_r2, k_r3, i_zip, k_zip, k_zipT, k_zipL, i_enum, k_enum, s_asg, k_asg, s_own, k_own2, k_slotL, k_slotD, k_slotV, s_par, k_par, k_par2, s_frz, s_app, k_app, k_app2, s_ife, k_ifeT, k_ifeF, s_whl, k_w, k_wT, k_wF, k_wN, k_wR, s_ret, k_ret, s_exp, k_exp, s_setC, k_setC, k_cup0, k_cup1, s_ap, k_ap, k_ap2, k_ap3, s_rc, k_rc, ss_nil, ss_cons, k_ssN, k_ssR, finR_rt, finR_nx, pureR_some, varv_0, varv_s, borv_0, borv_0o, borv_s, truth, startP, List.map_cons, List.map_nil, List.replicate_succ, List.replicate_zero, List.cons_append, List.nil_append, Nat.reduceSub, Nat.reduceAdd, bindT, bindTs, optS_some, List.set_cons_succ, List.set_cons_zero, wipeP, mkTup_0, mkTup_1, mkTup_2, mkTup_3, mkTup_4, mkTup_5, mkTup_6, mkTup_7, mkTup_8, mkLst_0, mkLst_1, mkLst_2, mkLst_3, mkLst_4, mkLst_5, mkLst_6, mkLst_7, mkLst_8, mkLst_9, mkLst_10, mkLst_11, mkLst_12, mkLst_13, mkLst_14, mkLst_15, mkLst_16, binop, cmpop, blV, Option.map_some, isTy, bltop, Bool.not_true, Bool.not_false, item_0, item_1, item_2, item_3, item_c0, item_c1, Option.bind_some, List.getElem?_cons_zero, List.getElem?_cons_succ, if_true, if_false, Bool.false_eq_true, and_self, dat_int, dat_bl, dat_non, peq_int, peq_bl, peq_nonnon, Int.cast_ofNat_Int, Int.reduceEq, Bool.and_self, List.length_cons, List.length_nil, Int.reduceLT, Int.reduceLE, Int.reduceAdd, Int.reduceSub, Nat.reduceLT, Nat.reduceLeDiff, decide_true, decide_false, Bool.or_true, Bool.true_or, true_and, and_true, b_fits_company, e1, e2, e3, e4, e5, tupB, wholeB, n1, n2, all_map, List.length_cons, List.length_nil, Int.cast_ofNat_Int, decide_true, Bool.and_self, Int.le_refl]
    rfl
/-! ### the cup -/
def Cup (c : List PV) : Prop := ∃ a b : Int, c = [.int a, .int b]
theorem smallI_mod (x m : Int) (h1 : 0 < m) (h2 : m < 2 ^ 64) : smallI (x % m) = true := by
  unfold smallI
  have e1 := Int.emod_nonneg x (Int.ne_of_gt h1)
  have e2 := Int.emod_lt_of_pos x h1
  rw [decide_eq_true_iff]
  omega
theorem smallI_c : smallI 30983 = true := by decide
theorem f__law_roll (k : Nat) (m : Int) (c : List PV) (hc : Cup c) (h1 : 0 < m) (h2 : m < 1073741824) : ∃ r c', callK P (k + 1) n__law_roll [.cup, .int m] c = .ok (.int r) c' ∧ Cup c' ∧ 0 ≤ r ∧ r < m := by
  obtain ⟨a, b, rfl⟩ := hc
  by_cases ha : 0 < a
  · refine ⟨a % m, [.int (a / m), .int b], call_ok rfl rfl ?_, ⟨_, _, rfl⟩, Int.emod_nonneg _ (by omega), Int.emod_lt_of_pos _ h1⟩
    simp -implicitDefEqProofs only [e_con, e_var, e_bor, e_bin, k_bin, k_bin2, e_cmp, k_cmp, k_cmp2, e_neg, k_neg, e_nt, k_nt, k_truth, k_optB, e_and, k_and, k_andT, k_andF, e_or, k_or, k_orT, k_orF, e_ite, k_iteT, k_iteF, e_chain, k_ch, k_ch2, k_ch3T, k_ch3F, e_tup, k_tup, e_lst, k_lst, e_ix, k_ix, k_ix2, e_sl, k_sl, k_sl2, k_sl3, e_call, k_call, e_blt, k_blt, e_mth, k_mth, k_mth2, e_isin, k_is, e_pick, k_pick, k_pick2, es_nil, es_cons, k_es, k_es2, o_none, o_some, k_o, c_none, c_some, i_seq, k_seqT, k_seqL, i_r1, k_r1, i_r2, k_r2, k_r3, i_zip, k_zip, k_zipT, k_zipL, i_enum, k_enum, s_asg, k_asg, s_own, k_own2, k_slotL, k_slotD, k_slotV, s_par, k_par, k_par2, s_frz, s_app, k_app, k_app2, s_ife, k_ifeT, k_ifeF, s_whl, k_w, k_wT, k_wF, k_wN, k_wR, s_ret, k_ret, s_exp, k_exp, s_setC, k_setC, k_cup0, k_cup1, s_ap, k_ap, k_ap2, k_ap3, s_rc, k_rc, ss_nil, ss_cons, k_ssN, k_ssR, finR_rt, finR_nx, pureR_some, varv_0, varv_s, borv_0, borv_0o, borv_s, truth, startP, List.map_cons, List.map_nil, List.replicate_succ, List.replicate_zero, List.cons_append, List.nil_append, Nat.reduceSub, Nat.reduceAdd, bindT, bindTs, optS_some, List.set_cons_succ, List.set_cons_zero, wipeP, mkTup_0, mkTup_1, mkTup_2, mkTup_3, mkTup_4, mkTup_5, mkTup_6, mkTup_7, mkTup_8, mkLst_0, mkLst_1, mkLst_2, mkLst_3, mkLst_4, mkLst_5, mkLst_6, mkLst_7, mkLst_8, mkLst_9, mkLst_10, mkLst_11, mkLst_12, mkLst_13, mkLst_14, mkLst_15, mkLst_16, binop, cmpop, blV, Option.map_some, isTy, bltop, Bool.not_true, Bool.not_false, item_0, item_1, item_2, item_3, item_c0, item_c1, Option.bind_some, List.getElem?_cons_zero, List.getElem?_cons_succ, if_true, if_false, Bool.false_eq_true, and_self, dat_int, dat_bl, dat_non, peq_int, peq_bl, peq_nonnon, Int.cast_ofNat_Int, Int.reduceEq, Bool.and_self, List.length_cons, List.length_nil, Int.reduceLT, Int.reduceLE, Int.reduceAdd, Int.reduceSub, Nat.reduceLT, Nat.reduceLeDiff, decide_true, decide_false, Bool.or_true, Bool.true_or, true_and, and_true, b__law_roll, ha, h1, h2, decide_true]
  · refine ⟨((((b * 30983 + 7933) % 2147483563) * (((b * 30983 + 7933) % 2147483563) + 197)) % 2147483587 / 773) % m, [.int a, .int ((b * 30983 + 7933) % 2147483563)], call_ok rfl rfl ?_, ⟨_, _, rfl⟩, Int.emod_nonneg _ (by omega), Int.emod_lt_of_pos _ h1⟩
    have e := smallI_mod (b * 30983 + 7933) 2147483563 (by decide) (by decide)
    simp -implicitDefEqProofs only [e_con, e_var, e_bor, e_bin, k_bin, k_bin2, e_cmp, k_cmp, k_cmp2, e_neg, k_neg, e_nt, k_nt, k_truth, k_optB, e_and, k_and, k_andT, k_andF, e_or, k_or, k_orT, k_orF, e_ite, k_iteT, k_iteF, e_chain, k_ch, k_ch2, k_ch3T, k_ch3F, e_tup, k_tup, e_lst, k_lst, e_ix, k_ix, k_ix2, e_sl, k_sl, k_sl2, k_sl3, e_call, k_call, e_blt, k_blt, e_mth, k_mth, k_mth2, e_isin, k_is, e_pick, k_pick, k_pick2, es_nil, es_cons, k_es, k_es2, o_none, o_some, k_o, c_none, c_some, i_seq, k_seqT, k_seqL, i_r1, k_r1, i_r2, k_r2, k_r3, i_zip, k_zip, k_zipT, k_zipL, i_enum, k_enum, s_asg, k_asg, s_own, k_own2, k_slotL, k_slotD, k_slotV, s_par, k_par, k_par2, s_frz, s_app, k_app, k_app2, s_ife, k_ifeT, k_ifeF, s_whl, k_w, k_wT, k_wF, k_wN, k_wR, s_ret, k_ret, s_exp, k_exp, s_setC, k_setC, k_cup0, k_cup1, s_ap, k_ap, k_ap2, k_ap3, s_rc, k_rc, ss_nil, ss_cons, k_ssN, k_ssR, finR_rt, finR_nx, pureR_some, varv_0, varv_s, borv_0, borv_0o, borv_s, truth, startP, List.map_cons, List.map_nil, List.replicate_succ, List.replicate_zero, List.cons_append, List.nil_append, Nat.reduceSub, Nat.reduceAdd, bindT, bindTs, optS_some, List.set_cons_succ, List.set_cons_zero, wipeP, mkTup_0, mkTup_1, mkTup_2, mkTup_3, mkTup_4, mkTup_5, mkTup_6, mkTup_7, mkTup_8, mkLst_0, mkLst_1, mkLst_2, mkLst_3, mkLst_4, mkLst_5, mkLst_6, mkLst_7, mkLst_8, mkLst_9, mkLst_10, mkLst_11, mkLst_12, mkLst_13, mkLst_14, mkLst_15, mkLst_16, binop, cmpop, blV, Option.map_some, isTy, bltop, Bool.not_true, Bool.not_false, item_0, item_1, item_2, item_3, item_c0, item_c1, Option.bind_some, List.getElem?_cons_zero, List.getElem?_cons_succ, if_true, if_false, Bool.false_eq_true, and_self, dat_int, dat_bl, dat_non, peq_int, peq_bl, peq_nonnon, Int.cast_ofNat_Int, Int.reduceEq, Bool.and_self, List.length_cons, List.length_nil, Int.reduceLT, Int.reduceLE, Int.reduceAdd, Int.reduceSub, Nat.reduceLT, Nat.reduceLeDiff, decide_true, decide_false, Bool.or_true, Bool.true_or, true_and, and_true, b__law_roll, ha, h1, h2, smallI_c, e]
theorem f__law_some (k : Nat) (xs : List PV) (c : List PV) (hc : Cup c) (h1 : xs ≠ []) (h2 : xs.length < 1073741824) : ∃ x c', callK P (k + 2) n__law_some [.cup, .lst xs] c = .ok x c' ∧ Cup c' ∧ x ∈ xs := by
  have hp : 0 < xs.length := List.length_pos_iff.mpr h1
  obtain ⟨r, c', e, hc', r1, r2⟩ := f__law_roll k xs.length c hc (by omega) (by omega)
  obtain ⟨j, rfl⟩ := Int.eq_ofNat_of_zero_le r1
  have hj : j < xs.length := by omega
  have e2 := item_lst (c := c') (List.getElem?_eq_getElem hj)
  refine ⟨xs[j], c', call_ok rfl rfl ?_, hc', List.getElem_mem hj⟩
  simp -implicitDefEqProofs only [e_con, e_var, e_bor, e_bin, k_bin, k_bin2, e_cmp, k_cmp, k_cmp2, e_neg, k_neg, e_nt, k_nt, k_truth, k_optB, e_and, k_and, k_andT, k_andF, e_or, k_or, k_orT, k_orF, e_ite, k_iteT, k_iteF, e_chain, k_ch, k_ch2, k_ch3T, k_ch3F, e_tup, k_tup, e_lst, k_lst, e_ix, k_ix, k_ix2, e_sl, k_sl, k_sl2, k_sl3, e_call, k_call, e_blt, k_blt, e_mth, k_mth, k_mth2, e_isin, k_is, e_pick, k_pick, k_pick2, es_nil, es_cons, k_es, k_es2, o_none, o_some, k_o, c_none, c_some, i_seq, k_seqT, k_seqL, i_r1, k_r1, i_r2, k_r2, k_r3, i_zip, k_zip, k_zipT, k_zipL, i_enum, k_enum, s_asg, k_asg, s_own, k_own2, k_slotL, k_slotD, k_slotV, s_par, k_par, k_par2, s_frz, s_app, k_app, k_app2, s_ife, k_ifeT, k_ifeF, s_whl, k_w, k_wT, k_wF, k_wN, k_wR, s_ret, k_ret, s_exp, k_exp, s_setC, k_setC, k_cup0, k_cup1, s_ap, k_ap, k_ap2, k_ap3, s_rc, k_rc, ss_nil, ss_cons, k_ssN, k_ssR, finR_rt, finR_nx, pureR_some, varv_0, varv_s, borv_0, borv_0o, borv_s, truth, startP, List.map_cons, List.map_nil, List.replicate_succ, List.replicate_zero, List.cons_append, List.nil_append, Nat.reduceSub, Nat.reduceAdd, bindT, bindTs, optS_some, List.set_cons_succ, List.set_cons_zero, wipeP, mkTup_0, mkTup_1, mkTup_2, mkTup_3, mkTup_4, mkTup_5, mkTup_6, mkTup_7, mkTup_8, mkLst_0, mkLst_1, mkLst_2, mkLst_3, mkLst_4, mkLst_5, mkLst_6, mkLst_7, mkLst_8, mkLst_9, mkLst_10, mkLst_11, mkLst_12, mkLst_13, mkLst_14, mkLst_15, mkLst_16, binop, cmpop, blV, Option.map_some, isTy, bltop, Bool.not_true, Bool.not_false, item_0, item_1, item_2, item_3, item_c0, item_c1, Option.bind_some, List.getElem?_cons_zero, List.getElem?_cons_succ, if_true, if_false, Bool.false_eq_true, and_self, dat_int, dat_bl, dat_non, peq_int, peq_bl, peq_nonnon, Int.cast_ofNat_Int, Int.reduceEq, Bool.and_self, List.length_cons, List.length_nil, Int.reduceLT, Int.reduceLE, Int.reduceAdd, Int.reduceSub, Nat.reduceLT, Nat.reduceLeDiff, decide_true, decide_false, Bool.or_true, Bool.true_or, true_and, and_true, b__law_some, e, e2]
/-! K06B: the law's own looks at companies. -/
/-! ### sorted ties -/
theorem ltP_trans {p q r : Int × Int} (h1 : ltP p q = true) (h2 : ltP q r = true) : ltP p r = true := by
  unfold ltP at *
  simp only [decide_eq_true_iff] at *
  omega
theorem adj_cons (p q : Int × Int) (r : List (Int × Int)) : adjP (p :: q :: r) = (ltP p q && adjP (q :: r)) := by
  unfold adjP
  simp
theorem adj_pw : ∀ ps : List (Int × Int), adjP ps = true ↔ ps.Pairwise fun p q => ltP p q = true
  | [] => by simp [adjP]
  | [p] => by simp [adjP]
  | p :: q :: r => by
    rw [adj_cons, Bool.and_eq_true, adj_pw (q :: r), List.pairwise_cons (a := p)]
    constructor
    · rintro ⟨h1, h2⟩
      refine ⟨fun x hx => ?_, h2⟩
      rcases List.mem_cons.mp hx with rfl | hx
      · exact h1
      · exact ltP_trans h1 ((List.pairwise_cons.mp h2).1 x hx)
    · rintro ⟨h1, h2⟩
      exact ⟨h1 q (List.mem_cons_self ..), h2⟩
theorem pw_nodup {ps : List (Int × Int)} (h : ps.Pairwise fun p q => ltP p q = true) : ps.Nodup := by
  refine List.Pairwise.imp (fun {a b} hab e => ?_) h
  subst e
  unfold ltP at hab
  simp at hab
theorem adj_sort {ps : List (Int × Int)} (hb : ∀ p ∈ ps, 0 ≤ p.1 ∧ p.1 < 64 ∧ 0 ≤ p.2 ∧ p.2 < 64) : adjP ps = decide (ps = sortPr ps) := by
  rw [Bool.eq_iff_iff, adj_pw, decide_eq_true_iff]
  constructor
  · intro h
    refine sortPr_uniq hb (pw_nodup h) (fun x => Iff.rfl) (List.Pairwise.imp_of_mem (fun {a b} ha hb' hab => ?_) h)
    have b1 := hb a ha
    have b2 := hb b hb'
    unfold ltP at hab
    unfold prLe
    simp only [decide_eq_true_iff] at *
    omega
  · intro e
    have nd : ps.Nodup := by rw [e]; exact (sortPr_perm ps).nodup_iff.mpr (nodup_dups _ _ (Nat.le_refl _))
    have pw : ps.Pairwise fun p q => prLe p q = true := by
      have := sortPr_pw ps
      rwa [← e] at this
    refine List.Pairwise.imp_of_mem (fun {a b} ha hb' hab => ?_) (List.Pairwise.and nd pw)
    obtain ⟨ne, le⟩ := hab
    have b1 := hb a ha
    have b2 := hb b hb'
    unfold prLe at le
    unfold ltP
    simp only [decide_eq_true_iff] at *
    by_cases h1 : a.1 = b.1
    · have : a.2 ≠ b.2 := fun z => ne (Prod.ext h1 z)
      omega
    · omega
theorem prV_inj {p q : Int × Int} (h : prV p = prV q) : p = q := by
  unfold prV at h
  injection h with h
  injection h with h1 h
  injection h with h2 _
  injection h1 with h1
  injection h2 with h2
  exact Prod.ext h1 h2
theorem peq_pr (p q : Int × Int) : peq (prV p) (prV q) = decide (p = q) := by
  show (p.1 == q.1 && (p.2 == q.2 && true)) = _
  rw [Bool.eq_iff_iff]
  simp only [Bool.and_eq_true, beq_iff_eq, and_true, decide_eq_true_iff]
  exact ⟨fun h => Prod.ext h.1 h.2, fun h => ⟨by rw [h], by rw [h]⟩⟩
theorem peqL_prs : ∀ ps qs : List (Int × Int), peqL (ps.map prV) (qs.map prV) = decide (ps = qs)
  | [], [] => rfl
  | [], _ :: _ => rfl
  | _ :: _, [] => rfl
  | p :: ps, q :: qs => by
    rw [List.map_cons, List.map_cons, peqL, peq_pr, peqL_prs ps qs, Bool.eq_iff_iff]
    simp
theorem peq_lst {xs ys : List PV} : peq (.lst xs) (.lst ys) = peqL xs ys := by rw [peq]
theorem peq_tup {xs ys : List PV} : peq (.tup xs) (.tup ys) = peqL xs ys := by rw [peq]
theorem peq_lprs {ps qs : List (Int × Int)} : peq (.lst (ps.map prV)) (.lst (qs.map prV)) = decide (ps = qs) := by rw [peq, peqL_prs]
theorem peq_tprs {ps qs : List (Int × Int)} : peq (.tup (ps.map prV)) (.tup (qs.map prV)) = decide (ps = qs) := by rw [peq, peqL_prs]
theorem dat_prs (ps : List (Int × Int)) : (ps.map prV).all (small 59) = true := by
  rw [List.all_map, List.all_eq_true]
  intro p _
  rfl
theorem dat_tprs (ps : List (Int × Int)) : dat (.tup (ps.map prV)) = true := dat_prs ps
theorem dat_lprs (ps : List (Int × Int)) : dat (.lst (ps.map prV)) = true := dat_prs ps
theorem asPrs_map : ∀ {ps : List (Int × Int)}, (∀ p ∈ ps, 0 ≤ p.1 ∧ p.1 < 64 ∧ 0 ≤ p.2 ∧ p.2 < 64) → asPrs (ps.map prV) = some ps
  | [], _ => rfl
  | p :: ps, h => by
    have h1 := h p (List.mem_cons_self ..)
    show (if 0 ≤ p.1 ∧ p.1 < 64 ∧ 0 ≤ p.2 ∧ p.2 < 64 then (asPrs (ps.map prV)).map ((p.1, p.2) :: ·) else none) = _
    rw [if_pos h1, asPrs_map fun q hq => h q (List.mem_cons_of_mem _ hq)]
    rfl
/-! ### lists of ones -/
theorem dat_ones {α : Type} (xs : List α) : dat (.lst (xs.map fun _ => PV.int 1)) = true := by
  show (xs.map fun _ => PV.int 1).all (small 59) = true
  rw [List.all_map, List.all_eq_true]
  intro p _
  rfl
theorem dat_nil : dat (.lst []) = true := rfl
theorem peq_ones {α : Type} (xs : List α) (p : α → Bool) : peq (.lst ((xs.filter p).map fun _ => PV.int 1)) (.lst []) = !xs.any p := by
  rw [peq]
  cases h : xs.filter p with
  | nil =>
    rw [List.filter_eq_nil_iff] at h
    have : xs.any p = false := by simpa using h
    rw [this]; rfl
  | cons y r =>
    have : xs.any p = true := by
      rw [List.any_eq_true]
      have hm : y ∈ xs.filter p := by rw [h]; exact List.mem_cons_self ..
      exact ⟨y, (List.mem_filter.mp hm).1, (List.mem_filter.mp hm).2⟩
    rw [this]; rfl
/-! ### _law_are_whole -/
def tupWhole (v : PV) (lo hi : Int) : Bool := match v with
  | .tup xs => xs.all (wholeB · lo hi)
  | _ => false
/-! ### _law_judged -/
theorem len2 {α : Type} {xs : List α} (h : xs.length = 2) : ∃ a b, xs = [a, b] := by
  match xs, h with
  | [a, b], _ => exact ⟨a, b, rfl⟩
theorem ties64 {n : Int} {ps : List (Int × Int)} (hn : n ≤ 9) (hp : ∀ p ∈ ps, 0 ≤ p.1 ∧ p.1 < p.2 ∧ p.2 ≤ n - 1) : ∀ p ∈ ps, 0 ≤ p.1 ∧ p.1 < 64 ∧ 0 ≤ p.2 ∧ p.2 < 64 := fun p h => by
  have := hp p h
  omega
/-! K06C: companies. -/
def mm (a b : Int) : Int × Int := if a < b then (a, b) else (b, a)
theorem mm_comm (a b : Int) : mm a b = mm b a := by
  unfold mm
  rcases Int.lt_trichotomy a b with h | h | h
  · rw [if_pos h, if_neg (by omega)]
  · subst h; rfl
  · rw [if_neg (by omega), if_pos h]
theorem f_mm (k : Nat) (a b : Int) (c : List PV) : callK P (k + 1) n_pair_of [.int a, .int b] c = .ok (prV (mm a b)) c := by
  rw [f_pair_of]
  congr 2
  unfold mm
  rcases Int.lt_trichotomy a b with h | h | h
  · rw [if_pos h, if_neg (by omega), if_pos h]
  · subst h; simp
  · have h2 : ¬ a < b := by omega
    simp [h, h2]
theorem f_mm2 (k : Nat) (a b : Int) (c : List PV) : callK P (k + 1) n__law_two [.int a, .int b] c = .ok (prV (mm a b)) c := f__law_two k a b c
theorem mem_prs {n : Nat} {p : Int × Int} : p ∈ prs n ↔ 0 ≤ p.1 ∧ p.1 < p.2 ∧ p.2 < n := by
  unfold prs
  rw [List.mem_flatMap]
  constructor
  · rintro ⟨i, hi, hp⟩
    obtain ⟨j, hj, rfl⟩ := List.mem_map.mp hp
    rw [List.mem_range] at hi hj
    simp only
    omega
  · rintro ⟨h1, h2, h3⟩
    obtain ⟨a, b⟩ := p
    simp only at h1 h2 h3
    refine ⟨a.toNat, List.mem_range.mpr (by omega), List.mem_map.mpr ⟨b.toNat - (a.toNat + 1), List.mem_range.mpr (by omega), ?_⟩⟩
    apply Prod.ext <;> simp only <;> omega
theorem prs_pw {n : Nat} (h : n ≤ 9) : (prs n).Pairwise fun p q => ltP p q = true :=
  n9 (p := fun n => (prs n).Pairwise fun p q => ltP p q = true) h (by decide +kernel) (by decide +kernel) (by decide +kernel) (by decide +kernel) (by decide +kernel) (by decide +kernel) (by decide +kernel) (by decide +kernel) (by decide +kernel) (by decide +kernel)
theorem prs_len {n : Nat} (h : n ≤ 9) : (prs n).length ≤ 36 :=
  n9 (p := fun n => (prs n).length ≤ 36) h (by decide +kernel) (by decide +kernel) (by decide +kernel) (by decide +kernel) (by decide +kernel) (by decide +kernel) (by decide +kernel) (by decide +kernel) (by decide +kernel) (by decide +kernel)
structure Com (named n : Nat) (ps : List (Int × Int)) : Prop where
  a : 1 ≤ named
  b : named ≤ 3
  c : named ≤ n
  d : n ≤ 9
  s : ps.Sublist (prs n)
section
variable {named n : Nat} {ps : List (Int × Int)}
theorem Com.mem (h : Com named n ps) {p : Int × Int} (hp : p ∈ ps) : 0 ≤ p.1 ∧ p.1 < p.2 ∧ p.2 < n := mem_prs.mp (h.s.subset hp)
theorem Com.len (h : Com named n ps) : ps.length ≤ 36 := Nat.le_trans h.s.length_le (prs_len h.d)
theorem Com.adj (h : Com named n ps) : adjP ps = true := (adj_pw ps).mpr ((prs_pw h.d).sublist h.s)
theorem Com.kind (h : Com named n ps) : Kind named (cmpV n ps) true := by
  rw [← h.adj]
  have h1 := h.c
  have h2 := h.d
  exact .ties (by omega) (by omega) fun p hp => by have := h.mem hp; omega
theorem sm_prs (ps : List (Int × Int)) (m : Nat) : (ps.map prV).all (sm (m + 1)) = true := by
  rw [List.all_map, List.all_eq_true]
  intro p _
  show (decide (2 < 64) && [PV.int p.1, PV.int p.2].all (sm m)) = true
  cases m <;> rfl
theorem sm_cmp {n : Int} {ps : List (Int × Int)} (h : ps.length < 64) : sm 5 (.tup [.int n, .tup (ps.map prV)]) = true := by
  rw [sm, List.all_cons, List.all_cons, sm, sm, sm_prs, List.length_map]
  simp [h]
theorem Com.sm (h : Com named n ps) : sm 5 (cmpV n ps) = true := sm_cmp (by have := h.len; omega)
end
/-! ### what must be -/
theorem f_need_named (k : Nat) (named : Nat) (c : List PV) (h1 : 1 ≤ named) (h2 : named ≤ 3) : callK P (k + 2) n_need_named [.int named] c = .ok .non c := by
  refine call_ok rfl rfl ?_
  have e : callK P (k + 1) n_is_whole [.int named, .int 1, .int 3] c = .ok (.bl true) c := by
    rw [f_is_whole _ _ _ _ _ rfl]
    congr 2
    unfold wholeB
    simp only [Bool.and_eq_true, decide_eq_true_iff]
    omega
  simp -implicitDefEqProofs only [e_con, e_var, e_bor, e_bin, k_bin, k_bin2, e_cmp, k_cmp, k_cmp2, e_neg, k_neg, e_nt, k_nt, k_truth, k_optB, e_and, k_and, k_andT, k_andF, e_or, k_or, k_orT, k_orF, e_ite, k_iteT, k_iteF, e_chain, k_ch, k_ch2, k_ch3T, k_ch3F, e_tup, k_tup, e_lst, k_lst, e_ix, k_ix, k_ix2, e_sl, k_sl, k_sl2, k_sl3, e_call, k_call, e_blt, k_blt, e_mth, k_mth, k_mth2, e_isin, k_is, e_pick, k_pick, k_pick2, es_nil, es_cons, k_es, k_es2, o_none, o_some, k_o, c_none, c_some, i_seq, k_seqT, k_seqL, i_r1, k_r1, i_r2, k_r2, k_r3, i_zip, k_zip, k_zipT, k_zipL, i_enum, k_enum, s_asg, k_asg, s_own, k_own2, k_slotL, k_slotD, k_slotV, s_par, k_par, k_par2, s_frz, s_app, k_app, k_app2, s_ife, k_ifeT, k_ifeF, s_whl, k_w, k_wT, k_wF, k_wN, k_wR, s_ret, k_ret, s_exp, k_exp, s_setC, k_setC, k_cup0, k_cup1, s_ap, k_ap, k_ap2, k_ap3, s_rc, k_rc, ss_nil, ss_cons, k_ssN, k_ssR, finR_rt, finR_nx, pureR_some, varv_0, varv_s, borv_0, borv_0o, borv_s, truth, startP, List.map_cons, List.map_nil, List.replicate_succ, List.replicate_zero, List.cons_append, List.nil_append, Nat.reduceSub, Nat.reduceAdd, bindT, bindTs, optS_some, List.set_cons_succ, List.set_cons_zero, wipeP, mkTup_0, mkTup_1, mkTup_2, mkTup_3, mkTup_4, mkTup_5, mkTup_6, mkTup_7, mkTup_8, mkLst_0, mkLst_1, mkLst_2, mkLst_3, mkLst_4, mkLst_5, mkLst_6, mkLst_7, mkLst_8, mkLst_9, mkLst_10, mkLst_11, mkLst_12, mkLst_13, mkLst_14, mkLst_15, mkLst_16, binop, cmpop, blV, Option.map_some, isTy, bltop, Bool.not_true, Bool.not_false, item_0, item_1, item_2, item_3, item_c0, item_c1, Option.bind_some, List.getElem?_cons_zero, List.getElem?_cons_succ, if_true, if_false, Bool.false_eq_true, and_self, dat_int, dat_bl, dat_non, peq_int, peq_bl, peq_nonnon, Int.cast_ofNat_Int, Int.reduceEq, Bool.and_self, List.length_cons, List.length_nil, Int.reduceLT, Int.reduceLE, Int.reduceAdd, Int.reduceSub, Nat.reduceLT, Nat.reduceLeDiff, decide_true, decide_false, Bool.or_true, Bool.true_or, true_and, and_true, b_need_named, e]
theorem f_need_company {named n : Nat} {ps : List (Int × Int)} (h : Com named n ps) (k : Nat) (c : List PV) : callK P (k + 5) n_need_company [.int named, cmpV n ps] c = .ok .non c := by
  refine call_ok rfl rfl ?_
  have e := f_fits_company k named _ _ c h.sm h.kind
  simp -implicitDefEqProofs only [e_con, e_var, e_bor, e_bin, k_bin, k_bin2, e_cmp, k_cmp, k_cmp2, e_neg, k_neg, e_nt, k_nt, k_truth, k_optB, e_and, k_and, k_andT, k_andF, e_or, k_or, k_orT, k_orF, e_ite, k_iteT, k_iteF, e_chain, k_ch, k_ch2, k_ch3T, k_ch3F, e_tup, k_tup, e_lst, k_lst, e_ix, k_ix, k_ix2, e_sl, k_sl, k_sl2, k_sl3, e_call, k_call, e_blt, k_blt, e_mth, k_mth, k_mth2, e_isin, k_is, e_pick, k_pick, k_pick2, es_nil, es_cons, k_es, k_es2, o_none, o_some, k_o, c_none, c_some, i_seq, k_seqT, k_seqL, i_r1, k_r1, i_r2, k_r2, k_r3, i_zip, k_zip, k_zipT, k_zipL, i_enum, k_enum, s_asg, k_asg, s_own, k_own2, k_slotL, k_slotD, k_slotV, s_par, k_par, k_par2, s_frz, s_app, k_app, k_app2, s_ife, k_ifeT, k_ifeF, s_whl, k_w, k_wT, k_wF, k_wN, k_wR, s_ret, k_ret, s_exp, k_exp, s_setC, k_setC, k_cup0, k_cup1, s_ap, k_ap, k_ap2, k_ap3, s_rc, k_rc, ss_nil, ss_cons, k_ssN, k_ssR, finR_rt, finR_nx, pureR_some, varv_0, varv_s, borv_0, borv_0o, borv_s, truth, startP, List.map_cons, List.map_nil, List.replicate_succ, List.replicate_zero, List.cons_append, List.nil_append, Nat.reduceSub, Nat.reduceAdd, bindT, bindTs, optS_some, List.set_cons_succ, List.set_cons_zero, wipeP, mkTup_0, mkTup_1, mkTup_2, mkTup_3, mkTup_4, mkTup_5, mkTup_6, mkTup_7, mkTup_8, mkLst_0, mkLst_1, mkLst_2, mkLst_3, mkLst_4, mkLst_5, mkLst_6, mkLst_7, mkLst_8, mkLst_9, mkLst_10, mkLst_11, mkLst_12, mkLst_13, mkLst_14, mkLst_15, mkLst_16, binop, cmpop, blV, Option.map_some, isTy, bltop, Bool.not_true, Bool.not_false, item_0, item_1, item_2, item_3, item_c0, item_c1, Option.bind_some, List.getElem?_cons_zero, List.getElem?_cons_succ, if_true, if_false, Bool.false_eq_true, and_self, dat_int, dat_bl, dat_non, peq_int, peq_bl, peq_nonnon, Int.cast_ofNat_Int, Int.reduceEq, Bool.and_self, List.length_cons, List.length_nil, Int.reduceLT, Int.reduceLE, Int.reduceAdd, Int.reduceSub, Nat.reduceLT, Nat.reduceLeDiff, decide_true, decide_false, Bool.or_true, Bool.true_or, true_and, and_true, b_need_company, e]
theorem dat_pr (p : Int × Int) : dat (prV p) = true := rfl
theorem any_prs (p : Int × Int) (ps : List (Int × Int)) : ((ps.map prV).any fun y => peq y (prV p)) = decide (p ∈ ps) := by
  rw [Bool.eq_iff_iff, List.any_eq_true, decide_eq_true_iff]
  constructor
  · rintro ⟨y, hy, e⟩
    obtain ⟨q, hq, rfl⟩ := List.mem_map.mp hy
    rw [peq_pr, decide_eq_true_iff] at e
    rwa [← e]
  · intro h
    exact ⟨prV p, List.mem_map.mpr ⟨p, h, rfl⟩, by rw [peq_pr]; simp⟩
theorem pin_prs (p : Int × Int) (ps : List (Int × Int)) : pin (prV p) (.tup (ps.map prV)) = some (decide (p ∈ ps)) := by
  rw [pin, dat_pr, dat_tprs, any_prs]; rfl
theorem rng0 (n : Nat) : rng 0 (n : Int) = (List.range n).map fun (i : Nat) => PV.int (i : Int) := by
  unfold rng
  simp
theorem okR_s {i : Int} (h1 : 0 ≤ i) (h2 : i ≤ 1000000) : okR i = true := by
  unfold okR
  rw [decide_eq_true_iff]
  omega
theorem f__law_knows {n : Nat} {ps : List (Int × Int)} (k : Nat) (i j : Int) (c : List PV) : callK P (k + 2) n__law_knows [cmpV n ps, .int i, .int j] c = .ok (.bl (decide (mm i j ∈ ps))) c := by
  refine call_ok rfl rfl ?_
  have e5 := f_mm2 k i j c
  have e6 := pin_prs (mm i j) ps
  simp -implicitDefEqProofs only [e_con, e_var, e_bor, e_bin, k_bin, k_bin2, e_cmp, k_cmp, k_cmp2, e_neg, k_neg, e_nt, k_nt, k_truth, k_optB, e_and, k_and, k_andT, k_andF, e_or, k_or, k_orT, k_orF, e_ite, k_iteT, k_iteF, e_chain, k_ch, k_ch2, k_ch3T, k_ch3F, e_tup, k_tup, e_lst, k_lst, e_ix, k_ix, k_ix2, e_sl, k_sl, k_sl2, k_sl3, e_call, k_call, e_blt, k_blt, e_mth, k_mth, k_mth2, e_isin, k_is, e_pick, k_pick, k_pick2, es_nil, es_cons, k_es, k_es2, o_none, o_some, k_o, c_none, c_some, i_seq, k_seqT, k_seqL, i_r1, k_r1, i_r2, k_r2, k_r3, i_zip, k_zip, k_zipT, k_zipL, i_enum, k_enum, s_asg, k_asg, s_own, k_own2, k_slotL, k_slotD, k_slotV, s_par, k_par, k_par2, s_frz, s_app, k_app, k_app2, s_ife, k_ifeT, k_ifeF, s_whl, k_w, k_wT, k_wF, k_wN, k_wR, s_ret, k_ret, s_exp, k_exp, s_setC, k_setC, k_cup0, k_cup1, s_ap, k_ap, k_ap2, k_ap3, s_rc, k_rc, ss_nil, ss_cons, k_ssN, k_ssR, finR_rt, finR_nx, pureR_some, varv_0, varv_s, borv_0, borv_0o, borv_s, truth, startP, List.map_cons, List.map_nil, List.replicate_succ, List.replicate_zero, List.cons_append, List.nil_append, Nat.reduceSub, Nat.reduceAdd, bindT, bindTs, optS_some, List.set_cons_succ, List.set_cons_zero, wipeP, mkTup_0, mkTup_1, mkTup_2, mkTup_3, mkTup_4, mkTup_5, mkTup_6, mkTup_7, mkTup_8, mkLst_0, mkLst_1, mkLst_2, mkLst_3, mkLst_4, mkLst_5, mkLst_6, mkLst_7, mkLst_8, mkLst_9, mkLst_10, mkLst_11, mkLst_12, mkLst_13, mkLst_14, mkLst_15, mkLst_16, binop, cmpop, blV, Option.map_some, isTy, bltop, Bool.not_true, Bool.not_false, item_0, item_1, item_2, item_3, item_c0, item_c1, Option.bind_some, List.getElem?_cons_zero, List.getElem?_cons_succ, if_true, if_false, Bool.false_eq_true, and_self, dat_int, dat_bl, dat_non, peq_int, peq_bl, peq_nonnon, Int.cast_ofNat_Int, Int.reduceEq, Bool.and_self, List.length_cons, List.length_nil, Int.reduceLT, Int.reduceLE, Int.reduceAdd, Int.reduceSub, Nat.reduceLT, Nat.reduceLeDiff, decide_true, decide_false, Bool.or_true, Bool.true_or, true_and, and_true, b__law_knows, cmpV, e5, e6]
/-! K06D: parts. -/
theorem f_company_by (k : Nat) (m : Nat) (g : Int × Int → Bool) (kn : PV) (c : List PV) (hm : m ≤ 9) (hk : ∀ p ∈ prs m, item kn (prV p) c = some (.bl (g p))) :
    callK P (k + 2) n_company_by [.int m, kn] c = .ok (cmpV m ((prs m).filter g)) c := by
  have e0 : evalE (callK P (k + 1)) b_company_by_c0 [.val (.int m), .val kn, .no] c = .ok (.lst (((prs m).filter g).map prV)) c := by
    refine comp_pure (prs m) prV g prV ?_ (fun x hx => ⟨_, rfl, ?_, fun _ => ?_⟩) (by have := prs_len hm; unfold LIM; omega)
    · have := f_pairs_of k m c hm
      simp -implicitDefEqProofs only [e_con, e_var, e_bor, e_bin, k_bin, k_bin2, e_cmp, k_cmp, k_cmp2, e_neg, k_neg, e_nt, k_nt, k_truth, k_optB, e_and, k_and, k_andT, k_andF, e_or, k_or, k_orT, k_orF, e_ite, k_iteT, k_iteF, e_chain, k_ch, k_ch2, k_ch3T, k_ch3F, e_tup, k_tup, e_lst, k_lst, e_ix, k_ix, k_ix2, e_sl, k_sl, k_sl2, k_sl3, e_call, k_call, e_blt, k_blt, e_mth, k_mth, k_mth2, e_isin, k_is, e_pick, k_pick, k_pick2, es_nil, es_cons, k_es, k_es2, o_none, o_some, k_o, c_none, c_some, i_seq, k_seqT, k_seqL, i_r1, k_r1, i_r2, k_r2, k_r3, i_zip, k_zip, k_zipT, k_zipL, i_enum, k_enum, s_asg, k_asg, s_own, k_own2, k_slotL, k_slotD, k_slotV, s_par, k_par, k_par2, s_frz, s_app, k_app, k_app2, s_ife, k_ifeT, k_ifeF, s_whl, k_w, k_wT, k_wF, k_wN, k_wR, s_ret, k_ret, s_exp, k_exp, s_setC, k_setC, k_cup0, k_cup1, s_ap, k_ap, k_ap2, k_ap3, s_rc, k_rc, ss_nil, ss_cons, k_ssN, k_ssR, finR_rt, finR_nx, pureR_some, varv_0, varv_s, borv_0, borv_0o, borv_s, truth, startP, List.map_cons, List.map_nil, List.replicate_succ, List.replicate_zero, List.cons_append, List.nil_append, Nat.reduceSub, Nat.reduceAdd, bindT, bindTs, optS_some, List.set_cons_succ, List.set_cons_zero, wipeP, mkTup_0, mkTup_1, mkTup_2, mkTup_3, mkTup_4, mkTup_5, mkTup_6, mkTup_7, mkTup_8, mkLst_0, mkLst_1, mkLst_2, mkLst_3, mkLst_4, mkLst_5, mkLst_6, mkLst_7, mkLst_8, mkLst_9, mkLst_10, mkLst_11, mkLst_12, mkLst_13, mkLst_14, mkLst_15, mkLst_16, binop, cmpop, blV, Option.map_some, isTy, bltop, Bool.not_true, Bool.not_false, item_0, item_1, item_2, item_3, item_c0, item_c1, Option.bind_some, List.getElem?_cons_zero, List.getElem?_cons_succ, if_true, if_false, Bool.false_eq_true, and_self, dat_int, dat_bl, dat_non, peq_int, peq_bl, peq_nonnon, Int.cast_ofNat_Int, Int.reduceEq, Bool.and_self, List.length_cons, List.length_nil, Int.reduceLT, Int.reduceLE, Int.reduceAdd, Int.reduceSub, Nat.reduceLT, Nat.reduceLeDiff, decide_true, decide_false, Bool.or_true, Bool.true_or, true_and, and_true, this]
    · simp -implicitDefEqProofs only [e_con, e_var, e_bor, e_bin, k_bin, k_bin2, e_cmp, k_cmp, k_cmp2, e_neg, k_neg, e_nt, k_nt, k_truth, k_optB, e_and, k_and, k_andT, k_andF, e_or, k_or, k_orT, k_orF, e_ite, k_iteT, k_iteF, e_chain, k_ch, k_ch2, k_ch3T, k_ch3F, e_tup, k_tup, e_lst, k_lst, e_ix, k_ix, k_ix2, e_sl, k_sl, k_sl2, k_sl3, e_call, k_call, e_blt, k_blt, e_mth, k_mth, k_mth2, e_isin, k_is, e_pick, k_pick, k_pick2, es_nil, es_cons, k_es, k_es2, o_none, o_some, k_o, c_none, c_some, i_seq, k_seqT, k_seqL, i_r1, k_r1, i_r2, k_r2, k_r3, i_zip, k_zip, k_zipT, k_zipL, i_enum, k_enum, s_asg, k_asg, s_own, k_own2, k_slotL, k_slotD, k_slotV, s_par, k_par, k_par2, s_frz, s_app, k_app, k_app2, s_ife, k_ifeT, k_ifeF, s_whl, k_w, k_wT, k_wF, k_wN, k_wR, s_ret, k_ret, s_exp, k_exp, s_setC, k_setC, k_cup0, k_cup1, s_ap, k_ap, k_ap2, k_ap3, s_rc, k_rc, ss_nil, ss_cons, k_ssN, k_ssR, finR_rt, finR_nx, pureR_some, varv_0, varv_s, borv_0, borv_0o, borv_s, truth, startP, List.map_cons, List.map_nil, List.replicate_succ, List.replicate_zero, List.cons_append, List.nil_append, Nat.reduceSub, Nat.reduceAdd, bindT, bindTs, optS_some, List.set_cons_succ, List.set_cons_zero, wipeP, mkTup_0, mkTup_1, mkTup_2, mkTup_3, mkTup_4, mkTup_5, mkTup_6, mkTup_7, mkTup_8, mkLst_0, mkLst_1, mkLst_2, mkLst_3, mkLst_4, mkLst_5, mkLst_6, mkLst_7, mkLst_8, mkLst_9, mkLst_10, mkLst_11, mkLst_12, mkLst_13, mkLst_14, mkLst_15, mkLst_16, binop, cmpop, blV, Option.map_some, isTy, bltop, Bool.not_true, Bool.not_false, item_0, item_1, item_2, item_3, item_c0, item_c1, Option.bind_some, List.getElem?_cons_zero, List.getElem?_cons_succ, if_true, if_false, Bool.false_eq_true, and_self, dat_int, dat_bl, dat_non, peq_int, peq_bl, peq_nonnon, Int.cast_ofNat_Int, Int.reduceEq, Bool.and_self, List.length_cons, List.length_nil, Int.reduceLT, Int.reduceLE, Int.reduceAdd, Int.reduceSub, Nat.reduceLT, Nat.reduceLeDiff, decide_true, decide_false, Bool.or_true, Bool.true_or, true_and, and_true, hk x hx]
    · simp -implicitDefEqProofs only [e_con, e_var, e_bor, e_bin, k_bin, k_bin2, e_cmp, k_cmp, k_cmp2, e_neg, k_neg, e_nt, k_nt, k_truth, k_optB, e_and, k_and, k_andT, k_andF, e_or, k_or, k_orT, k_orF, e_ite, k_iteT, k_iteF, e_chain, k_ch, k_ch2, k_ch3T, k_ch3F, e_tup, k_tup, e_lst, k_lst, e_ix, k_ix, k_ix2, e_sl, k_sl, k_sl2, k_sl3, e_call, k_call, e_blt, k_blt, e_mth, k_mth, k_mth2, e_isin, k_is, e_pick, k_pick, k_pick2, es_nil, es_cons, k_es, k_es2, o_none, o_some, k_o, c_none, c_some, i_seq, k_seqT, k_seqL, i_r1, k_r1, i_r2, k_r2, k_r3, i_zip, k_zip, k_zipT, k_zipL, i_enum, k_enum, s_asg, k_asg, s_own, k_own2, k_slotL, k_slotD, k_slotV, s_par, k_par, k_par2, s_frz, s_app, k_app, k_app2, s_ife, k_ifeT, k_ifeF, s_whl, k_w, k_wT, k_wF, k_wN, k_wR, s_ret, k_ret, s_exp, k_exp, s_setC, k_setC, k_cup0, k_cup1, s_ap, k_ap, k_ap2, k_ap3, s_rc, k_rc, ss_nil, ss_cons, k_ssN, k_ssR, finR_rt, finR_nx, pureR_some, varv_0, varv_s, borv_0, borv_0o, borv_s, truth, startP, List.map_cons, List.map_nil, List.replicate_succ, List.replicate_zero, List.cons_append, List.nil_append, Nat.reduceSub, Nat.reduceAdd, bindT, bindTs, optS_some, List.set_cons_succ, List.set_cons_zero, wipeP, mkTup_0, mkTup_1, mkTup_2, mkTup_3, mkTup_4, mkTup_5, mkTup_6, mkTup_7, mkTup_8, mkLst_0, mkLst_1, mkLst_2, mkLst_3, mkLst_4, mkLst_5, mkLst_6, mkLst_7, mkLst_8, mkLst_9, mkLst_10, mkLst_11, mkLst_12, mkLst_13, mkLst_14, mkLst_15, mkLst_16, binop, cmpop, blV, Option.map_some, isTy, bltop, Bool.not_true, Bool.not_false, item_0, item_1, item_2, item_3, item_c0, item_c1, Option.bind_some, List.getElem?_cons_zero, List.getElem?_cons_succ, if_true, if_false, Bool.false_eq_true, and_self, dat_int, dat_bl, dat_non, peq_int, peq_bl, peq_nonnon, Int.cast_ofNat_Int, Int.reduceEq, Bool.and_self, List.length_cons, List.length_nil, Int.reduceLT, Int.reduceLE, Int.reduceAdd, Int.reduceSub, Nat.reduceLT, Nat.reduceLeDiff, decide_true, decide_false, Bool.or_true, Bool.true_or, true_and, and_true]
  refine call_ok rfl rfl ?_
  simp -implicitDefEqProofs only [e_con, e_var, e_bor, e_bin, k_bin, k_bin2, e_cmp, k_cmp, k_cmp2, e_neg, k_neg, e_nt, k_nt, k_truth, k_optB, e_and, k_and, k_andT, k_andF, e_or, k_or, k_orT, k_orF, e_ite, k_iteT, k_iteF, e_chain, k_ch, k_ch2, k_ch3T, k_ch3F, e_tup, k_tup, e_lst, k_lst, e_ix, k_ix, k_ix2, e_sl, k_sl, k_sl2, k_sl3, e_call, k_call, e_blt, k_blt, e_mth, k_mth, k_mth2, e_isin, k_is, e_pick, k_pick, k_pick2, es_nil, es_cons, k_es, k_es2, o_none, o_some, k_o, c_none, c_some, i_seq, k_seqT, k_seqL, i_r1, k_r1, i_r2, k_r2, k_r3, i_zip, k_zip, k_zipT, k_zipL, i_enum, k_enum, s_asg, k_asg, s_own, k_own2, k_slotL, k_slotD, k_slotV, s_par, k_par, k_par2, s_frz, s_app, k_app, k_app2, s_ife, k_ifeT, k_ifeF, s_whl, k_w, k_wT, k_wF, k_wN, k_wR, s_ret, k_ret, s_exp, k_exp, s_setC, k_setC, k_cup0, k_cup1, s_ap, k_ap, k_ap2, k_ap3, s_rc, k_rc, ss_nil, ss_cons, k_ssN, k_ssR, finR_rt, finR_nx, pureR_some, varv_0, varv_s, borv_0, borv_0o, borv_s, truth, startP, List.map_cons, List.map_nil, List.replicate_succ, List.replicate_zero, List.cons_append, List.nil_append, Nat.reduceSub, Nat.reduceAdd, bindT, bindTs, optS_some, List.set_cons_succ, List.set_cons_zero, wipeP, mkTup_0, mkTup_1, mkTup_2, mkTup_3, mkTup_4, mkTup_5, mkTup_6, mkTup_7, mkTup_8, mkLst_0, mkLst_1, mkLst_2, mkLst_3, mkLst_4, mkLst_5, mkLst_6, mkLst_7, mkLst_8, mkLst_9, mkLst_10, mkLst_11, mkLst_12, mkLst_13, mkLst_14, mkLst_15, mkLst_16, binop, cmpop, blV, Option.map_some, isTy, bltop, Bool.not_true, Bool.not_false, item_0, item_1, item_2, item_3, item_c0, item_c1, Option.bind_some, List.getElem?_cons_zero, List.getElem?_cons_succ, if_true, if_false, Bool.false_eq_true, and_self, dat_int, dat_bl, dat_non, peq_int, peq_bl, peq_nonnon, Int.cast_ofNat_Int, Int.reduceEq, Bool.and_self, List.length_cons, List.length_nil, Int.reduceLT, Int.reduceLE, Int.reduceAdd, Int.reduceSub, Nat.reduceLT, Nat.reduceLeDiff, decide_true, decide_false, Bool.or_true, Bool.true_or, true_and, and_true, b_company_by, e0, cmpV]
theorem isKey_pr (p : Int × Int) : isKey (prV p) = true := rfl
theorem asPairs_prs (g : Int × Int → PV) : ∀ ps : List (Int × Int), asPairs (ps.map fun p => .tup [prV p, g p]) = some (ps.map fun p => (prV p, g p))
  | [] => rfl
  | p :: ps => by
    show (if isKey (prV p) then (asPairs (ps.map fun p => .tup [prV p, g p])).map ((prV p, g p) :: ·) else none) = _
    rw [if_pos (isKey_pr p), asPairs_prs g ps]; rfl
theorem dget_prs (g : Int × Int → PV) (q : Int × Int) : ∀ ps : List (Int × Int), dget (ps.map fun p => (prV p, g p)) (prV q) = if q ∈ ps then some (g q) else none
  | [] => rfl
  | p :: ps => by
    rw [List.map_cons, dget, peq_pr, dget_prs g q ps]
    by_cases h : p = q
    · subst h; simp
    · have h2 : ¬ q = p := fun z => h z.symm
      simp [h, h2]
theorem distK_prs (g : Int × Int → PV) : ∀ {ps : List (Int × Int)}, ps.Nodup → distK (ps.map fun p => (prV p, g p)) = true
  | [], _ => rfl
  | p :: ps, h => by
    rw [List.nodup_cons] at h
    rw [List.map_cons, distK, dget_prs, if_neg h.1, distK_prs g h.2]; rfl
theorem dict_prs (g : Int × Int → PV) {ps : List (Int × Int)} (h : ps.Nodup) (hl : ps.length ≤ 36) : (asPairs (ps.map fun p => .tup [prV p, g p])).bind (fun qs => if ((ps.map fun p => PV.tup [prV p, g p]).length ≤ LIM && distK qs) = true then some (PV.dic qs) else none) = some (.dic (ps.map fun p => (prV p, g p))) := by
  rw [asPairs_prs, Option.bind_some, distK_prs g h, List.length_map]
  have : ps.length ≤ LIM := by unfold LIM; omega
  simp [this]
theorem prs_nodup {m : Nat} (h : m ≤ 9) : (prs m).Nodup := pw_nodup (prs_pw h)
def tiesV (n : Nat) (ps : List (Int × Int)) : PV := .dic ((prs n).map fun p => (prV p, .bl (decide (p ∈ ps))))
theorem f_ties_in {n : Nat} {ps : List (Int × Int)} (k : Nat) (c : List PV) (hn : n ≤ 9) : callK P (k + 2) n_ties_in [cmpV n ps] c = .ok (tiesV n ps) c := by
  have e0 : evalE (callK P (k + 1)) b_ties_in_c0 [.val (cmpV n ps), .no] c = .ok (.lst ((prs n).map fun p => .tup [prV p, .bl (decide (p ∈ ps))])) c := by
    refine comp_map (prs n) prV _ ?_ (fun x hx => ⟨_, rfl, ?_⟩) (by have := prs_len hn; unfold LIM; omega)
    · have := f_pairs_of k n c hn
      simp -implicitDefEqProofs only [e_con, e_var, e_bor, e_bin, k_bin, k_bin2, e_cmp, k_cmp, k_cmp2, e_neg, k_neg, e_nt, k_nt, k_truth, k_optB, e_and, k_and, k_andT, k_andF, e_or, k_or, k_orT, k_orF, e_ite, k_iteT, k_iteF, e_chain, k_ch, k_ch2, k_ch3T, k_ch3F, e_tup, k_tup, e_lst, k_lst, e_ix, k_ix, k_ix2, e_sl, k_sl, k_sl2, k_sl3, e_call, k_call, e_blt, k_blt, e_mth, k_mth, k_mth2, e_isin, k_is, e_pick, k_pick, k_pick2, es_nil, es_cons, k_es, k_es2, o_none, o_some, k_o, c_none, c_some, i_seq, k_seqT, k_seqL, i_r1, k_r1, i_r2, k_r2, k_r3, i_zip, k_zip, k_zipT, k_zipL, i_enum, k_enum, s_asg, k_asg, s_own, k_own2, k_slotL, k_slotD, k_slotV, s_par, k_par, k_par2, s_frz, s_app, k_app, k_app2, s_ife, k_ifeT, k_ifeF, s_whl, k_w, k_wT, k_wF, k_wN, k_wR, s_ret, k_ret, s_exp, k_exp, s_setC, k_setC, k_cup0, k_cup1, s_ap, k_ap, k_ap2, k_ap3, s_rc, k_rc, ss_nil, ss_cons, k_ssN, k_ssR, finR_rt, finR_nx, pureR_some, varv_0, varv_s, borv_0, borv_0o, borv_s, truth, startP, List.map_cons, List.map_nil, List.replicate_succ, List.replicate_zero, List.cons_append, List.nil_append, Nat.reduceSub, Nat.reduceAdd, bindT, bindTs, optS_some, List.set_cons_succ, List.set_cons_zero, wipeP, mkTup_0, mkTup_1, mkTup_2, mkTup_3, mkTup_4, mkTup_5, mkTup_6, mkTup_7, mkTup_8, mkLst_0, mkLst_1, mkLst_2, mkLst_3, mkLst_4, mkLst_5, mkLst_6, mkLst_7, mkLst_8, mkLst_9, mkLst_10, mkLst_11, mkLst_12, mkLst_13, mkLst_14, mkLst_15, mkLst_16, binop, cmpop, blV, Option.map_some, isTy, bltop, Bool.not_true, Bool.not_false, item_0, item_1, item_2, item_3, item_c0, item_c1, Option.bind_some, List.getElem?_cons_zero, List.getElem?_cons_succ, if_true, if_false, Bool.false_eq_true, and_self, dat_int, dat_bl, dat_non, peq_int, peq_bl, peq_nonnon, Int.cast_ofNat_Int, Int.reduceEq, Bool.and_self, List.length_cons, List.length_nil, Int.reduceLT, Int.reduceLE, Int.reduceAdd, Int.reduceSub, Nat.reduceLT, Nat.reduceLeDiff, decide_true, decide_false, Bool.or_true, Bool.true_or, true_and, and_true, cmpV, this]
    · simp -implicitDefEqProofs only [e_con, e_var, e_bor, e_bin, k_bin, k_bin2, e_cmp, k_cmp, k_cmp2, e_neg, k_neg, e_nt, k_nt, k_truth, k_optB, e_and, k_and, k_andT, k_andF, e_or, k_or, k_orT, k_orF, e_ite, k_iteT, k_iteF, e_chain, k_ch, k_ch2, k_ch3T, k_ch3F, e_tup, k_tup, e_lst, k_lst, e_ix, k_ix, k_ix2, e_sl, k_sl, k_sl2, k_sl3, e_call, k_call, e_blt, k_blt, e_mth, k_mth, k_mth2, e_isin, k_is, e_pick, k_pick, k_pick2, es_nil, es_cons, k_es, k_es2, o_none, o_some, k_o, c_none, c_some, i_seq, k_seqT, k_seqL, i_r1, k_r1, i_r2, k_r2, k_r3, i_zip, k_zip, k_zipT, k_zipL, i_enum, k_enum, s_asg, k_asg, s_own, k_own2, k_slotL, k_slotD, k_slotV, s_par, k_par, k_par2, s_frz, s_app, k_app, k_app2, s_ife, k_ifeT, k_ifeF, s_whl, k_w, k_wT, k_wF, k_wN, k_wR, s_ret, k_ret, s_exp, k_exp, s_setC, k_setC, k_cup0, k_cup1, s_ap, k_ap, k_ap2, k_ap3, s_rc, k_rc, ss_nil, ss_cons, k_ssN, k_ssR, finR_rt, finR_nx, pureR_some, varv_0, varv_s, borv_0, borv_0o, borv_s, truth, startP, List.map_cons, List.map_nil, List.replicate_succ, List.replicate_zero, List.cons_append, List.nil_append, Nat.reduceSub, Nat.reduceAdd, bindT, bindTs, optS_some, List.set_cons_succ, List.set_cons_zero, wipeP, mkTup_0, mkTup_1, mkTup_2, mkTup_3, mkTup_4, mkTup_5, mkTup_6, mkTup_7, mkTup_8, mkLst_0, mkLst_1, mkLst_2, mkLst_3, mkLst_4, mkLst_5, mkLst_6, mkLst_7, mkLst_8, mkLst_9, mkLst_10, mkLst_11, mkLst_12, mkLst_13, mkLst_14, mkLst_15, mkLst_16, binop, cmpop, blV, Option.map_some, isTy, bltop, Bool.not_true, Bool.not_false, item_0, item_1, item_2, item_3, item_c0, item_c1, Option.bind_some, List.getElem?_cons_zero, List.getElem?_cons_succ, if_true, if_false, Bool.false_eq_true, and_self, dat_int, dat_bl, dat_non, peq_int, peq_bl, peq_nonnon, Int.cast_ofNat_Int, Int.reduceEq, Bool.and_self, List.length_cons, List.length_nil, Int.reduceLT, Int.reduceLE, Int.reduceAdd, Int.reduceSub, Nat.reduceLT, Nat.reduceLeDiff, decide_true, decide_false, Bool.or_true, Bool.true_or, true_and, and_true, cmpV, pin_prs]
  refine call_ok rfl rfl ?_
  have e1 := dict_prs (fun p => .bl (decide (p ∈ ps))) (prs_nodup hn) (prs_len hn)
  simp -implicitDefEqProofs only [e_con, e_var, e_bor, e_bin, k_bin, k_bin2, e_cmp, k_cmp, k_cmp2, e_neg, k_neg, e_nt, k_nt, k_truth, k_optB, e_and, k_and, k_andT, k_andF, e_or, k_or, k_orT, k_orF, e_ite, k_iteT, k_iteF, e_chain, k_ch, k_ch2, k_ch3T, k_ch3F, e_tup, k_tup, e_lst, k_lst, e_ix, k_ix, k_ix2, e_sl, k_sl, k_sl2, k_sl3, e_call, k_call, e_blt, k_blt, e_mth, k_mth, k_mth2, e_isin, k_is, e_pick, k_pick, k_pick2, es_nil, es_cons, k_es, k_es2, o_none, o_some, k_o, c_none, c_some, i_seq, k_seqT, k_seqL, i_r1, k_r1, i_r2, k_r2, k_r3, i_zip, k_zip, k_zipT, k_zipL, i_enum, k_enum, s_asg, k_asg, s_own, k_own2, k_slotL, k_slotD, k_slotV, s_par, k_par, k_par2, s_frz, s_app, k_app, k_app2, s_ife, k_ifeT, k_ifeF, s_whl, k_w, k_wT, k_wF, k_wN, k_wR, s_ret, k_ret, s_exp, k_exp, s_setC, k_setC, k_cup0, k_cup1, s_ap, k_ap, k_ap2, k_ap3, s_rc, k_rc, ss_nil, ss_cons, k_ssN, k_ssR, finR_rt, finR_nx, pureR_some, varv_0, varv_s, borv_0, borv_0o, borv_s, truth, startP, List.map_cons, List.map_nil, List.replicate_succ, List.replicate_zero, List.cons_append, List.nil_append, Nat.reduceSub, Nat.reduceAdd, bindT, bindTs, optS_some, List.set_cons_succ, List.set_cons_zero, wipeP, mkTup_0, mkTup_1, mkTup_2, mkTup_3, mkTup_4, mkTup_5, mkTup_6, mkTup_7, mkTup_8, mkLst_0, mkLst_1, mkLst_2, mkLst_3, mkLst_4, mkLst_5, mkLst_6, mkLst_7, mkLst_8, mkLst_9, mkLst_10, mkLst_11, mkLst_12, mkLst_13, mkLst_14, mkLst_15, mkLst_16, binop, cmpop, blV, Option.map_some, isTy, bltop, Bool.not_true, Bool.not_false, item_0, item_1, item_2, item_3, item_c0, item_c1, Option.bind_some, List.getElem?_cons_zero, List.getElem?_cons_succ, if_true, if_false, Bool.false_eq_true, and_self, dat_int, dat_bl, dat_non, peq_int, peq_bl, peq_nonnon, Int.cast_ofNat_Int, Int.reduceEq, Bool.and_self, List.length_cons, List.length_nil, Int.reduceLT, Int.reduceLE, Int.reduceAdd, Int.reduceSub, Nat.reduceLT, Nat.reduceLeDiff, decide_true, decide_false, Bool.or_true, Bool.true_or, true_and, and_true, b_ties_in, e0, e1, tiesV]
theorem item_dic {g : Int × Int → PV} {l : List (Int × Int)} {q : Int × Int} {c : List PV} (h : q ∈ l) : item (.dic (l.map fun p => (prV p, g p))) (prV q) c = some (g q) := by
  show (if isKey (prV q) then dget _ (prV q) else none) = _
  rw [if_pos (isKey_pr q), dget_prs, if_pos h]
/-- the ties of a part: who is at which place -/
def sel (ql : List Int) (ps : List (Int × Int)) (p : Int × Int) : Bool := decide (mm (ql.getD p.1.toNat 0) (ql.getD p.2.toNat 0) ∈ ps)
theorem asInts_map : ∀ bs : List Int, asInts (bs.map PV.int) = some bs
  | [] => rfl
  | b :: bs => by rw [List.map_cons, asInts, asInts_map bs]; rfl
structure Bes (named n : Nat) (bs : List Int) : Prop where
  nd : bs.Nodup
  lo : ∀ b ∈ bs, (named : Int) ≤ b ∧ b < n
  le : named + bs.length ≤ n
def ppl (named : Nat) (bs : List Int) : List Int := (List.range named).map (fun (i : Nat) => (i : Int)) ++ bs
section
variable {named n : Nat} {bs : List Int}
theorem Bes.nodup (h : Bes named n bs) : (ppl named bs).Nodup := by
  unfold ppl
  rw [List.nodup_append]
  refine ⟨?_, h.nd, fun a ha b hb => ?_⟩
  · rw [List.Nodup, List.pairwise_map]
    exact List.Pairwise.imp (fun {a b} hab z => hab (by omega)) List.nodup_range
  · obtain ⟨i, hi, rfl⟩ := List.mem_map.mp ha
    rw [List.mem_range] at hi
    have := h.lo b hb
    intro z
    omega
theorem Bes.bd (h : Bes named n bs) (hc : named ≤ n) : ∀ x ∈ ppl named bs, 0 ≤ x ∧ x < n := fun x hx => by
  unfold ppl at hx
  rcases List.mem_append.mp hx with hx | hx
  · obtain ⟨i, hi, rfl⟩ := List.mem_map.mp hx
    rw [List.mem_range] at hi
    omega
  · have := h.lo x hx
    omega
theorem ppl_len : (ppl named bs).length = named + bs.length := by unfold ppl; simp
theorem mm_mem {n : Nat} {a b : Int} (ha : 0 ≤ a ∧ a < n) (hb : 0 ≤ b ∧ b < n) (ne : a ≠ b) : mm a b ∈ prs n := by
  rw [mem_prs]
  unfold mm
  split <;> simp only <;> omega
theorem Bes.pair (h : Bes named n bs) (hc : named ≤ n) {p : Int × Int} (hp : p ∈ prs (ppl named bs).length) :
    mm ((ppl named bs).getD p.1.toNat 0) ((ppl named bs).getD p.2.toNat 0) ∈ prs n ∧ ∃ i j : Nat, p = ((i : Int), (j : Int)) ∧ (ppl named bs)[i]? = some ((ppl named bs).getD p.1.toNat 0) ∧ (ppl named bs)[j]? = some ((ppl named bs).getD p.2.toNat 0) := by
  obtain ⟨h1, h2, h3⟩ := mem_prs.mp hp
  obtain ⟨a, b⟩ := p
  simp only at h1 h2 h3
  obtain ⟨i, rfl⟩ := Int.eq_ofNat_of_zero_le h1
  obtain ⟨j, rfl⟩ := Int.eq_ofNat_of_zero_le (show 0 ≤ b by omega)
  have hi : i < (ppl named bs).length := by omega
  have hj : j < (ppl named bs).length := by omega
  have ei : (ppl named bs).getD i 0 = (ppl named bs)[i] := by rw [List.getD_eq_getElem?_getD, List.getElem?_eq_getElem hi]; rfl
  have ej : (ppl named bs).getD j 0 = (ppl named bs)[j] := by rw [List.getD_eq_getElem?_getD, List.getElem?_eq_getElem hj]; rfl
  have bi := h.bd hc _ (List.getElem_mem hi)
  have bj := h.bd hc _ (List.getElem_mem hj)
  have ne : (ppl named bs)[i] ≠ (ppl named bs)[j] := List.pairwise_iff_getElem.mp h.nodup i j hi hj (by omega)
  simp only [Int.toNat_natCast, ei, ej]
  refine ⟨mm_mem bi bj ne, i, j, rfl, List.getElem?_eq_getElem hi, List.getElem?_eq_getElem hj⟩
theorem lst_range (c : Nat) (h : c ≤ 9) : (if (okR (c : Int) && decide ((c : Int) ≤ 16777216)) = true then some (PV.lst (rng 0 (c : Int))) else none) = some (.lst (((List.range c).map (fun (i : Nat) => (i : Int))).map PV.int)) := by
  rw [okR_s (by omega) (by omega), rng0, List.map_map]
  have : (c : Int) ≤ 16777216 := by omega
  simp [this]
end
/-! K06E: what is drawn. -/
theorem lst_range2 {a b : Nat} (h1 : a ≤ b) (h2 : b ≤ 9) : (if (okR (a : Int) && okR (b : Int) && decide ((b : Int) - a ≤ 16777216)) = true then some (PV.lst (rng (a : Int) (b : Int))) else none) = some (.lst (((List.range (b - a)).map (fun (i : Nat) => (a : Int) + (i : Int))).map PV.int)) := by
  rw [okR_s (by omega) (by omega), okR_s (by omega) (by omega)]
  have e1 : ((b : Int) - a ≤ 16777216) := by omega
  have e2 : ((b : Int) - a).toNat = b - a := by omega
  unfold rng
  rw [List.map_map, e2]
  simp [e1]
theorem mem_rng {i : Int} : ∀ {a b : Int}, PV.int i ∈ rng a b → a ≤ i ∧ i < b := by
  intro a b h
  unfold rng at h
  obtain ⟨j, hj, e⟩ := List.mem_map.mp h
  rw [List.mem_range] at hj
  injection e with e
  omega
theorem rng_of {x : PV} {a b : Int} (h : x ∈ rng a b) : ∃ i, x = .int i ∧ a ≤ i ∧ i < b := by
  unfold rng at h
  obtain ⟨j, hj, rfl⟩ := List.mem_map.mp h
  rw [List.mem_range] at hj
  exact ⟨_, rfl, by omega, by omega⟩
theorem rng_len {t : Nat} : (rng 0 (t : Int)).length = t := by
  rw [rng0]; simp
theorem map_erase {α β : Type} (f : α → β) : ∀ (l : List α) (i : Nat), (l.map f).eraseIdx i = (l.eraseIdx i).map f
  | [], _ => rfl
  | _ :: _, 0 => rfl
  | x :: r, i + 1 => by
    show f x :: (r.map f).eraseIdx i = f x :: (r.eraseIdx i).map f
    rw [map_erase f r i]
theorem erase_pm {α : Type} : ∀ (l : List α) (i : Nat) (h : i < l.length), (l[i] :: l.eraseIdx i).Perm l
  | x :: r, 0, _ => List.Perm.refl _
  | x :: r, i + 1, h => by
    have q := erase_pm r i (by simpa using h)
    exact (List.Perm.swap x _ _).trans (q.cons x)
/-- the invariant of the drawing of people -/
def SB (named n : Nat) (v : PV) (m : Nat) (env : PP.Env) (c : List PV) : Prop := ∃ (L F : List Int) (s : Slot), env = [.val .cup, .val (.int named), .val v, .own (.lst (L.map .int)), .val (.tup (F.map .int)), s] ∧ Cup c ∧ (L ++ F).Nodup ∧ (∀ x ∈ L ++ F, (named : Int) ≤ x ∧ x < n) ∧ L.length + F.length = n - named ∧ m ≤ L.length
theorem f__law_company (k : Nat) (named least most : Nat) (c : List PV) (hc : Cup c) (h1 : 1 ≤ named) (h2 : named ≤ 3) (h3 : least ≤ most) (h4 : named + most ≤ 9) :
    ∃ (n : Nat) (ps : List (Int × Int)) (c' : List PV), callK P (k + 2) n__law_company [.cup, .int named, .int least, .int most] c = .ok (cmpV n ps) c' ∧ Cup c' ∧ Com named n ps := by
  obtain ⟨r, c1, e1, hc1, r1, r2⟩ := f__law_roll k ((most : Int) - least + 1) c hc (by omega) (by omega)
  obtain ⟨r, rfl⟩ := Int.eq_ofNat_of_zero_le r1
  obtain ⟨w, c2, e2, hc2, w1, w2⟩ := f__law_roll k 8 c1 hc1 (by omega) (by omega)
  have en : (named : Int) + least + r = ((named + least + r : Nat) : Int) := by omega
  have hn : named + least + r ≤ 9 := by omega
  have ep := fun c => f__law_pairs k (named + least + r) c hn
  by_cases hw : w < 2
  · by_cases hw0 : w = 0
    · refine ⟨named + least + r, prs (named + least + r), c2, call_ok rfl rfl ?_, hc2, h1, h2, by omega, hn, List.Sublist.refl _⟩
      simp -implicitDefEqProofs only [e_con, e_var, e_bor, e_bin, k_bin, k_bin2, e_cmp, k_cmp, k_cmp2, e_neg, k_neg, e_nt, k_nt, k_truth, k_optB, e_and, k_and, k_andT, k_andF, e_or, k_or, k_orT, k_orF, e_ite, k_iteT, k_iteF, e_chain, k_ch, k_ch2, k_ch3T, k_ch3F, e_tup, k_tup, e_lst, k_lst, e_ix, k_ix, k_ix2, e_sl, k_sl, k_sl2, k_sl3, e_call, k_call, e_blt, k_blt, e_mth, k_mth, k_mth2, e_isin, k_is, e_pick, k_pick, k_pick2, es_nil, es_cons, k_es, k_es2, o_none, o_some, k_o, c_none, c_some, i_seq, k_seqT, k_seqL, i_r1, k_r1, i_r2, k_r2, k_r3, i_zip, k_zip, k_zipT, k_zipL, i_enum, k_enum, s_asg, k_asg, s_own, k_own2, k_slotL, k_slotD, k_slotV, s_par, k_par, k_par2, s_frz, s_app, k_app, k_app2, s_ife, k_ifeT, k_ifeF, s_whl, k_w, k_wT, k_wF, k_wN, k_wR, s_ret, k_ret, s_exp, k_exp, s_setC, k_setC, k_cup0, k_cup1, s_ap, k_ap, k_ap2, k_ap3, s_rc, k_rc, ss_nil, ss_cons, k_ssN, k_ssR, finR_rt, finR_nx, pureR_some, varv_0, varv_s, borv_0, borv_0o, borv_s, truth, startP, List.map_cons, List.map_nil, List.replicate_succ, List.replicate_zero, List.cons_append, List.nil_append, Nat.reduceSub, Nat.reduceAdd, bindT, bindTs, optS_some, List.set_cons_succ, List.set_cons_zero, wipeP, mkTup_0, mkTup_1, mkTup_2, mkTup_3, mkTup_4, mkTup_5, mkTup_6, mkTup_7, mkTup_8, mkLst_0, mkLst_1, mkLst_2, mkLst_3, mkLst_4, mkLst_5, mkLst_6, mkLst_7, mkLst_8, mkLst_9, mkLst_10, mkLst_11, mkLst_12, mkLst_13, mkLst_14, mkLst_15, mkLst_16, binop, cmpop, blV, Option.map_some, isTy, bltop, Bool.not_true, Bool.not_false, item_0, item_1, item_2, item_3, item_c0, item_c1, Option.bind_some, List.getElem?_cons_zero, List.getElem?_cons_succ, if_true, if_false, Bool.false_eq_true, and_self, dat_int, dat_bl, dat_non, peq_int, peq_bl, peq_nonnon, Int.cast_ofNat_Int, Int.reduceEq, Bool.and_self, List.length_cons, List.length_nil, Int.reduceLT, Int.reduceLE, Int.reduceAdd, Int.reduceSub, Nat.reduceLT, Nat.reduceLeDiff, decide_true, decide_false, Bool.or_true, Bool.true_or, true_and, and_true, b__law_company, e1, e2, en, hw, hw0, ep, cmpV]
    · refine ⟨named + least + r, [], c2, call_ok rfl rfl ?_, hc2, h1, h2, by omega, hn, List.nil_sublist _⟩
      simp -implicitDefEqProofs only [e_con, e_var, e_bor, e_bin, k_bin, k_bin2, e_cmp, k_cmp, k_cmp2, e_neg, k_neg, e_nt, k_nt, k_truth, k_optB, e_and, k_and, k_andT, k_andF, e_or, k_or, k_orT, k_orF, e_ite, k_iteT, k_iteF, e_chain, k_ch, k_ch2, k_ch3T, k_ch3F, e_tup, k_tup, e_lst, k_lst, e_ix, k_ix, k_ix2, e_sl, k_sl, k_sl2, k_sl3, e_call, k_call, e_blt, k_blt, e_mth, k_mth, k_mth2, e_isin, k_is, e_pick, k_pick, k_pick2, es_nil, es_cons, k_es, k_es2, o_none, o_some, k_o, c_none, c_some, i_seq, k_seqT, k_seqL, i_r1, k_r1, i_r2, k_r2, k_r3, i_zip, k_zip, k_zipT, k_zipL, i_enum, k_enum, s_asg, k_asg, s_own, k_own2, k_slotL, k_slotD, k_slotV, s_par, k_par, k_par2, s_frz, s_app, k_app, k_app2, s_ife, k_ifeT, k_ifeF, s_whl, k_w, k_wT, k_wF, k_wN, k_wR, s_ret, k_ret, s_exp, k_exp, s_setC, k_setC, k_cup0, k_cup1, s_ap, k_ap, k_ap2, k_ap3, s_rc, k_rc, ss_nil, ss_cons, k_ssN, k_ssR, finR_rt, finR_nx, pureR_some, varv_0, varv_s, borv_0, borv_0o, borv_s, truth, startP, List.map_cons, List.map_nil, List.replicate_succ, List.replicate_zero, List.cons_append, List.nil_append, Nat.reduceSub, Nat.reduceAdd, bindT, bindTs, optS_some, List.set_cons_succ, List.set_cons_zero, wipeP, mkTup_0, mkTup_1, mkTup_2, mkTup_3, mkTup_4, mkTup_5, mkTup_6, mkTup_7, mkTup_8, mkLst_0, mkLst_1, mkLst_2, mkLst_3, mkLst_4, mkLst_5, mkLst_6, mkLst_7, mkLst_8, mkLst_9, mkLst_10, mkLst_11, mkLst_12, mkLst_13, mkLst_14, mkLst_15, mkLst_16, binop, cmpop, blV, Option.map_some, isTy, bltop, Bool.not_true, Bool.not_false, item_0, item_1, item_2, item_3, item_c0, item_c1, Option.bind_some, List.getElem?_cons_zero, List.getElem?_cons_succ, if_true, if_false, Bool.false_eq_true, and_self, dat_int, dat_bl, dat_non, peq_int, peq_bl, peq_nonnon, Int.cast_ofNat_Int, Int.reduceEq, Bool.and_self, List.length_cons, List.length_nil, Int.reduceLT, Int.reduceLE, Int.reduceAdd, Int.reduceSub, Nat.reduceLT, Nat.reduceLeDiff, decide_true, decide_false, Bool.or_true, Bool.true_or, true_and, and_true, b__law_company, e1, e2, en, hw, hw0, cmpV]
  · obtain ⟨ys, c3, e3, hc3, sl⟩ := comp_part (C := callK P (k + 1)) (vs := [6]) (t := .name 6) (e := .var 6) (it := .seq (.call n__law_pairs [.var 4])) (cond := some (.cmp .eq (.call n__law_roll [.var 0, .con (.int 2)]) (.con (.int 0))))
      (env := [.val .cup, .val (.int named), .val (.int least), .val (.int most), .val (.int ((named + least + r : Nat) : Int)), .val (.int w), .no]) (I := Cup) (xs := (prs (named + least + r)).map prV) hc2 (by simp -implicitDefEqProofs only [e_con, e_var, e_bor, e_bin, k_bin, k_bin2, e_cmp, k_cmp, k_cmp2, e_neg, k_neg, e_nt, k_nt, k_truth, k_optB, e_and, k_and, k_andT, k_andF, e_or, k_or, k_orT, k_orF, e_ite, k_iteT, k_iteF, e_chain, k_ch, k_ch2, k_ch3T, k_ch3F, e_tup, k_tup, e_lst, k_lst, e_ix, k_ix, k_ix2, e_sl, k_sl, k_sl2, k_sl3, e_call, k_call, e_blt, k_blt, e_mth, k_mth, k_mth2, e_isin, k_is, e_pick, k_pick, k_pick2, es_nil, es_cons, k_es, k_es2, o_none, o_some, k_o, c_none, c_some, i_seq, k_seqT, k_seqL, i_r1, k_r1, i_r2, k_r2, k_r3, i_zip, k_zip, k_zipT, k_zipL, i_enum, k_enum, s_asg, k_asg, s_own, k_own2, k_slotL, k_slotD, k_slotV, s_par, k_par, k_par2, s_frz, s_app, k_app, k_app2, s_ife, k_ifeT, k_ifeF, s_whl, k_w, k_wT, k_wF, k_wN, k_wR, s_ret, k_ret, s_exp, k_exp, s_setC, k_setC, k_cup0, k_cup1, s_ap, k_ap, k_ap2, k_ap3, s_rc, k_rc, ss_nil, ss_cons, k_ssN, k_ssR, finR_rt, finR_nx, pureR_some, varv_0, varv_s, borv_0, borv_0o, borv_s, truth, startP, List.map_cons, List.map_nil, List.replicate_succ, List.replicate_zero, List.cons_append, List.nil_append, Nat.reduceSub, Nat.reduceAdd, bindT, bindTs, optS_some, List.set_cons_succ, List.set_cons_zero, wipeP, mkTup_0, mkTup_1, mkTup_2, mkTup_3, mkTup_4, mkTup_5, mkTup_6, mkTup_7, mkTup_8, mkLst_0, mkLst_1, mkLst_2, mkLst_3, mkLst_4, mkLst_5, mkLst_6, mkLst_7, mkLst_8, mkLst_9, mkLst_10, mkLst_11, mkLst_12, mkLst_13, mkLst_14, mkLst_15, mkLst_16, binop, cmpop, blV, Option.map_some, isTy, bltop, Bool.not_true, Bool.not_false, item_0, item_1, item_2, item_3, item_c0, item_c1, Option.bind_some, List.getElem?_cons_zero, List.getElem?_cons_succ, if_true, if_false, Bool.false_eq_true, and_self, dat_int, dat_bl, dat_non, peq_int, peq_bl, peq_nonnon, Int.cast_ofNat_Int, Int.reduceEq, Bool.and_self, List.length_cons, List.length_nil, Int.reduceLT, Int.reduceLE, Int.reduceAdd, Int.reduceSub, Nat.reduceLT, Nat.reduceLeDiff, decide_true, decide_false, Bool.or_true, Bool.true_or, true_and, and_true, ep])
      (fun x hx => ⟨_, rfl, fun c hc => by
        obtain ⟨q, c', e4, hc', _, _⟩ := f__law_roll k 2 c hc (by omega) (by omega)
        refine ⟨decide (q = 0), c', ?_, hc', fun _ => ?_⟩
        · simp -implicitDefEqProofs only [e_con, e_var, e_bor, e_bin, k_bin, k_bin2, e_cmp, k_cmp, k_cmp2, e_neg, k_neg, e_nt, k_nt, k_truth, k_optB, e_and, k_and, k_andT, k_andF, e_or, k_or, k_orT, k_orF, e_ite, k_iteT, k_iteF, e_chain, k_ch, k_ch2, k_ch3T, k_ch3F, e_tup, k_tup, e_lst, k_lst, e_ix, k_ix, k_ix2, e_sl, k_sl, k_sl2, k_sl3, e_call, k_call, e_blt, k_blt, e_mth, k_mth, k_mth2, e_isin, k_is, e_pick, k_pick, k_pick2, es_nil, es_cons, k_es, k_es2, o_none, o_some, k_o, c_none, c_some, i_seq, k_seqT, k_seqL, i_r1, k_r1, i_r2, k_r2, k_r3, i_zip, k_zip, k_zipT, k_zipL, i_enum, k_enum, s_asg, k_asg, s_own, k_own2, k_slotL, k_slotD, k_slotV, s_par, k_par, k_par2, s_frz, s_app, k_app, k_app2, s_ife, k_ifeT, k_ifeF, s_whl, k_w, k_wT, k_wF, k_wN, k_wR, s_ret, k_ret, s_exp, k_exp, s_setC, k_setC, k_cup0, k_cup1, s_ap, k_ap, k_ap2, k_ap3, s_rc, k_rc, ss_nil, ss_cons, k_ssN, k_ssR, finR_rt, finR_nx, pureR_some, varv_0, varv_s, borv_0, borv_0o, borv_s, truth, startP, List.map_cons, List.map_nil, List.replicate_succ, List.replicate_zero, List.cons_append, List.nil_append, Nat.reduceSub, Nat.reduceAdd, bindT, bindTs, optS_some, List.set_cons_succ, List.set_cons_zero, wipeP, mkTup_0, mkTup_1, mkTup_2, mkTup_3, mkTup_4, mkTup_5, mkTup_6, mkTup_7, mkTup_8, mkLst_0, mkLst_1, mkLst_2, mkLst_3, mkLst_4, mkLst_5, mkLst_6, mkLst_7, mkLst_8, mkLst_9, mkLst_10, mkLst_11, mkLst_12, mkLst_13, mkLst_14, mkLst_15, mkLst_16, binop, cmpop, blV, Option.map_some, isTy, bltop, Bool.not_true, Bool.not_false, item_0, item_1, item_2, item_3, item_c0, item_c1, Option.bind_some, List.getElem?_cons_zero, List.getElem?_cons_succ, if_true, if_false, Bool.false_eq_true, and_self, dat_int, dat_bl, dat_non, peq_int, peq_bl, peq_nonnon, Int.cast_ofNat_Int, Int.reduceEq, Bool.and_self, List.length_cons, List.length_nil, Int.reduceLT, Int.reduceLE, Int.reduceAdd, Int.reduceSub, Nat.reduceLT, Nat.reduceLeDiff, decide_true, decide_false, Bool.or_true, Bool.true_or, true_and, and_true, e4]
        · simp -implicitDefEqProofs only [e_con, e_var, e_bor, e_bin, k_bin, k_bin2, e_cmp, k_cmp, k_cmp2, e_neg, k_neg, e_nt, k_nt, k_truth, k_optB, e_and, k_and, k_andT, k_andF, e_or, k_or, k_orT, k_orF, e_ite, k_iteT, k_iteF, e_chain, k_ch, k_ch2, k_ch3T, k_ch3F, e_tup, k_tup, e_lst, k_lst, e_ix, k_ix, k_ix2, e_sl, k_sl, k_sl2, k_sl3, e_call, k_call, e_blt, k_blt, e_mth, k_mth, k_mth2, e_isin, k_is, e_pick, k_pick, k_pick2, es_nil, es_cons, k_es, k_es2, o_none, o_some, k_o, c_none, c_some, i_seq, k_seqT, k_seqL, i_r1, k_r1, i_r2, k_r2, k_r3, i_zip, k_zip, k_zipT, k_zipL, i_enum, k_enum, s_asg, k_asg, s_own, k_own2, k_slotL, k_slotD, k_slotV, s_par, k_par, k_par2, s_frz, s_app, k_app, k_app2, s_ife, k_ifeT, k_ifeF, s_whl, k_w, k_wT, k_wF, k_wN, k_wR, s_ret, k_ret, s_exp, k_exp, s_setC, k_setC, k_cup0, k_cup1, s_ap, k_ap, k_ap2, k_ap3, s_rc, k_rc, ss_nil, ss_cons, k_ssN, k_ssR, finR_rt, finR_nx, pureR_some, varv_0, varv_s, borv_0, borv_0o, borv_s, truth, startP, List.map_cons, List.map_nil, List.replicate_succ, List.replicate_zero, List.cons_append, List.nil_append, Nat.reduceSub, Nat.reduceAdd, bindT, bindTs, optS_some, List.set_cons_succ, List.set_cons_zero, wipeP, mkTup_0, mkTup_1, mkTup_2, mkTup_3, mkTup_4, mkTup_5, mkTup_6, mkTup_7, mkTup_8, mkLst_0, mkLst_1, mkLst_2, mkLst_3, mkLst_4, mkLst_5, mkLst_6, mkLst_7, mkLst_8, mkLst_9, mkLst_10, mkLst_11, mkLst_12, mkLst_13, mkLst_14, mkLst_15, mkLst_16, binop, cmpop, blV, Option.map_some, isTy, bltop, Bool.not_true, Bool.not_false, item_0, item_1, item_2, item_3, item_c0, item_c1, Option.bind_some, List.getElem?_cons_zero, List.getElem?_cons_succ, if_true, if_false, Bool.false_eq_true, and_self, dat_int, dat_bl, dat_non, peq_int, peq_bl, peq_nonnon, Int.cast_ofNat_Int, Int.reduceEq, Bool.and_self, List.length_cons, List.length_nil, Int.reduceLT, Int.reduceLE, Int.reduceAdd, Int.reduceSub, Nat.reduceLT, Nat.reduceLeDiff, decide_true, decide_false, Bool.or_true, Bool.true_or, true_and, and_true]⟩) (by rw [List.length_map]; have := prs_len hn; unfold LIM; omega)
    obtain ⟨ps, hps, rfl⟩ := List.sublist_map_iff.mp sl
    refine ⟨named + least + r, ps, c3, call_ok rfl rfl ?_, hc3, h1, h2, by omega, hn, hps⟩
    have e5 : evalE (callK P (k + 1)) b__law_company_c0 [.val .cup, .val (.int named), .val (.int least), .val (.int most), .val (.int ((named + least + r : Nat) : Int)), .val (.int w), .no] c2 = .ok (.lst (ps.map prV)) c3 := e3
    simp -implicitDefEqProofs only [e_con, e_var, e_bor, e_bin, k_bin, k_bin2, e_cmp, k_cmp, k_cmp2, e_neg, k_neg, e_nt, k_nt, k_truth, k_optB, e_and, k_and, k_andT, k_andF, e_or, k_or, k_orT, k_orF, e_ite, k_iteT, k_iteF, e_chain, k_ch, k_ch2, k_ch3T, k_ch3F, e_tup, k_tup, e_lst, k_lst, e_ix, k_ix, k_ix2, e_sl, k_sl, k_sl2, k_sl3, e_call, k_call, e_blt, k_blt, e_mth, k_mth, k_mth2, e_isin, k_is, e_pick, k_pick, k_pick2, es_nil, es_cons, k_es, k_es2, o_none, o_some, k_o, c_none, c_some, i_seq, k_seqT, k_seqL, i_r1, k_r1, i_r2, k_r2, k_r3, i_zip, k_zip, k_zipT, k_zipL, i_enum, k_enum, s_asg, k_asg, s_own, k_own2, k_slotL, k_slotD, k_slotV, s_par, k_par, k_par2, s_frz, s_app, k_app, k_app2, s_ife, k_ifeT, k_ifeF, s_whl, k_w, k_wT, k_wF, k_wN, k_wR, s_ret, k_ret, s_exp, k_exp, s_setC, k_setC, k_cup0, k_cup1, s_ap, k_ap, k_ap2, k_ap3, s_rc, k_rc, ss_nil, ss_cons, k_ssN, k_ssR, finR_rt, finR_nx, pureR_some, varv_0, varv_s, borv_0, borv_0o, borv_s, truth, startP, List.map_cons, List.map_nil, List.replicate_succ, List.replicate_zero, List.cons_append, List.nil_append, Nat.reduceSub, Nat.reduceAdd, bindT, bindTs, optS_some, List.set_cons_succ, List.set_cons_zero, wipeP, mkTup_0, mkTup_1, mkTup_2, mkTup_3, mkTup_4, mkTup_5, mkTup_6, mkTup_7, mkTup_8, mkLst_0, mkLst_1, mkLst_2, mkLst_3, mkLst_4, mkLst_5, mkLst_6, mkLst_7, mkLst_8, mkLst_9, mkLst_10, mkLst_11, mkLst_12, mkLst_13, mkLst_14, mkLst_15, mkLst_16, binop, cmpop, blV, Option.map_some, isTy, bltop, Bool.not_true, Bool.not_false, item_0, item_1, item_2, item_3, item_c0, item_c1, Option.bind_some, List.getElem?_cons_zero, List.getElem?_cons_succ, if_true, if_false, Bool.false_eq_true, and_self, dat_int, dat_bl, dat_non, peq_int, peq_bl, peq_nonnon, Int.cast_ofNat_Int, Int.reduceEq, Bool.and_self, List.length_cons, List.length_nil, Int.reduceLT, Int.reduceLE, Int.reduceAdd, Int.reduceSub, Nat.reduceLT, Nat.reduceLeDiff, decide_true, decide_false, Bool.or_true, Bool.true_or, true_and, and_true, b__law_company, e1, e2, en, hw, e5, cmpV]
/-! K06G: the law's own looks. -/
/-! ### lists of whole numbers and of answers -/
theorem dat_nats (xs : List Nat) : (xs.map fun (j : Nat) => PV.int (j : Int)).all (small 59) = true := by
  rw [List.all_map, List.all_eq_true]
  intro p _
  rfl
theorem dat_tnats (xs : List Nat) : dat (.tup (xs.map fun (j : Nat) => PV.int (j : Int))) = true := dat_nats xs
theorem peq_nats : ∀ xs : List Nat, peqL (xs.map fun (j : Nat) => PV.int (j : Int)) (xs.map fun (j : Nat) => PV.int (j : Int)) = true
  | [] => rfl
  | x :: xs => by
    rw [List.map_cons, peqL, peq_nats xs, peq_int]
    simp
theorem peq_tnats (xs : List Nat) : peq (.tup (xs.map fun (j : Nat) => PV.int (j : Int))) (.tup (xs.map fun (j : Nat) => PV.int (j : Int))) = true := by rw [peq]; exact peq_nats xs
theorem dat_bls {α : Type} (g : α → Bool) (xs : List α) : dat (.lst (xs.map fun j => PV.bl (g j))) = true := by
  show (xs.map fun j => PV.bl (g j)).all (small 59) = true
  rw [List.all_map, List.all_eq_true]
  intro p _
  rfl
theorem peq_bls {α : Type} (g : α → Bool) (xs : List α) : peq (.lst (xs.map fun j => PV.bl (g j))) (.lst (xs.map fun j => PV.bl (g j))) = true := by
  rw [peq]
  induction xs with
  | nil => rfl
  | cons x xs ih =>
    rw [List.map_cons, peqL, ih, peq_bl]
    simp
theorem dat_cmp (n : Nat) (ps : List (Int × Int)) : dat (cmpV n ps) = true := by
  show (small 59 (.int n) && (small 59 (.tup (ps.map prV)) && true)) = true
  have : small 59 (.tup (ps.map prV)) = true := by
    rw [small, List.all_map, List.all_eq_true]
    intro p _
    rfl
  rw [this]; rfl
theorem peq_cmp (n : Nat) (ps : List (Int × Int)) : peq (cmpV n ps) (cmpV n ps) = true := by
  unfold cmpV
  rw [peq, peqL, peqL, peqL, peq_int, peq_tprs]
  simp
def others (n : Nat) (i : Int) : List Nat := (List.range n).filter fun (j : Nat) => !decide ((j : Int) = i)
section
variable {named n : Nat} {ps : List (Int × Int)}
/-- what holds between two people -/
def SR1 (named n : Nat) (ps : List (Int × Int)) (env : PP.Env) (c : List PV) : Prop := Cup c ∧ ∃ s3 s4 s6, env = [.val .cup, .val (.int named), .val (cmpV n ps), s3, s4, .no, s6, .no, .no, .no, .no]
theorem smallI_251 : smallI 251 = true := by decide
theorem pow18 : (if (10 : Int).natAbs < 2 ^ 64 then some (PV.int ((10 : Int) ^ (18 : Int).toNat)) else none) = some (.int 1000000000000000000) := by rfl
theorem rc2 {env : PP.Env} {x y : PV} : kRc env (.ok [x, y] []) = .rt .cup [x, y] := rfl
theorem f__law_cup (k : Nat) (ns : List Int) (hl : ns.length ≤ 63) : ∃ c, callK P (k + 1) n__law_cup [.scr ns] [] = .ok .cup c ∧ Cup c := by
  have e1 : mkLst (ns.map PV.int ++ [.int 0]) = some (.lst (ns.map PV.int ++ [.int 0])) := mkLst_s (by simp only [List.length_append, List.length_map, List.length_singleton]; unfold LIM; omega)
  have e2 : ∃ x, item (.lst (ns.map PV.int ++ [.int 0])) (.int 0) [] = some (.int x) := by
    cases ns with
    | nil => exact ⟨0, rfl⟩
    | cons y r => exact ⟨y, item_lst (i := 0) rfl⟩
  obtain ⟨x, e2⟩ := e2
  generalize hy : (if x < 0 then -x else x) = y
  by_cases h : 1000000000000000000 ≤ y
  · refine ⟨[.int (y / 43), .int ((y * 251 + 2111) % 2077503301 + 137)], call_ok rfl rfl ?_, _, _, rfl⟩
    simp -implicitDefEqProofs only [e_con, e_var, e_bor, e_bin, k_bin, k_bin2, e_cmp, k_cmp, k_cmp2, e_neg, k_neg, e_nt, k_nt, k_truth, k_optB, e_and, k_and, k_andT, k_andF, e_or, k_or, k_orT, k_orF, e_ite, k_iteT, k_iteF, e_chain, k_ch, k_ch2, k_ch3T, k_ch3F, e_tup, k_tup, e_lst, k_lst, e_ix, k_ix, k_ix2, e_sl, k_sl, k_sl2, k_sl3, e_call, k_call, e_blt, k_blt, e_mth, k_mth, k_mth2, e_isin, k_is, e_pick, k_pick, k_pick2, es_nil, es_cons, k_es, k_es2, o_none, o_some, k_o, c_none, c_some, i_seq, k_seqT, k_seqL, i_r1, k_r1, i_r2, k_r2, k_r3, i_zip, k_zip, k_zipT, k_zipL, i_enum, k_enum, s_asg, k_asg, s_own, k_own2, k_slotL, k_slotD, k_slotV, s_par, k_par, k_par2, s_frz, s_app, k_app, k_app2, s_ife, k_ifeT, k_ifeF, s_whl, k_w, k_wT, k_wF, k_wN, k_wR, s_ret, k_ret, s_exp, k_exp, s_setC, k_setC, k_cup0, k_cup1, s_ap, k_ap, k_ap2, k_ap3, s_rc, k_rc, ss_nil, ss_cons, k_ssN, k_ssR, finR_rt, finR_nx, pureR_some, varv_0, varv_s, borv_0, borv_0o, borv_s, truth, startP, List.map_cons, List.map_nil, List.replicate_succ, List.replicate_zero, List.cons_append, List.nil_append, Nat.reduceSub, Nat.reduceAdd, bindT, bindTs, optS_some, List.set_cons_succ, List.set_cons_zero, wipeP, mkTup_0, mkTup_1, mkTup_2, mkTup_3, mkTup_4, mkTup_5, mkTup_6, mkTup_7, mkTup_8, mkLst_0, mkLst_1, mkLst_2, mkLst_3, mkLst_4, mkLst_5, mkLst_6, mkLst_7, mkLst_8, mkLst_9, mkLst_10, mkLst_11, mkLst_12, mkLst_13, mkLst_14, mkLst_15, mkLst_16, binop, cmpop, blV, Option.map_some, isTy, bltop, Bool.not_true, Bool.not_false, item_0, item_1, item_2, item_3, item_c0, item_c1, Option.bind_some, List.getElem?_cons_zero, List.getElem?_cons_succ, if_true, if_false, Bool.false_eq_true, and_self, dat_int, dat_bl, dat_non, peq_int, peq_bl, peq_nonnon, Int.cast_ofNat_Int, Int.reduceEq, Bool.and_self, List.length_cons, List.length_nil, Int.reduceLT, Int.reduceLE, Int.reduceAdd, Int.reduceSub, Nat.reduceLT, Nat.reduceLeDiff, decide_true, decide_false, Bool.or_true, Bool.true_or, true_and, and_true, b__law_cup, e1, e2, hy, pow18, h, smallI_251, rc2]
  · refine ⟨[.int 0, .int ((y * 251 + 2111) % 2077503301 + 137)], call_ok rfl rfl ?_, _, _, rfl⟩
    simp -implicitDefEqProofs only [e_con, e_var, e_bor, e_bin, k_bin, k_bin2, e_cmp, k_cmp, k_cmp2, e_neg, k_neg, e_nt, k_nt, k_truth, k_optB, e_and, k_and, k_andT, k_andF, e_or, k_or, k_orT, k_orF, e_ite, k_iteT, k_iteF, e_chain, k_ch, k_ch2, k_ch3T, k_ch3F, e_tup, k_tup, e_lst, k_lst, e_ix, k_ix, k_ix2, e_sl, k_sl, k_sl2, k_sl3, e_call, k_call, e_blt, k_blt, e_mth, k_mth, k_mth2, e_isin, k_is, e_pick, k_pick, k_pick2, es_nil, es_cons, k_es, k_es2, o_none, o_some, k_o, c_none, c_some, i_seq, k_seqT, k_seqL, i_r1, k_r1, i_r2, k_r2, k_r3, i_zip, k_zip, k_zipT, k_zipL, i_enum, k_enum, s_asg, k_asg, s_own, k_own2, k_slotL, k_slotD, k_slotV, s_par, k_par, k_par2, s_frz, s_app, k_app, k_app2, s_ife, k_ifeT, k_ifeF, s_whl, k_w, k_wT, k_wF, k_wN, k_wR, s_ret, k_ret, s_exp, k_exp, s_setC, k_setC, k_cup0, k_cup1, s_ap, k_ap, k_ap2, k_ap3, s_rc, k_rc, ss_nil, ss_cons, k_ssN, k_ssR, finR_rt, finR_nx, pureR_some, varv_0, varv_s, borv_0, borv_0o, borv_s, truth, startP, List.map_cons, List.map_nil, List.replicate_succ, List.replicate_zero, List.cons_append, List.nil_append, Nat.reduceSub, Nat.reduceAdd, bindT, bindTs, optS_some, List.set_cons_succ, List.set_cons_zero, wipeP, mkTup_0, mkTup_1, mkTup_2, mkTup_3, mkTup_4, mkTup_5, mkTup_6, mkTup_7, mkTup_8, mkLst_0, mkLst_1, mkLst_2, mkLst_3, mkLst_4, mkLst_5, mkLst_6, mkLst_7, mkLst_8, mkLst_9, mkLst_10, mkLst_11, mkLst_12, mkLst_13, mkLst_14, mkLst_15, mkLst_16, binop, cmpop, blV, Option.map_some, isTy, bltop, Bool.not_true, Bool.not_false, item_0, item_1, item_2, item_3, item_c0, item_c1, Option.bind_some, List.getElem?_cons_zero, List.getElem?_cons_succ, if_true, if_false, Bool.false_eq_true, and_self, dat_int, dat_bl, dat_non, peq_int, peq_bl, peq_nonnon, Int.cast_ofNat_Int, Int.reduceEq, Bool.and_self, List.length_cons, List.length_nil, Int.reduceLT, Int.reduceLE, Int.reduceAdd, Int.reduceSub, Nat.reduceLT, Nat.reduceLeDiff, decide_true, decide_false, Bool.or_true, Bool.true_or, true_and, and_true, b__law_cup, e1, e2, hy, pow18, h, smallI_251, rc2]
end
/-! K08B: deeds. -/
/-! ### deeds -/
inductive Dd where
  | pairs (p : Nat) (as : List Int)
  | takes (p o : Nat) (as : List Int)
  | tie (p o : Nat) (w : Str)
def deedV : Dd → PV
  | .pairs p as => .tup [.str "pairs", .int p, .tup (as.map .int)]
  | .takes p o as => .tup [.str "takes", .int p, .int o, .tup (as.map .int)]
  | .tie p o w => .tup [.str "tie", .int p, .int o, .str w]
def bits (as : List Int) : Prop := ∀ a ∈ as, 0 ≤ a ∧ a ≤ 1
def DOk (named : Nat) : Dd → Prop
  | .pairs p as => p < named ∧ as.length = 6 ∧ bits as
  | .takes p o as => p < named ∧ o < named ∧ p ≠ o ∧ as.length = 4 ∧ bits as
  | .tie p o w => p < named ∧ o < named ∧ p ≠ o ∧ (w = "know" ∨ w = "part" ∨ w = "turn")
theorem dat_str {s : Str} (h : PySem.PyData.strOk s = true) : dat (.str s) = true := h
theorem ok_pairs : dat (.str "pairs") = true := by decide +kernel
theorem ok_takes : dat (.str "takes") = true := by decide +kernel
theorem ok_tie : dat (.str "tie") = true := by decide +kernel
theorem ok_ask : dat (.str "ask") = true := by decide +kernel
theorem ok_know : dat (.str "know") = true := by decide +kernel
theorem ok_part : dat (.str "part") = true := by decide +kernel
theorem ok_turn : dat (.str "turn") = true := by decide +kernel
theorem ok_words : dat (.tup [.str "know", .str "part", .str "turn"]) = true := by decide +kernel
theorem peq_str {s t : Str} : peq (.str s) (.str t) = decide (s = t) := by rw [peq, Bool.eq_iff_iff]; simp
theorem w_pp : ((("pairs" : Str) = "pairs")) = True := by simp
theorem n_tp : ((("takes" : Str) = "pairs")) = False := by simp only [eq_iff_iff, iff_false]; decide +kernel
theorem n_ip : ((("tie" : Str) = "pairs")) = False := by simp only [eq_iff_iff, iff_false]; decide +kernel
theorem n_it : ((("tie" : Str) = "takes")) = False := by simp only [eq_iff_iff, iff_false]; decide +kernel
theorem n_pa : ((("pairs" : Str) = "ask")) = False := by simp only [eq_iff_iff, iff_false]; decide +kernel
theorem n_ta : ((("takes" : Str) = "ask")) = False := by simp only [eq_iff_iff, iff_false]; decide +kernel
theorem n_ia : ((("tie" : Str) = "ask")) = False := by simp only [eq_iff_iff, iff_false]; decide +kernel
theorem n_pt : ((("pairs" : Str) = "takes")) = False := by simp only [eq_iff_iff, iff_false]; decide +kernel
theorem n_pi : ((("pairs" : Str) = "tie")) = False := by simp only [eq_iff_iff, iff_false]; decide +kernel
theorem n_ti : ((("takes" : Str) = "tie")) = False := by simp only [eq_iff_iff, iff_false]; decide +kernel
theorem n_kt : ((("know" : Str) = "turn")) = False := by simp only [eq_iff_iff, iff_false]; decide +kernel
theorem n_pu : ((("part" : Str) = "turn")) = False := by simp only [eq_iff_iff, iff_false]; decide +kernel
theorem n_kp : ((("know" : Str) = "part")) = False := by simp only [eq_iff_iff, iff_false]; decide +kernel
theorem n_pk : ((("part" : Str) = "know")) = False := by simp only [eq_iff_iff, iff_false]; decide +kernel
theorem n_uk : ((("turn" : Str) = "know")) = False := by simp only [eq_iff_iff, iff_false]; decide +kernel
theorem n_up : ((("turn" : Str) = "part")) = False := by simp only [eq_iff_iff, iff_false]; decide +kernel
theorem bits_all {as : List Int} (h : bits as) : (as.map PV.int).all (wholeB · 0 1) = true := by
  rw [List.all_map, List.all_eq_true]
  intro a ha
  have := h a ha
  show (decide _ && decide _) = true
  rw [Bool.and_eq_true, decide_eq_true_iff, decide_eq_true_iff]
  exact this
theorem f_are_answers (k : Nat) (as : List Int) (m : Nat) (c : List PV) (hl : as.length = m) (hm : m < 64) (hb : bits as) : callK P (k + 3) n_are_answers [.tup (as.map .int), .int m] c = .ok (.bl true) c := by
  refine call_ok rfl rfl ?_
  have e1 : callK P (k + 2) n_is_tuple_of [.tup (as.map .int), .int m, .int m] c = .ok (.bl true) c := by
    rw [f_is_tuple_of _ _ _ _ _ rfl]
    unfold tupB
    simp [hl]
  have e2 := f_are_whole k (as.map .int) 0 1 c (fun x hx => by obtain ⟨i, _, rfl⟩ := List.mem_map.mp hx; rfl) (by rw [List.length_map]; omega)
  rw [bits_all hb] at e2
  simp -implicitDefEqProofs only [e_con, e_var, e_bor, e_bin, k_bin, k_bin2, e_cmp, k_cmp, k_cmp2, e_neg, k_neg, e_nt, k_nt, k_truth, k_optB, e_and, k_and, k_andT, k_andF, e_or, k_or, k_orT, k_orF, e_ite, k_iteT, k_iteF, e_chain, k_ch, k_ch2, k_ch3T, k_ch3F, e_tup, k_tup, e_lst, k_lst, e_ix, k_ix, k_ix2, e_sl, k_sl, k_sl2, k_sl3, e_call, k_call, e_blt, k_blt, e_mth, k_mth, k_mth2, e_isin, k_is, e_pick, k_pick, k_pick2, es_nil, es_cons, k_es, k_es2, o_none, o_some, k_o, c_none, c_some, i_seq, k_seqT, k_seqL, i_r1, k_r1, i_r2, k_r2, k_r3, i_zip, k_zip, k_zipT, k_zipL, i_enum, k_enum, s_asg, k_asg, s_own, k_own2, k_slotL, k_slotD, k_slotV, s_par, k_par, k_par2, s_frz, s_app, k_app, k_app2, s_ife, k_ifeT, k_ifeF, s_whl, k_w, k_wT, k_wF, k_wN, k_wR, s_ret, k_ret, s_exp, k_exp, s_setC, k_setC, k_cup0, k_cup1, s_ap, k_ap, k_ap2, k_ap3, s_rc, k_rc, ss_nil, ss_cons, k_ssN, k_ssR, finR_rt, finR_nx, pureR_some, varv_0, varv_s, borv_0, borv_0o, borv_s, truth, startP, List.map_cons, List.map_nil, List.replicate_succ, List.replicate_zero, List.cons_append, List.nil_append, Nat.reduceSub, Nat.reduceAdd, bindT, bindTs, optS_some, List.set_cons_succ, List.set_cons_zero, wipeP, mkTup_0, mkTup_1, mkTup_2, mkTup_3, mkTup_4, mkTup_5, mkTup_6, mkTup_7, mkTup_8, mkLst_0, mkLst_1, mkLst_2, mkLst_3, mkLst_4, mkLst_5, mkLst_6, mkLst_7, mkLst_8, mkLst_9, mkLst_10, mkLst_11, mkLst_12, mkLst_13, mkLst_14, mkLst_15, mkLst_16, binop, cmpop, blV, Option.map_some, isTy, bltop, Bool.not_true, Bool.not_false, item_0, item_1, item_2, item_3, item_c0, item_c1, Option.bind_some, List.getElem?_cons_zero, List.getElem?_cons_succ, if_true, if_false, Bool.false_eq_true, and_self, dat_int, dat_bl, dat_non, peq_int, peq_bl, peq_nonnon, Int.cast_ofNat_Int, Int.reduceEq, Bool.and_self, List.length_cons, List.length_nil, Int.reduceLT, Int.reduceLE, Int.reduceAdd, Int.reduceSub, Nat.reduceLT, Nat.reduceLeDiff, decide_true, decide_false, Bool.or_true, Bool.true_or, true_and, and_true, b_are_answers, e1, e2]
theorem f_are_two_named (k : Nat) (named p o : Nat) (c : List PV) (h1 : p < named) (h2 : o < named) (h3 : p ≠ o) : callK P (k + 2) n_are_two_named [.int named, .int p, .int o] c = .ok (.bl true) c := by
  refine call_ok rfl rfl ?_
  have w : ∀ i : Nat, i < named → callK P (k + 1) n_is_whole [.int i, .int 0, .int ((named : Int) - 1)] c = .ok (.bl true) c := fun i hi => by
    rw [f_is_whole _ _ _ _ _ rfl]
    congr 2
    unfold wholeB
    simp only [Bool.and_eq_true, decide_eq_true_iff]
    omega
  have e3 : ¬ (p : Int) = o := by omega
  simp -implicitDefEqProofs only [e_con, e_var, e_bor, e_bin, k_bin, k_bin2, e_cmp, k_cmp, k_cmp2, e_neg, k_neg, e_nt, k_nt, k_truth, k_optB, e_and, k_and, k_andT, k_andF, e_or, k_or, k_orT, k_orF, e_ite, k_iteT, k_iteF, e_chain, k_ch, k_ch2, k_ch3T, k_ch3F, e_tup, k_tup, e_lst, k_lst, e_ix, k_ix, k_ix2, e_sl, k_sl, k_sl2, k_sl3, e_call, k_call, e_blt, k_blt, e_mth, k_mth, k_mth2, e_isin, k_is, e_pick, k_pick, k_pick2, es_nil, es_cons, k_es, k_es2, o_none, o_some, k_o, c_none, c_some, i_seq, k_seqT, k_seqL, i_r1, k_r1, i_r2, k_r2, k_r3, i_zip, k_zip, k_zipT, k_zipL, i_enum, k_enum, s_asg, k_asg, s_own, k_own2, k_slotL, k_slotD, k_slotV, s_par, k_par, k_par2, s_frz, s_app, k_app, k_app2, s_ife, k_ifeT, k_ifeF, s_whl, k_w, k_wT, k_wF, k_wN, k_wR, s_ret, k_ret, s_exp, k_exp, s_setC, k_setC, k_cup0, k_cup1, s_ap, k_ap, k_ap2, k_ap3, s_rc, k_rc, ss_nil, ss_cons, k_ssN, k_ssR, finR_rt, finR_nx, pureR_some, varv_0, varv_s, borv_0, borv_0o, borv_s, truth, startP, List.map_cons, List.map_nil, List.replicate_succ, List.replicate_zero, List.cons_append, List.nil_append, Nat.reduceSub, Nat.reduceAdd, bindT, bindTs, optS_some, List.set_cons_succ, List.set_cons_zero, wipeP, mkTup_0, mkTup_1, mkTup_2, mkTup_3, mkTup_4, mkTup_5, mkTup_6, mkTup_7, mkTup_8, mkLst_0, mkLst_1, mkLst_2, mkLst_3, mkLst_4, mkLst_5, mkLst_6, mkLst_7, mkLst_8, mkLst_9, mkLst_10, mkLst_11, mkLst_12, mkLst_13, mkLst_14, mkLst_15, mkLst_16, binop, cmpop, blV, Option.map_some, isTy, bltop, Bool.not_true, Bool.not_false, item_0, item_1, item_2, item_3, item_c0, item_c1, Option.bind_some, List.getElem?_cons_zero, List.getElem?_cons_succ, if_true, if_false, Bool.false_eq_true, and_self, dat_int, dat_bl, dat_non, peq_int, peq_bl, peq_nonnon, Int.cast_ofNat_Int, Int.reduceEq, Bool.and_self, List.length_cons, List.length_nil, Int.reduceLT, Int.reduceLE, Int.reduceAdd, Int.reduceSub, Nat.reduceLT, Nat.reduceLeDiff, decide_true, decide_false, Bool.or_true, Bool.true_or, true_and, and_true, b_are_two_named, w p h1, w o h2, e3]
theorem tup_len {xs : List PV} {a b : Int} (h1 : a ≤ xs.length) (h2 : (xs.length : Int) ≤ b) : tupB (.tup xs) a b = true := by
  unfold tupB
  simp [h1, h2]
def wordOk (v : Str) : Prop := v = "know" ∨ v = "part" ∨ v = "turn"
theorem pin_word {v : Str} (h : wordOk v) : pin (.str v) (.tup [.str "know", .str "part", .str "turn"]) = some true := by
  rcases h with rfl | rfl | rfl <;> decide +kernel
theorem f_fits_deed (k : Nat) (named : Nat) (d : Dd) (c : List PV) (h : DOk named d) : callK P (k + 4) n_fits_deed [.int named, deedV d] c = .ok (.bl true) c := by
  refine call_ok rfl rfl ?_
  have w : ∀ i : Nat, i < named → callK P (k + 3) n_is_whole [.int i, .int 0, .int ((named : Int) - 1)] c = .ok (.bl true) c := fun i hi => by
    rw [f_is_whole _ _ _ _ _ rfl]
    congr 2
    unfold wholeB
    simp only [Bool.and_eq_true, decide_eq_true_iff]
    omega
  have e1 := f_is_tuple_of (k + 2) (deedV d) 3 4 c (by cases d <;> rfl)
  cases d with
  | pairs p as =>
    obtain ⟨h1, h2, h3⟩ := h
    rw [show tupB (deedV (.pairs p as)) 3 4 = true from rfl] at e1
    have e2 := w p h1
    have e3 : callK P (k + 3) n_are_answers [.tup (as.map .int), .int 6] c = .ok (.bl true) c := f_are_answers k as 6 c h2 (by decide) h3
    unfold deedV at e1 ⊢
    simp -implicitDefEqProofs only [e_con, e_var, e_bor, e_bin, k_bin, k_bin2, e_cmp, k_cmp, k_cmp2, e_neg, k_neg, e_nt, k_nt, k_truth, k_optB, e_and, k_and, k_andT, k_andF, e_or, k_or, k_orT, k_orF, e_ite, k_iteT, k_iteF, e_chain, k_ch, k_ch2, k_ch3T, k_ch3F, e_tup, k_tup, e_lst, k_lst, e_ix, k_ix, k_ix2, e_sl, k_sl, k_sl2, k_sl3, e_call, k_call, e_blt, k_blt, e_mth, k_mth, k_mth2, e_isin, k_is, e_pick, k_pick, k_pick2, es_nil, es_cons, k_es, k_es2, o_none, o_some, k_o, c_none, c_some, i_seq, k_seqT, k_seqL, i_r1, k_r1, i_r2, k_r2, k_r3, i_zip, k_zip, k_zipT, k_zipL, i_enum, k_enum, s_asg, k_asg, s_own, k_own2, k_slotL, k_slotD, k_slotV, s_par, k_par, k_par2, s_frz, s_app, k_app, k_app2, s_ife, k_ifeT, k_ifeF, s_whl, k_w, k_wT, k_wF, k_wN, k_wR, s_ret, k_ret, s_exp, k_exp, s_setC, k_setC, k_cup0, k_cup1, s_ap, k_ap, k_ap2, k_ap3, s_rc, k_rc, ss_nil, ss_cons, k_ssN, k_ssR, finR_rt, finR_nx, pureR_some, varv_0, varv_s, borv_0, borv_0o, borv_s, truth, startP, List.map_cons, List.map_nil, List.replicate_succ, List.replicate_zero, List.cons_append, List.nil_append, Nat.reduceSub, Nat.reduceAdd, bindT, bindTs, optS_some, List.set_cons_succ, List.set_cons_zero, wipeP, mkTup_0, mkTup_1, mkTup_2, mkTup_3, mkTup_4, mkTup_5, mkTup_6, mkTup_7, mkTup_8, mkLst_0, mkLst_1, mkLst_2, mkLst_3, mkLst_4, mkLst_5, mkLst_6, mkLst_7, mkLst_8, mkLst_9, mkLst_10, mkLst_11, mkLst_12, mkLst_13, mkLst_14, mkLst_15, mkLst_16, binop, cmpop, blV, Option.map_some, isTy, bltop, Bool.not_true, Bool.not_false, item_0, item_1, item_2, item_3, item_c0, item_c1, Option.bind_some, List.getElem?_cons_zero, List.getElem?_cons_succ, if_true, if_false, Bool.false_eq_true, and_self, dat_int, dat_bl, dat_non, peq_int, peq_bl, peq_nonnon, Int.cast_ofNat_Int, Int.reduceEq, Bool.and_self, List.length_cons, List.length_nil, Int.reduceLT, Int.reduceLE, Int.reduceAdd, Int.reduceSub, Nat.reduceLT, Nat.reduceLeDiff, decide_true, decide_false, Bool.or_true, Bool.true_or, true_and, and_true, b_fits_deed, e1, ok_pairs, peq_str, e2, e3]
  | takes p o as =>
    obtain ⟨h1, h2, h3, h4, h5⟩ := h
    rw [show tupB (deedV (.takes p o as)) 3 4 = true from rfl] at e1
    have e2 := f_are_two_named (k + 1) named p o c h1 h2 h3
    have e3 : callK P (k + 3) n_are_answers [.tup (as.map .int), .int 4] c = .ok (.bl true) c := f_are_answers k as 4 c h4 (by decide) h5
    unfold deedV at e1 ⊢
    simp -implicitDefEqProofs only [e_con, e_var, e_bor, e_bin, k_bin, k_bin2, e_cmp, k_cmp, k_cmp2, e_neg, k_neg, e_nt, k_nt, k_truth, k_optB, e_and, k_and, k_andT, k_andF, e_or, k_or, k_orT, k_orF, e_ite, k_iteT, k_iteF, e_chain, k_ch, k_ch2, k_ch3T, k_ch3F, e_tup, k_tup, e_lst, k_lst, e_ix, k_ix, k_ix2, e_sl, k_sl, k_sl2, k_sl3, e_call, k_call, e_blt, k_blt, e_mth, k_mth, k_mth2, e_isin, k_is, e_pick, k_pick, k_pick2, es_nil, es_cons, k_es, k_es2, o_none, o_some, k_o, c_none, c_some, i_seq, k_seqT, k_seqL, i_r1, k_r1, i_r2, k_r2, k_r3, i_zip, k_zip, k_zipT, k_zipL, i_enum, k_enum, s_asg, k_asg, s_own, k_own2, k_slotL, k_slotD, k_slotV, s_par, k_par, k_par2, s_frz, s_app, k_app, k_app2, s_ife, k_ifeT, k_ifeF, s_whl, k_w, k_wT, k_wF, k_wN, k_wR, s_ret, k_ret, s_exp, k_exp, s_setC, k_setC, k_cup0, k_cup1, s_ap, k_ap, k_ap2, k_ap3, s_rc, k_rc, ss_nil, ss_cons, k_ssN, k_ssR, finR_rt, finR_nx, pureR_some, varv_0, varv_s, borv_0, borv_0o, borv_s, truth, startP, List.map_cons, List.map_nil, List.replicate_succ, List.replicate_zero, List.cons_append, List.nil_append, Nat.reduceSub, Nat.reduceAdd, bindT, bindTs, optS_some, List.set_cons_succ, List.set_cons_zero, wipeP, mkTup_0, mkTup_1, mkTup_2, mkTup_3, mkTup_4, mkTup_5, mkTup_6, mkTup_7, mkTup_8, mkLst_0, mkLst_1, mkLst_2, mkLst_3, mkLst_4, mkLst_5, mkLst_6, mkLst_7, mkLst_8, mkLst_9, mkLst_10, mkLst_11, mkLst_12, mkLst_13, mkLst_14, mkLst_15, mkLst_16, binop, cmpop, blV, Option.map_some, isTy, bltop, Bool.not_true, Bool.not_false, item_0, item_1, item_2, item_3, item_c0, item_c1, Option.bind_some, List.getElem?_cons_zero, List.getElem?_cons_succ, if_true, if_false, Bool.false_eq_true, and_self, dat_int, dat_bl, dat_non, peq_int, peq_bl, peq_nonnon, Int.cast_ofNat_Int, Int.reduceEq, Bool.and_self, List.length_cons, List.length_nil, Int.reduceLT, Int.reduceLE, Int.reduceAdd, Int.reduceSub, Nat.reduceLT, Nat.reduceLeDiff, decide_true, decide_false, Bool.or_true, Bool.true_or, true_and, and_true, b_fits_deed, e1, ok_pairs, ok_takes, peq_str, n_tp, e2, e3]
  | tie p o v =>
    obtain ⟨h1, h2, h3, h4⟩ := h
    rw [show tupB (deedV (.tie p o v)) 3 4 = true from rfl] at e1
    have e2 := f_are_two_named (k + 1) named p o c h1 h2 h3
    have e4 := pin_word h4
    unfold deedV at e1 ⊢
    simp -implicitDefEqProofs only [e_con, e_var, e_bor, e_bin, k_bin, k_bin2, e_cmp, k_cmp, k_cmp2, e_neg, k_neg, e_nt, k_nt, k_truth, k_optB, e_and, k_and, k_andT, k_andF, e_or, k_or, k_orT, k_orF, e_ite, k_iteT, k_iteF, e_chain, k_ch, k_ch2, k_ch3T, k_ch3F, e_tup, k_tup, e_lst, k_lst, e_ix, k_ix, k_ix2, e_sl, k_sl, k_sl2, k_sl3, e_call, k_call, e_blt, k_blt, e_mth, k_mth, k_mth2, e_isin, k_is, e_pick, k_pick, k_pick2, es_nil, es_cons, k_es, k_es2, o_none, o_some, k_o, c_none, c_some, i_seq, k_seqT, k_seqL, i_r1, k_r1, i_r2, k_r2, k_r3, i_zip, k_zip, k_zipT, k_zipL, i_enum, k_enum, s_asg, k_asg, s_own, k_own2, k_slotL, k_slotD, k_slotV, s_par, k_par, k_par2, s_frz, s_app, k_app, k_app2, s_ife, k_ifeT, k_ifeF, s_whl, k_w, k_wT, k_wF, k_wN, k_wR, s_ret, k_ret, s_exp, k_exp, s_setC, k_setC, k_cup0, k_cup1, s_ap, k_ap, k_ap2, k_ap3, s_rc, k_rc, ss_nil, ss_cons, k_ssN, k_ssR, finR_rt, finR_nx, pureR_some, varv_0, varv_s, borv_0, borv_0o, borv_s, truth, startP, List.map_cons, List.map_nil, List.replicate_succ, List.replicate_zero, List.cons_append, List.nil_append, Nat.reduceSub, Nat.reduceAdd, bindT, bindTs, optS_some, List.set_cons_succ, List.set_cons_zero, wipeP, mkTup_0, mkTup_1, mkTup_2, mkTup_3, mkTup_4, mkTup_5, mkTup_6, mkTup_7, mkTup_8, mkLst_0, mkLst_1, mkLst_2, mkLst_3, mkLst_4, mkLst_5, mkLst_6, mkLst_7, mkLst_8, mkLst_9, mkLst_10, mkLst_11, mkLst_12, mkLst_13, mkLst_14, mkLst_15, mkLst_16, binop, cmpop, blV, Option.map_some, isTy, bltop, Bool.not_true, Bool.not_false, item_0, item_1, item_2, item_3, item_c0, item_c1, Option.bind_some, List.getElem?_cons_zero, List.getElem?_cons_succ, if_true, if_false, Bool.false_eq_true, and_self, dat_int, dat_bl, dat_non, peq_int, peq_bl, peq_nonnon, Int.cast_ofNat_Int, Int.reduceEq, Bool.and_self, List.length_cons, List.length_nil, Int.reduceLT, Int.reduceLE, Int.reduceAdd, Int.reduceSub, Nat.reduceLT, Nat.reduceLeDiff, decide_true, decide_false, Bool.or_true, Bool.true_or, true_and, and_true, b_fits_deed, e1, ok_pairs, ok_takes, ok_tie, peq_str, n_ip, n_it, e2, e4]
/-! ### what a deed does -/
def kn (ps : List (Int × Int)) (a b : Int) : Bool := decide (mm a b ∈ ps)
def b2i (b : Bool) : Int := if b then 1 else 0
/-- the answer of a deed at a pair -/
def ans (ps : List (Int × Int)) : Dd → Int × Int → Bool
  | .pairs p as, q => if (p : Int) = q.1 ∨ (p : Int) = q.2 then kn ps q.1 q.2 else decide (as.getD (3 * b2i (kn ps q.1 q.2) + (b2i (kn ps p q.1) + b2i (kn ps p q.2))).toNat 0 = 1)
  | .takes p o as, q => if ((p : Int) = q.1 ∨ (p : Int) = q.2) ∧ ¬ ((o : Int) = q.1 ∨ (o : Int) = q.2) then decide (as.getD (2 * b2i (kn ps q.1 q.2) + b2i (kn ps o (q.1 + q.2 - p))).toNat 0 = 1) else kn ps q.1 q.2
  | .tie p o w, q => if mm p o = q then (if w = "turn" then !kn ps q.1 q.2 else decide (w = "know")) else kn ps q.1 q.2
theorem item_bits {as : List Int} {i : Nat} (h : i < as.length) (c : List PV) : item (.tup (as.map .int)) (.int (i : Int)) c = some (.int (as.getD i 0)) :=
  item_tup (by rw [List.getElem?_map, List.getElem?_eq_getElem h, List.getD_eq_getElem?_getD, List.getElem?_eq_getElem h]; rfl)
theorem dat_pr2 {a b : Int} : dat (.tup [.int a, .int b]) = true := rfl
theorem pin_two (x a b : Int) : pin (.int x) (.tup [.int a, .int b]) = some (decide (x = a ∨ x = b)) := by
  rw [pin, dat_int, dat_pr2]
  simp only [Bool.and_self, if_true, List.any_cons, List.any_nil, peq_int, Bool.or_false, Option.some.injEq]
  rw [Bool.eq_iff_iff]
  simp only [Bool.or_eq_true, decide_eq_true_iff]
  exact ⟨fun h => h.elim (fun z => .inl z.symm) (fun z => .inr z.symm), fun h => h.elim (fun z => .inl z.symm) (fun z => .inr z.symm)⟩
theorem peq_two (a b x y : Int) : peq (.tup [.int a, .int b]) (.tup [.int x, .int y]) = decide ((a, b) = (x, y)) := peq_pr (a, b) (x, y)
theorem asInts_ones {α : Type} : ∀ xs : List α, asInts (xs.map fun _ => PV.int 1) = some (xs.map fun _ => 1)
  | [] => rfl
  | _ :: xs => by rw [List.map_cons, asInts, asInts_ones xs]; rfl
theorem kn_self {named n : Nat} {ps : List (Int × Int)} (h : Com named n ps) (a : Int) : kn ps a a = false := by
  unfold kn
  rw [decide_eq_false_iff_not]
  intro z
  have := h.mem z
  unfold mm at this
  rw [if_neg (by omega)] at this
  simp only at this
  omega
theorem mm_lt {a b : Int} (h : a < b) : mm a b = (a, b) := if_pos h
theorem item_ties {n : Nat} {ps : List (Int × Int)} {a b : Int} {c : List PV} (ha : 0 ≤ a ∧ a < n) (hb : 0 ≤ b ∧ b < n) (ne : a ≠ b) : item (tiesV n ps) (prV (mm a b)) c = some (.bl (kn ps a b)) :=
  item_dic (g := fun p => .bl (decide (p ∈ ps))) (mm_mem ha hb ne)
theorem sum_two (f : Int → Bool) (a b : Int) : Option.map (fun is : List Int => PV.int is.sum) (asInts (([a, b].filter f).map fun _ => PV.int 1)) = some (.int (b2i (f a) + b2i (f b))) := by
  cases h1 : f a <;> cases h2 : f b <;> simp only [List.filter_cons, List.filter_nil, h1, h2] <;> rfl
theorem b_tf : (true == false) = false := rfl
theorem b_ft : (false == true) = false := rfl
theorem b_tt : (true == true) = true := rfl
theorem b_ff : (false == false) = true := rfl
theorem ite_b2i {b : Bool} : (if b = true then (1 : Int) else 0) = b2i b := rfl
theorem b2i_bd (b : Bool) : 0 ≤ b2i b ∧ b2i b ≤ 1 := by cases b <;> decide
theorem item_bitsI {as : List Int} {i : Int} (h0 : 0 ≤ i) (h : i < as.length) (c : List PV) : item (.tup (as.map .int)) (.int i) c = some (.int (as.getD i.toNat 0)) := by
  obtain ⟨j, rfl⟩ := Int.eq_ofNat_of_zero_le h0
  exact item_bits (by omega) c
theorem smallI_2 : smallI 2 = true := by decide
theorem smallI_3 : smallI 3 = true := by decide
theorem f_answer_of {named n : Nat} {ps : List (Int × Int)} (h : Com named n ps) (k : Nat) (d : Dd) (hd : DOk named d) (q : Int × Int) (hq : q ∈ prs n) (c : List PV) :
    callK P (k + 2) n_answer_of [tiesV n ps, deedV d, .int q.1, .int q.2] c = .ok (.bl (ans ps d q)) c := by
  obtain ⟨a, b⟩ := q
  obtain ⟨q1, q2, q3⟩ := mem_prs.mp hq
  simp only at q1 q2 q3 ⊢
  have hn := h.c
  have ha : 0 ≤ a ∧ a < n := by omega
  have hb : 0 ≤ b ∧ b < n := by omega
  have t0 : item (tiesV n ps) (.tup [.int a, .int b]) c = some (.bl (kn ps a b)) := by
    have := item_ties (c := c) (ps := ps) ha hb (by omega)
    rw [mm_lt q2] at this
    exact this
  refine call_ok rfl rfl ?_
  cases d with
  | pairs p as =>
    obtain ⟨h1, h2, h3⟩ := hd
    by_cases hp : (p : Int) = a ∨ (p : Int) = b
    · unfold deedV ans
      simp -implicitDefEqProofs only [e_con, e_var, e_bor, e_bin, k_bin, k_bin2, e_cmp, k_cmp, k_cmp2, e_neg, k_neg, e_nt, k_nt, k_truth, k_optB, e_and, k_and, k_andT, k_andF, e_or, k_or, k_orT, k_orF, e_ite, k_iteT, k_iteF, e_chain, k_ch, k_ch2, k_ch3T, k_ch3F, e_tup, k_tup, e_lst, k_lst, e_ix, k_ix, k_ix2, e_sl, k_sl, k_sl2, k_sl3, e_call, k_call, e_blt, k_blt, e_mth, k_mth, k_mth2, e_isin, k_is, e_pick, k_pick, k_pick2, es_nil, es_cons, k_es, k_es2, o_none, o_some, k_o, c_none, c_some, i_seq, k_seqT, k_seqL, i_r1, k_r1, i_r2, k_r2, k_r3, i_zip, k_zip, k_zipT, k_zipL, i_enum, k_enum, s_asg, k_asg, s_own, k_own2, k_slotL, k_slotD, k_slotV, s_par, k_par, k_par2, s_frz, s_app, k_app, k_app2, s_ife, k_ifeT, k_ifeF, s_whl, k_w, k_wT, k_wF, k_wN, k_wR, s_ret, k_ret, s_exp, k_exp, s_setC, k_setC, k_cup0, k_cup1, s_ap, k_ap, k_ap2, k_ap3, s_rc, k_rc, ss_nil, ss_cons, k_ssN, k_ssR, finR_rt, finR_nx, pureR_some, varv_0, varv_s, borv_0, borv_0o, borv_s, truth, startP, List.map_cons, List.map_nil, List.replicate_succ, List.replicate_zero, List.cons_append, List.nil_append, Nat.reduceSub, Nat.reduceAdd, bindT, bindTs, optS_some, List.set_cons_succ, List.set_cons_zero, wipeP, mkTup_0, mkTup_1, mkTup_2, mkTup_3, mkTup_4, mkTup_5, mkTup_6, mkTup_7, mkTup_8, mkLst_0, mkLst_1, mkLst_2, mkLst_3, mkLst_4, mkLst_5, mkLst_6, mkLst_7, mkLst_8, mkLst_9, mkLst_10, mkLst_11, mkLst_12, mkLst_13, mkLst_14, mkLst_15, mkLst_16, binop, cmpop, blV, Option.map_some, isTy, bltop, Bool.not_true, Bool.not_false, item_0, item_1, item_2, item_3, item_c0, item_c1, Option.bind_some, List.getElem?_cons_zero, List.getElem?_cons_succ, if_true, if_false, Bool.false_eq_true, and_self, dat_int, dat_bl, dat_non, peq_int, peq_bl, peq_nonnon, Int.cast_ofNat_Int, Int.reduceEq, Bool.and_self, List.length_cons, List.length_nil, Int.reduceLT, Int.reduceLE, Int.reduceAdd, Int.reduceSub, Nat.reduceLT, Nat.reduceLeDiff, decide_true, decide_false, Bool.or_true, Bool.true_or, true_and, and_true, b_answer_of, t0, ok_pairs, peq_str, pin_two, hp]
    · have t1 := item_ties (c := c) (ps := ps) (a := p) (b := a) (by omega) ha (by omega)
      have t2 := item_ties (c := c) (ps := ps) (a := p) (b := b) (by omega) hb (by omega)
      have m1 := f_mm k p a c
      have m2 := f_mm k p b c
      have e0 : evalE (callK P (k + 1)) b_answer_of_c0 [.val (tiesV n ps), .val (deedV (.pairs p as)), .val (.int a), .val (.int b), .val (.bl (kn ps a b)), .no, .no, .no] c = .ok (.lst (([a, b].filter fun x => kn ps p x).map fun _ => PV.int 1)) c := by
        refine comp_pure [a, b] PV.int (fun x => kn ps p x) (fun _ => PV.int 1) ?_ (fun x hm => ⟨_, rfl, ?_, fun _ => ?_⟩) (show 2 ≤ LIM by decide)
        · simp -implicitDefEqProofs only [e_con, e_var, e_bor, e_bin, k_bin, k_bin2, e_cmp, k_cmp, k_cmp2, e_neg, k_neg, e_nt, k_nt, k_truth, k_optB, e_and, k_and, k_andT, k_andF, e_or, k_or, k_orT, k_orF, e_ite, k_iteT, k_iteF, e_chain, k_ch, k_ch2, k_ch3T, k_ch3F, e_tup, k_tup, e_lst, k_lst, e_ix, k_ix, k_ix2, e_sl, k_sl, k_sl2, k_sl3, e_call, k_call, e_blt, k_blt, e_mth, k_mth, k_mth2, e_isin, k_is, e_pick, k_pick, k_pick2, es_nil, es_cons, k_es, k_es2, o_none, o_some, k_o, c_none, c_some, i_seq, k_seqT, k_seqL, i_r1, k_r1, i_r2, k_r2, k_r3, i_zip, k_zip, k_zipT, k_zipL, i_enum, k_enum, s_asg, k_asg, s_own, k_own2, k_slotL, k_slotD, k_slotV, s_par, k_par, k_par2, s_frz, s_app, k_app, k_app2, s_ife, k_ifeT, k_ifeF, s_whl, k_w, k_wT, k_wF, k_wN, k_wR, s_ret, k_ret, s_exp, k_exp, s_setC, k_setC, k_cup0, k_cup1, s_ap, k_ap, k_ap2, k_ap3, s_rc, k_rc, ss_nil, ss_cons, k_ssN, k_ssR, finR_rt, finR_nx, pureR_some, varv_0, varv_s, borv_0, borv_0o, borv_s, truth, startP, List.map_cons, List.map_nil, List.replicate_succ, List.replicate_zero, List.cons_append, List.nil_append, Nat.reduceSub, Nat.reduceAdd, bindT, bindTs, optS_some, List.set_cons_succ, List.set_cons_zero, wipeP, mkTup_0, mkTup_1, mkTup_2, mkTup_3, mkTup_4, mkTup_5, mkTup_6, mkTup_7, mkTup_8, mkLst_0, mkLst_1, mkLst_2, mkLst_3, mkLst_4, mkLst_5, mkLst_6, mkLst_7, mkLst_8, mkLst_9, mkLst_10, mkLst_11, mkLst_12, mkLst_13, mkLst_14, mkLst_15, mkLst_16, binop, cmpop, blV, Option.map_some, isTy, bltop, Bool.not_true, Bool.not_false, item_0, item_1, item_2, item_3, item_c0, item_c1, Option.bind_some, List.getElem?_cons_zero, List.getElem?_cons_succ, if_true, if_false, Bool.false_eq_true, and_self, dat_int, dat_bl, dat_non, peq_int, peq_bl, peq_nonnon, Int.cast_ofNat_Int, Int.reduceEq, Bool.and_self, List.length_cons, List.length_nil, Int.reduceLT, Int.reduceLE, Int.reduceAdd, Int.reduceSub, Nat.reduceLT, Nat.reduceLeDiff, decide_true, decide_false, Bool.or_true, Bool.true_or, true_and, and_true]
        · unfold deedV
          simp only [List.mem_cons, List.not_mem_nil, or_false] at hm
          rcases hm with rfl | rfl
          · simp -implicitDefEqProofs only [e_con, e_var, e_bor, e_bin, k_bin, k_bin2, e_cmp, k_cmp, k_cmp2, e_neg, k_neg, e_nt, k_nt, k_truth, k_optB, e_and, k_and, k_andT, k_andF, e_or, k_or, k_orT, k_orF, e_ite, k_iteT, k_iteF, e_chain, k_ch, k_ch2, k_ch3T, k_ch3F, e_tup, k_tup, e_lst, k_lst, e_ix, k_ix, k_ix2, e_sl, k_sl, k_sl2, k_sl3, e_call, k_call, e_blt, k_blt, e_mth, k_mth, k_mth2, e_isin, k_is, e_pick, k_pick, k_pick2, es_nil, es_cons, k_es, k_es2, o_none, o_some, k_o, c_none, c_some, i_seq, k_seqT, k_seqL, i_r1, k_r1, i_r2, k_r2, k_r3, i_zip, k_zip, k_zipT, k_zipL, i_enum, k_enum, s_asg, k_asg, s_own, k_own2, k_slotL, k_slotD, k_slotV, s_par, k_par, k_par2, s_frz, s_app, k_app, k_app2, s_ife, k_ifeT, k_ifeF, s_whl, k_w, k_wT, k_wF, k_wN, k_wR, s_ret, k_ret, s_exp, k_exp, s_setC, k_setC, k_cup0, k_cup1, s_ap, k_ap, k_ap2, k_ap3, s_rc, k_rc, ss_nil, ss_cons, k_ssN, k_ssR, finR_rt, finR_nx, pureR_some, varv_0, varv_s, borv_0, borv_0o, borv_s, truth, startP, List.map_cons, List.map_nil, List.replicate_succ, List.replicate_zero, List.cons_append, List.nil_append, Nat.reduceSub, Nat.reduceAdd, bindT, bindTs, optS_some, List.set_cons_succ, List.set_cons_zero, wipeP, mkTup_0, mkTup_1, mkTup_2, mkTup_3, mkTup_4, mkTup_5, mkTup_6, mkTup_7, mkTup_8, mkLst_0, mkLst_1, mkLst_2, mkLst_3, mkLst_4, mkLst_5, mkLst_6, mkLst_7, mkLst_8, mkLst_9, mkLst_10, mkLst_11, mkLst_12, mkLst_13, mkLst_14, mkLst_15, mkLst_16, binop, cmpop, blV, Option.map_some, isTy, bltop, Bool.not_true, Bool.not_false, item_0, item_1, item_2, item_3, item_c0, item_c1, Option.bind_some, List.getElem?_cons_zero, List.getElem?_cons_succ, if_true, if_false, Bool.false_eq_true, and_self, dat_int, dat_bl, dat_non, peq_int, peq_bl, peq_nonnon, Int.cast_ofNat_Int, Int.reduceEq, Bool.and_self, List.length_cons, List.length_nil, Int.reduceLT, Int.reduceLE, Int.reduceAdd, Int.reduceSub, Nat.reduceLT, Nat.reduceLeDiff, decide_true, decide_false, Bool.or_true, Bool.true_or, true_and, and_true, m1, t1]
          · simp -implicitDefEqProofs only [e_con, e_var, e_bor, e_bin, k_bin, k_bin2, e_cmp, k_cmp, k_cmp2, e_neg, k_neg, e_nt, k_nt, k_truth, k_optB, e_and, k_and, k_andT, k_andF, e_or, k_or, k_orT, k_orF, e_ite, k_iteT, k_iteF, e_chain, k_ch, k_ch2, k_ch3T, k_ch3F, e_tup, k_tup, e_lst, k_lst, e_ix, k_ix, k_ix2, e_sl, k_sl, k_sl2, k_sl3, e_call, k_call, e_blt, k_blt, e_mth, k_mth, k_mth2, e_isin, k_is, e_pick, k_pick, k_pick2, es_nil, es_cons, k_es, k_es2, o_none, o_some, k_o, c_none, c_some, i_seq, k_seqT, k_seqL, i_r1, k_r1, i_r2, k_r2, k_r3, i_zip, k_zip, k_zipT, k_zipL, i_enum, k_enum, s_asg, k_asg, s_own, k_own2, k_slotL, k_slotD, k_slotV, s_par, k_par, k_par2, s_frz, s_app, k_app, k_app2, s_ife, k_ifeT, k_ifeF, s_whl, k_w, k_wT, k_wF, k_wN, k_wR, s_ret, k_ret, s_exp, k_exp, s_setC, k_setC, k_cup0, k_cup1, s_ap, k_ap, k_ap2, k_ap3, s_rc, k_rc, ss_nil, ss_cons, k_ssN, k_ssR, finR_rt, finR_nx, pureR_some, varv_0, varv_s, borv_0, borv_0o, borv_s, truth, startP, List.map_cons, List.map_nil, List.replicate_succ, List.replicate_zero, List.cons_append, List.nil_append, Nat.reduceSub, Nat.reduceAdd, bindT, bindTs, optS_some, List.set_cons_succ, List.set_cons_zero, wipeP, mkTup_0, mkTup_1, mkTup_2, mkTup_3, mkTup_4, mkTup_5, mkTup_6, mkTup_7, mkTup_8, mkLst_0, mkLst_1, mkLst_2, mkLst_3, mkLst_4, mkLst_5, mkLst_6, mkLst_7, mkLst_8, mkLst_9, mkLst_10, mkLst_11, mkLst_12, mkLst_13, mkLst_14, mkLst_15, mkLst_16, binop, cmpop, blV, Option.map_some, isTy, bltop, Bool.not_true, Bool.not_false, item_0, item_1, item_2, item_3, item_c0, item_c1, Option.bind_some, List.getElem?_cons_zero, List.getElem?_cons_succ, if_true, if_false, Bool.false_eq_true, and_self, dat_int, dat_bl, dat_non, peq_int, peq_bl, peq_nonnon, Int.cast_ofNat_Int, Int.reduceEq, Bool.and_self, List.length_cons, List.length_nil, Int.reduceLT, Int.reduceLE, Int.reduceAdd, Int.reduceSub, Nat.reduceLT, Nat.reduceLeDiff, decide_true, decide_false, Bool.or_true, Bool.true_or, true_and, and_true, m2, t2]
        · simp -implicitDefEqProofs only [e_con, e_var, e_bor, e_bin, k_bin, k_bin2, e_cmp, k_cmp, k_cmp2, e_neg, k_neg, e_nt, k_nt, k_truth, k_optB, e_and, k_and, k_andT, k_andF, e_or, k_or, k_orT, k_orF, e_ite, k_iteT, k_iteF, e_chain, k_ch, k_ch2, k_ch3T, k_ch3F, e_tup, k_tup, e_lst, k_lst, e_ix, k_ix, k_ix2, e_sl, k_sl, k_sl2, k_sl3, e_call, k_call, e_blt, k_blt, e_mth, k_mth, k_mth2, e_isin, k_is, e_pick, k_pick, k_pick2, es_nil, es_cons, k_es, k_es2, o_none, o_some, k_o, c_none, c_some, i_seq, k_seqT, k_seqL, i_r1, k_r1, i_r2, k_r2, k_r3, i_zip, k_zip, k_zipT, k_zipL, i_enum, k_enum, s_asg, k_asg, s_own, k_own2, k_slotL, k_slotD, k_slotV, s_par, k_par, k_par2, s_frz, s_app, k_app, k_app2, s_ife, k_ifeT, k_ifeF, s_whl, k_w, k_wT, k_wF, k_wN, k_wR, s_ret, k_ret, s_exp, k_exp, s_setC, k_setC, k_cup0, k_cup1, s_ap, k_ap, k_ap2, k_ap3, s_rc, k_rc, ss_nil, ss_cons, k_ssN, k_ssR, finR_rt, finR_nx, pureR_some, varv_0, varv_s, borv_0, borv_0o, borv_s, truth, startP, List.map_cons, List.map_nil, List.replicate_succ, List.replicate_zero, List.cons_append, List.nil_append, Nat.reduceSub, Nat.reduceAdd, bindT, bindTs, optS_some, List.set_cons_succ, List.set_cons_zero, wipeP, mkTup_0, mkTup_1, mkTup_2, mkTup_3, mkTup_4, mkTup_5, mkTup_6, mkTup_7, mkTup_8, mkLst_0, mkLst_1, mkLst_2, mkLst_3, mkLst_4, mkLst_5, mkLst_6, mkLst_7, mkLst_8, mkLst_9, mkLst_10, mkLst_11, mkLst_12, mkLst_13, mkLst_14, mkLst_15, mkLst_16, binop, cmpop, blV, Option.map_some, isTy, bltop, Bool.not_true, Bool.not_false, item_0, item_1, item_2, item_3, item_c0, item_c1, Option.bind_some, List.getElem?_cons_zero, List.getElem?_cons_succ, if_true, if_false, Bool.false_eq_true, and_self, dat_int, dat_bl, dat_non, peq_int, peq_bl, peq_nonnon, Int.cast_ofNat_Int, Int.reduceEq, Bool.and_self, List.length_cons, List.length_nil, Int.reduceLT, Int.reduceLE, Int.reduceAdd, Int.reduceSub, Nat.reduceLT, Nat.reduceLeDiff, decide_true, decide_false, Bool.or_true, Bool.true_or, true_and, and_true]
      have s0 := sum_two (fun x => kn ps p x) a b
      have b1 := b2i_bd (kn ps a b)
      have b2 := b2i_bd (kn ps p a)
      have b3 := b2i_bd (kn ps p b)
      have i0 := item_bitsI (as := as) (i := 3 * b2i (kn ps a b) + (b2i (kn ps p a) + b2i (kn ps p b))) (by omega) (by omega) c
      unfold deedV at e0
      unfold deedV ans
      simp -implicitDefEqProofs only [e_con, e_var, e_bor, e_bin, k_bin, k_bin2, e_cmp, k_cmp, k_cmp2, e_neg, k_neg, e_nt, k_nt, k_truth, k_optB, e_and, k_and, k_andT, k_andF, e_or, k_or, k_orT, k_orF, e_ite, k_iteT, k_iteF, e_chain, k_ch, k_ch2, k_ch3T, k_ch3F, e_tup, k_tup, e_lst, k_lst, e_ix, k_ix, k_ix2, e_sl, k_sl, k_sl2, k_sl3, e_call, k_call, e_blt, k_blt, e_mth, k_mth, k_mth2, e_isin, k_is, e_pick, k_pick, k_pick2, es_nil, es_cons, k_es, k_es2, o_none, o_some, k_o, c_none, c_some, i_seq, k_seqT, k_seqL, i_r1, k_r1, i_r2, k_r2, k_r3, i_zip, k_zip, k_zipT, k_zipL, i_enum, k_enum, s_asg, k_asg, s_own, k_own2, k_slotL, k_slotD, k_slotV, s_par, k_par, k_par2, s_frz, s_app, k_app, k_app2, s_ife, k_ifeT, k_ifeF, s_whl, k_w, k_wT, k_wF, k_wN, k_wR, s_ret, k_ret, s_exp, k_exp, s_setC, k_setC, k_cup0, k_cup1, s_ap, k_ap, k_ap2, k_ap3, s_rc, k_rc, ss_nil, ss_cons, k_ssN, k_ssR, finR_rt, finR_nx, pureR_some, varv_0, varv_s, borv_0, borv_0o, borv_s, truth, startP, List.map_cons, List.map_nil, List.replicate_succ, List.replicate_zero, List.cons_append, List.nil_append, Nat.reduceSub, Nat.reduceAdd, bindT, bindTs, optS_some, List.set_cons_succ, List.set_cons_zero, wipeP, mkTup_0, mkTup_1, mkTup_2, mkTup_3, mkTup_4, mkTup_5, mkTup_6, mkTup_7, mkTup_8, mkLst_0, mkLst_1, mkLst_2, mkLst_3, mkLst_4, mkLst_5, mkLst_6, mkLst_7, mkLst_8, mkLst_9, mkLst_10, mkLst_11, mkLst_12, mkLst_13, mkLst_14, mkLst_15, mkLst_16, binop, cmpop, blV, Option.map_some, isTy, bltop, Bool.not_true, Bool.not_false, item_0, item_1, item_2, item_3, item_c0, item_c1, Option.bind_some, List.getElem?_cons_zero, List.getElem?_cons_succ, if_true, if_false, Bool.false_eq_true, and_self, dat_int, dat_bl, dat_non, peq_int, peq_bl, peq_nonnon, Int.cast_ofNat_Int, Int.reduceEq, Bool.and_self, List.length_cons, List.length_nil, Int.reduceLT, Int.reduceLE, Int.reduceAdd, Int.reduceSub, Nat.reduceLT, Nat.reduceLeDiff, decide_true, decide_false, Bool.or_true, Bool.true_or, true_and, and_true, b_answer_of, t0, ok_pairs, peq_str, pin_two, hp, e0, s0, ite_b2i, smallI_3, i0]
  | takes p o as =>
    obtain ⟨h1, h2, h3, h4, h5⟩ := hd
    unfold deedV ans
    by_cases hp : (p : Int) = a ∨ (p : Int) = b
    · by_cases ho : (o : Int) = a ∨ (o : Int) = b
      · simp -implicitDefEqProofs only [e_con, e_var, e_bor, e_bin, k_bin, k_bin2, e_cmp, k_cmp, k_cmp2, e_neg, k_neg, e_nt, k_nt, k_truth, k_optB, e_and, k_and, k_andT, k_andF, e_or, k_or, k_orT, k_orF, e_ite, k_iteT, k_iteF, e_chain, k_ch, k_ch2, k_ch3T, k_ch3F, e_tup, k_tup, e_lst, k_lst, e_ix, k_ix, k_ix2, e_sl, k_sl, k_sl2, k_sl3, e_call, k_call, e_blt, k_blt, e_mth, k_mth, k_mth2, e_isin, k_is, e_pick, k_pick, k_pick2, es_nil, es_cons, k_es, k_es2, o_none, o_some, k_o, c_none, c_some, i_seq, k_seqT, k_seqL, i_r1, k_r1, i_r2, k_r2, k_r3, i_zip, k_zip, k_zipT, k_zipL, i_enum, k_enum, s_asg, k_asg, s_own, k_own2, k_slotL, k_slotD, k_slotV, s_par, k_par, k_par2, s_frz, s_app, k_app, k_app2, s_ife, k_ifeT, k_ifeF, s_whl, k_w, k_wT, k_wF, k_wN, k_wR, s_ret, k_ret, s_exp, k_exp, s_setC, k_setC, k_cup0, k_cup1, s_ap, k_ap, k_ap2, k_ap3, s_rc, k_rc, ss_nil, ss_cons, k_ssN, k_ssR, finR_rt, finR_nx, pureR_some, varv_0, varv_s, borv_0, borv_0o, borv_s, truth, startP, List.map_cons, List.map_nil, List.replicate_succ, List.replicate_zero, List.cons_append, List.nil_append, Nat.reduceSub, Nat.reduceAdd, bindT, bindTs, optS_some, List.set_cons_succ, List.set_cons_zero, wipeP, mkTup_0, mkTup_1, mkTup_2, mkTup_3, mkTup_4, mkTup_5, mkTup_6, mkTup_7, mkTup_8, mkLst_0, mkLst_1, mkLst_2, mkLst_3, mkLst_4, mkLst_5, mkLst_6, mkLst_7, mkLst_8, mkLst_9, mkLst_10, mkLst_11, mkLst_12, mkLst_13, mkLst_14, mkLst_15, mkLst_16, binop, cmpop, blV, Option.map_some, isTy, bltop, Bool.not_true, Bool.not_false, item_0, item_1, item_2, item_3, item_c0, item_c1, Option.bind_some, List.getElem?_cons_zero, List.getElem?_cons_succ, if_true, if_false, Bool.false_eq_true, and_self, dat_int, dat_bl, dat_non, peq_int, peq_bl, peq_nonnon, Int.cast_ofNat_Int, Int.reduceEq, Bool.and_self, List.length_cons, List.length_nil, Int.reduceLT, Int.reduceLE, Int.reduceAdd, Int.reduceSub, Nat.reduceLT, Nat.reduceLeDiff, decide_true, decide_false, Bool.or_true, Bool.true_or, true_and, and_true, b_answer_of, t0, ok_pairs, ok_takes, peq_str, n_tp, pin_two, hp, ho, beq_self_eq_true, not_true_eq_false, and_false]
      · have t1 := item_ties (n := n) (c := c) (ps := ps) (a := o) (b := a + b - p) (by omega) (by omega) (by omega)
        have m1 := f_mm k o (a + b - p) c
        have b1 := b2i_bd (kn ps a b)
        have b2 := b2i_bd (kn ps o (a + b - p))
        have i0 := item_bitsI (as := as) (i := 2 * b2i (kn ps a b) + b2i (kn ps o (a + b - p))) (by omega) (by omega) c
        simp -implicitDefEqProofs only [e_con, e_var, e_bor, e_bin, k_bin, k_bin2, e_cmp, k_cmp, k_cmp2, e_neg, k_neg, e_nt, k_nt, k_truth, k_optB, e_and, k_and, k_andT, k_andF, e_or, k_or, k_orT, k_orF, e_ite, k_iteT, k_iteF, e_chain, k_ch, k_ch2, k_ch3T, k_ch3F, e_tup, k_tup, e_lst, k_lst, e_ix, k_ix, k_ix2, e_sl, k_sl, k_sl2, k_sl3, e_call, k_call, e_blt, k_blt, e_mth, k_mth, k_mth2, e_isin, k_is, e_pick, k_pick, k_pick2, es_nil, es_cons, k_es, k_es2, o_none, o_some, k_o, c_none, c_some, i_seq, k_seqT, k_seqL, i_r1, k_r1, i_r2, k_r2, k_r3, i_zip, k_zip, k_zipT, k_zipL, i_enum, k_enum, s_asg, k_asg, s_own, k_own2, k_slotL, k_slotD, k_slotV, s_par, k_par, k_par2, s_frz, s_app, k_app, k_app2, s_ife, k_ifeT, k_ifeF, s_whl, k_w, k_wT, k_wF, k_wN, k_wR, s_ret, k_ret, s_exp, k_exp, s_setC, k_setC, k_cup0, k_cup1, s_ap, k_ap, k_ap2, k_ap3, s_rc, k_rc, ss_nil, ss_cons, k_ssN, k_ssR, finR_rt, finR_nx, pureR_some, varv_0, varv_s, borv_0, borv_0o, borv_s, truth, startP, List.map_cons, List.map_nil, List.replicate_succ, List.replicate_zero, List.cons_append, List.nil_append, Nat.reduceSub, Nat.reduceAdd, bindT, bindTs, optS_some, List.set_cons_succ, List.set_cons_zero, wipeP, mkTup_0, mkTup_1, mkTup_2, mkTup_3, mkTup_4, mkTup_5, mkTup_6, mkTup_7, mkTup_8, mkLst_0, mkLst_1, mkLst_2, mkLst_3, mkLst_4, mkLst_5, mkLst_6, mkLst_7, mkLst_8, mkLst_9, mkLst_10, mkLst_11, mkLst_12, mkLst_13, mkLst_14, mkLst_15, mkLst_16, binop, cmpop, blV, Option.map_some, isTy, bltop, Bool.not_true, Bool.not_false, item_0, item_1, item_2, item_3, item_c0, item_c1, Option.bind_some, List.getElem?_cons_zero, List.getElem?_cons_succ, if_true, if_false, Bool.false_eq_true, and_self, dat_int, dat_bl, dat_non, peq_int, peq_bl, peq_nonnon, Int.cast_ofNat_Int, Int.reduceEq, Bool.and_self, List.length_cons, List.length_nil, Int.reduceLT, Int.reduceLE, Int.reduceAdd, Int.reduceSub, Nat.reduceLT, Nat.reduceLeDiff, decide_true, decide_false, Bool.or_true, Bool.true_or, true_and, and_true, b_answer_of, t0, ok_pairs, ok_takes, peq_str, n_tp, pin_two, hp, ho, b_tf, not_false_eq_true, m1, t1, ite_b2i, smallI_2, i0]
    · by_cases ho : (o : Int) = a ∨ (o : Int) = b
      · simp -implicitDefEqProofs only [e_con, e_var, e_bor, e_bin, k_bin, k_bin2, e_cmp, k_cmp, k_cmp2, e_neg, k_neg, e_nt, k_nt, k_truth, k_optB, e_and, k_and, k_andT, k_andF, e_or, k_or, k_orT, k_orF, e_ite, k_iteT, k_iteF, e_chain, k_ch, k_ch2, k_ch3T, k_ch3F, e_tup, k_tup, e_lst, k_lst, e_ix, k_ix, k_ix2, e_sl, k_sl, k_sl2, k_sl3, e_call, k_call, e_blt, k_blt, e_mth, k_mth, k_mth2, e_isin, k_is, e_pick, k_pick, k_pick2, es_nil, es_cons, k_es, k_es2, o_none, o_some, k_o, c_none, c_some, i_seq, k_seqT, k_seqL, i_r1, k_r1, i_r2, k_r2, k_r3, i_zip, k_zip, k_zipT, k_zipL, i_enum, k_enum, s_asg, k_asg, s_own, k_own2, k_slotL, k_slotD, k_slotV, s_par, k_par, k_par2, s_frz, s_app, k_app, k_app2, s_ife, k_ifeT, k_ifeF, s_whl, k_w, k_wT, k_wF, k_wN, k_wR, s_ret, k_ret, s_exp, k_exp, s_setC, k_setC, k_cup0, k_cup1, s_ap, k_ap, k_ap2, k_ap3, s_rc, k_rc, ss_nil, ss_cons, k_ssN, k_ssR, finR_rt, finR_nx, pureR_some, varv_0, varv_s, borv_0, borv_0o, borv_s, truth, startP, List.map_cons, List.map_nil, List.replicate_succ, List.replicate_zero, List.cons_append, List.nil_append, Nat.reduceSub, Nat.reduceAdd, bindT, bindTs, optS_some, List.set_cons_succ, List.set_cons_zero, wipeP, mkTup_0, mkTup_1, mkTup_2, mkTup_3, mkTup_4, mkTup_5, mkTup_6, mkTup_7, mkTup_8, mkLst_0, mkLst_1, mkLst_2, mkLst_3, mkLst_4, mkLst_5, mkLst_6, mkLst_7, mkLst_8, mkLst_9, mkLst_10, mkLst_11, mkLst_12, mkLst_13, mkLst_14, mkLst_15, mkLst_16, binop, cmpop, blV, Option.map_some, isTy, bltop, Bool.not_true, Bool.not_false, item_0, item_1, item_2, item_3, item_c0, item_c1, Option.bind_some, List.getElem?_cons_zero, List.getElem?_cons_succ, if_true, if_false, Bool.false_eq_true, and_self, dat_int, dat_bl, dat_non, peq_int, peq_bl, peq_nonnon, Int.cast_ofNat_Int, Int.reduceEq, Bool.and_self, List.length_cons, List.length_nil, Int.reduceLT, Int.reduceLE, Int.reduceAdd, Int.reduceSub, Nat.reduceLT, Nat.reduceLeDiff, decide_true, decide_false, Bool.or_true, Bool.true_or, true_and, and_true, b_answer_of, t0, ok_pairs, ok_takes, peq_str, n_tp, pin_two, hp, ho, false_and, b_ft]
      · simp -implicitDefEqProofs only [e_con, e_var, e_bor, e_bin, k_bin, k_bin2, e_cmp, k_cmp, k_cmp2, e_neg, k_neg, e_nt, k_nt, k_truth, k_optB, e_and, k_and, k_andT, k_andF, e_or, k_or, k_orT, k_orF, e_ite, k_iteT, k_iteF, e_chain, k_ch, k_ch2, k_ch3T, k_ch3F, e_tup, k_tup, e_lst, k_lst, e_ix, k_ix, k_ix2, e_sl, k_sl, k_sl2, k_sl3, e_call, k_call, e_blt, k_blt, e_mth, k_mth, k_mth2, e_isin, k_is, e_pick, k_pick, k_pick2, es_nil, es_cons, k_es, k_es2, o_none, o_some, k_o, c_none, c_some, i_seq, k_seqT, k_seqL, i_r1, k_r1, i_r2, k_r2, k_r3, i_zip, k_zip, k_zipT, k_zipL, i_enum, k_enum, s_asg, k_asg, s_own, k_own2, k_slotL, k_slotD, k_slotV, s_par, k_par, k_par2, s_frz, s_app, k_app, k_app2, s_ife, k_ifeT, k_ifeF, s_whl, k_w, k_wT, k_wF, k_wN, k_wR, s_ret, k_ret, s_exp, k_exp, s_setC, k_setC, k_cup0, k_cup1, s_ap, k_ap, k_ap2, k_ap3, s_rc, k_rc, ss_nil, ss_cons, k_ssN, k_ssR, finR_rt, finR_nx, pureR_some, varv_0, varv_s, borv_0, borv_0o, borv_s, truth, startP, List.map_cons, List.map_nil, List.replicate_succ, List.replicate_zero, List.cons_append, List.nil_append, Nat.reduceSub, Nat.reduceAdd, bindT, bindTs, optS_some, List.set_cons_succ, List.set_cons_zero, wipeP, mkTup_0, mkTup_1, mkTup_2, mkTup_3, mkTup_4, mkTup_5, mkTup_6, mkTup_7, mkTup_8, mkLst_0, mkLst_1, mkLst_2, mkLst_3, mkLst_4, mkLst_5, mkLst_6, mkLst_7, mkLst_8, mkLst_9, mkLst_10, mkLst_11, mkLst_12, mkLst_13, mkLst_14, mkLst_15, mkLst_16, binop, cmpop, blV, Option.map_some, isTy, bltop, Bool.not_true, Bool.not_false, item_0, item_1, item_2, item_3, item_c0, item_c1, Option.bind_some, List.getElem?_cons_zero, List.getElem?_cons_succ, if_true, if_false, Bool.false_eq_true, and_self, dat_int, dat_bl, dat_non, peq_int, peq_bl, peq_nonnon, Int.cast_ofNat_Int, Int.reduceEq, Bool.and_self, List.length_cons, List.length_nil, Int.reduceLT, Int.reduceLE, Int.reduceAdd, Int.reduceSub, Nat.reduceLT, Nat.reduceLeDiff, decide_true, decide_false, Bool.or_true, Bool.true_or, true_and, and_true, b_answer_of, t0, ok_pairs, ok_takes, peq_str, n_tp, pin_two, hp, ho, false_and, b_ff]
  | tie p o v =>
    obtain ⟨h1, h2, h3, h4⟩ := hd
    unfold deedV ans
    have m1 := f_mm k p o c
    have pq : peq (prV (mm p o)) (.tup [.int a, .int b]) = decide (mm p o = (a, b)) := peq_pr _ (a, b)
    by_cases hm : mm p o = (a, b)
    · rw [hm] at m1 pq
      rw [decide_eq_true rfl] at pq
      rcases h4 with rfl | rfl | rfl
      · simp -implicitDefEqProofs only [e_con, e_var, e_bor, e_bin, k_bin, k_bin2, e_cmp, k_cmp, k_cmp2, e_neg, k_neg, e_nt, k_nt, k_truth, k_optB, e_and, k_and, k_andT, k_andF, e_or, k_or, k_orT, k_orF, e_ite, k_iteT, k_iteF, e_chain, k_ch, k_ch2, k_ch3T, k_ch3F, e_tup, k_tup, e_lst, k_lst, e_ix, k_ix, k_ix2, e_sl, k_sl, k_sl2, k_sl3, e_call, k_call, e_blt, k_blt, e_mth, k_mth, k_mth2, e_isin, k_is, e_pick, k_pick, k_pick2, es_nil, es_cons, k_es, k_es2, o_none, o_some, k_o, c_none, c_some, i_seq, k_seqT, k_seqL, i_r1, k_r1, i_r2, k_r2, k_r3, i_zip, k_zip, k_zipT, k_zipL, i_enum, k_enum, s_asg, k_asg, s_own, k_own2, k_slotL, k_slotD, k_slotV, s_par, k_par, k_par2, s_frz, s_app, k_app, k_app2, s_ife, k_ifeT, k_ifeF, s_whl, k_w, k_wT, k_wF, k_wN, k_wR, s_ret, k_ret, s_exp, k_exp, s_setC, k_setC, k_cup0, k_cup1, s_ap, k_ap, k_ap2, k_ap3, s_rc, k_rc, ss_nil, ss_cons, k_ssN, k_ssR, finR_rt, finR_nx, pureR_some, varv_0, varv_s, borv_0, borv_0o, borv_s, truth, startP, List.map_cons, List.map_nil, List.replicate_succ, List.replicate_zero, List.cons_append, List.nil_append, Nat.reduceSub, Nat.reduceAdd, bindT, bindTs, optS_some, List.set_cons_succ, List.set_cons_zero, wipeP, mkTup_0, mkTup_1, mkTup_2, mkTup_3, mkTup_4, mkTup_5, mkTup_6, mkTup_7, mkTup_8, mkLst_0, mkLst_1, mkLst_2, mkLst_3, mkLst_4, mkLst_5, mkLst_6, mkLst_7, mkLst_8, mkLst_9, mkLst_10, mkLst_11, mkLst_12, mkLst_13, mkLst_14, mkLst_15, mkLst_16, binop, cmpop, blV, Option.map_some, isTy, bltop, Bool.not_true, Bool.not_false, item_0, item_1, item_2, item_3, item_c0, item_c1, Option.bind_some, List.getElem?_cons_zero, List.getElem?_cons_succ, if_true, if_false, Bool.false_eq_true, and_self, dat_int, dat_bl, dat_non, peq_int, peq_bl, peq_nonnon, Int.cast_ofNat_Int, Int.reduceEq, Bool.and_self, List.length_cons, List.length_nil, Int.reduceLT, Int.reduceLE, Int.reduceAdd, Int.reduceSub, Nat.reduceLT, Nat.reduceLeDiff, decide_true, decide_false, Bool.or_true, Bool.true_or, true_and, and_true, b_answer_of, t0, ok_pairs, ok_takes, ok_tie, peq_str, n_ip, n_it, m1, dat_pr, dat_pr2, pq, hm, ok_turn, ok_know, n_kt]
      · simp -implicitDefEqProofs only [e_con, e_var, e_bor, e_bin, k_bin, k_bin2, e_cmp, k_cmp, k_cmp2, e_neg, k_neg, e_nt, k_nt, k_truth, k_optB, e_and, k_and, k_andT, k_andF, e_or, k_or, k_orT, k_orF, e_ite, k_iteT, k_iteF, e_chain, k_ch, k_ch2, k_ch3T, k_ch3F, e_tup, k_tup, e_lst, k_lst, e_ix, k_ix, k_ix2, e_sl, k_sl, k_sl2, k_sl3, e_call, k_call, e_blt, k_blt, e_mth, k_mth, k_mth2, e_isin, k_is, e_pick, k_pick, k_pick2, es_nil, es_cons, k_es, k_es2, o_none, o_some, k_o, c_none, c_some, i_seq, k_seqT, k_seqL, i_r1, k_r1, i_r2, k_r2, k_r3, i_zip, k_zip, k_zipT, k_zipL, i_enum, k_enum, s_asg, k_asg, s_own, k_own2, k_slotL, k_slotD, k_slotV, s_par, k_par, k_par2, s_frz, s_app, k_app, k_app2, s_ife, k_ifeT, k_ifeF, s_whl, k_w, k_wT, k_wF, k_wN, k_wR, s_ret, k_ret, s_exp, k_exp, s_setC, k_setC, k_cup0, k_cup1, s_ap, k_ap, k_ap2, k_ap3, s_rc, k_rc, ss_nil, ss_cons, k_ssN, k_ssR, finR_rt, finR_nx, pureR_some, varv_0, varv_s, borv_0, borv_0o, borv_s, truth, startP, List.map_cons, List.map_nil, List.replicate_succ, List.replicate_zero, List.cons_append, List.nil_append, Nat.reduceSub, Nat.reduceAdd, bindT, bindTs, optS_some, List.set_cons_succ, List.set_cons_zero, wipeP, mkTup_0, mkTup_1, mkTup_2, mkTup_3, mkTup_4, mkTup_5, mkTup_6, mkTup_7, mkTup_8, mkLst_0, mkLst_1, mkLst_2, mkLst_3, mkLst_4, mkLst_5, mkLst_6, mkLst_7, mkLst_8, mkLst_9, mkLst_10, mkLst_11, mkLst_12, mkLst_13, mkLst_14, mkLst_15, mkLst_16, binop, cmpop, blV, Option.map_some, isTy, bltop, Bool.not_true, Bool.not_false, item_0, item_1, item_2, item_3, item_c0, item_c1, Option.bind_some, List.getElem?_cons_zero, List.getElem?_cons_succ, if_true, if_false, Bool.false_eq_true, and_self, dat_int, dat_bl, dat_non, peq_int, peq_bl, peq_nonnon, Int.cast_ofNat_Int, Int.reduceEq, Bool.and_self, List.length_cons, List.length_nil, Int.reduceLT, Int.reduceLE, Int.reduceAdd, Int.reduceSub, Nat.reduceLT, Nat.reduceLeDiff, decide_true, decide_false, Bool.or_true, Bool.true_or, true_and, and_true, b_answer_of, t0, ok_pairs, ok_takes, ok_tie, peq_str, n_ip, n_it, m1, dat_pr, dat_pr2, pq, hm, ok_turn, ok_know, ok_part, n_pu, n_pk]
      · simp -implicitDefEqProofs only [e_con, e_var, e_bor, e_bin, k_bin, k_bin2, e_cmp, k_cmp, k_cmp2, e_neg, k_neg, e_nt, k_nt, k_truth, k_optB, e_and, k_and, k_andT, k_andF, e_or, k_or, k_orT, k_orF, e_ite, k_iteT, k_iteF, e_chain, k_ch, k_ch2, k_ch3T, k_ch3F, e_tup, k_tup, e_lst, k_lst, e_ix, k_ix, k_ix2, e_sl, k_sl, k_sl2, k_sl3, e_call, k_call, e_blt, k_blt, e_mth, k_mth, k_mth2, e_isin, k_is, e_pick, k_pick, k_pick2, es_nil, es_cons, k_es, k_es2, o_none, o_some, k_o, c_none, c_some, i_seq, k_seqT, k_seqL, i_r1, k_r1, i_r2, k_r2, k_r3, i_zip, k_zip, k_zipT, k_zipL, i_enum, k_enum, s_asg, k_asg, s_own, k_own2, k_slotL, k_slotD, k_slotV, s_par, k_par, k_par2, s_frz, s_app, k_app, k_app2, s_ife, k_ifeT, k_ifeF, s_whl, k_w, k_wT, k_wF, k_wN, k_wR, s_ret, k_ret, s_exp, k_exp, s_setC, k_setC, k_cup0, k_cup1, s_ap, k_ap, k_ap2, k_ap3, s_rc, k_rc, ss_nil, ss_cons, k_ssN, k_ssR, finR_rt, finR_nx, pureR_some, varv_0, varv_s, borv_0, borv_0o, borv_s, truth, startP, List.map_cons, List.map_nil, List.replicate_succ, List.replicate_zero, List.cons_append, List.nil_append, Nat.reduceSub, Nat.reduceAdd, bindT, bindTs, optS_some, List.set_cons_succ, List.set_cons_zero, wipeP, mkTup_0, mkTup_1, mkTup_2, mkTup_3, mkTup_4, mkTup_5, mkTup_6, mkTup_7, mkTup_8, mkLst_0, mkLst_1, mkLst_2, mkLst_3, mkLst_4, mkLst_5, mkLst_6, mkLst_7, mkLst_8, mkLst_9, mkLst_10, mkLst_11, mkLst_12, mkLst_13, mkLst_14, mkLst_15, mkLst_16, binop, cmpop, blV, Option.map_some, isTy, bltop, Bool.not_true, Bool.not_false, item_0, item_1, item_2, item_3, item_c0, item_c1, Option.bind_some, List.getElem?_cons_zero, List.getElem?_cons_succ, if_true, if_false, Bool.false_eq_true, and_self, dat_int, dat_bl, dat_non, peq_int, peq_bl, peq_nonnon, Int.cast_ofNat_Int, Int.reduceEq, Bool.and_self, List.length_cons, List.length_nil, Int.reduceLT, Int.reduceLE, Int.reduceAdd, Int.reduceSub, Nat.reduceLT, Nat.reduceLeDiff, decide_true, decide_false, Bool.or_true, Bool.true_or, true_and, and_true, b_answer_of, t0, ok_pairs, ok_takes, ok_tie, peq_str, n_ip, n_it, m1, dat_pr, dat_pr2, pq, hm, ok_turn, ok_know]
    · simp -implicitDefEqProofs only [e_con, e_var, e_bor, e_bin, k_bin, k_bin2, e_cmp, k_cmp, k_cmp2, e_neg, k_neg, e_nt, k_nt, k_truth, k_optB, e_and, k_and, k_andT, k_andF, e_or, k_or, k_orT, k_orF, e_ite, k_iteT, k_iteF, e_chain, k_ch, k_ch2, k_ch3T, k_ch3F, e_tup, k_tup, e_lst, k_lst, e_ix, k_ix, k_ix2, e_sl, k_sl, k_sl2, k_sl3, e_call, k_call, e_blt, k_blt, e_mth, k_mth, k_mth2, e_isin, k_is, e_pick, k_pick, k_pick2, es_nil, es_cons, k_es, k_es2, o_none, o_some, k_o, c_none, c_some, i_seq, k_seqT, k_seqL, i_r1, k_r1, i_r2, k_r2, k_r3, i_zip, k_zip, k_zipT, k_zipL, i_enum, k_enum, s_asg, k_asg, s_own, k_own2, k_slotL, k_slotD, k_slotV, s_par, k_par, k_par2, s_frz, s_app, k_app, k_app2, s_ife, k_ifeT, k_ifeF, s_whl, k_w, k_wT, k_wF, k_wN, k_wR, s_ret, k_ret, s_exp, k_exp, s_setC, k_setC, k_cup0, k_cup1, s_ap, k_ap, k_ap2, k_ap3, s_rc, k_rc, ss_nil, ss_cons, k_ssN, k_ssR, finR_rt, finR_nx, pureR_some, varv_0, varv_s, borv_0, borv_0o, borv_s, truth, startP, List.map_cons, List.map_nil, List.replicate_succ, List.replicate_zero, List.cons_append, List.nil_append, Nat.reduceSub, Nat.reduceAdd, bindT, bindTs, optS_some, List.set_cons_succ, List.set_cons_zero, wipeP, mkTup_0, mkTup_1, mkTup_2, mkTup_3, mkTup_4, mkTup_5, mkTup_6, mkTup_7, mkTup_8, mkLst_0, mkLst_1, mkLst_2, mkLst_3, mkLst_4, mkLst_5, mkLst_6, mkLst_7, mkLst_8, mkLst_9, mkLst_10, mkLst_11, mkLst_12, mkLst_13, mkLst_14, mkLst_15, mkLst_16, binop, cmpop, blV, Option.map_some, isTy, bltop, Bool.not_true, Bool.not_false, item_0, item_1, item_2, item_3, item_c0, item_c1, Option.bind_some, List.getElem?_cons_zero, List.getElem?_cons_succ, if_true, if_false, Bool.false_eq_true, and_self, dat_int, dat_bl, dat_non, peq_int, peq_bl, peq_nonnon, Int.cast_ofNat_Int, Int.reduceEq, Bool.and_self, List.length_cons, List.length_nil, Int.reduceLT, Int.reduceLE, Int.reduceAdd, Int.reduceSub, Nat.reduceLT, Nat.reduceLeDiff, decide_true, decide_false, Bool.or_true, Bool.true_or, true_and, and_true, b_answer_of, t0, ok_pairs, ok_takes, ok_tie, peq_str, n_ip, n_it, m1, dat_pr, dat_pr2, pq, hm]
/-! K08C: scripts of deeds done. -/
def behP (n : Nat) (ps : List (Int × Int)) (d : Dd) : List (Int × Int) := (prs n).filter (ans ps d)
theorem behP_com {named n : Nat} {ps : List (Int × Int)} (h : Com named n ps) (d : Dd) : Com named n (behP n ps d) := ⟨h.a, h.b, h.c, h.d, List.filter_sublist⟩
theorem f_behind {named n : Nat} {ps : List (Int × Int)} (h : Com named n ps) (k : Nat) (d : Dd) (hd : DOk named d) (c : List PV) :
    callK P (k + 3) n_behind [cmpV n ps, deedV d] c = .ok (cmpV n (behP n ps d)) c := by
  have hn := h.d
  have e0 : evalE (callK P (k + 2)) b_behind_c0 [.val (cmpV n ps), .val (deedV d), .val (tiesV n ps), .val (.lst ((prs n).map prV)), .no] c = .ok (.lst ((prs n).map fun p => .tup [prV p, .bl (ans ps d p)])) c := by
    refine comp_map (prs n) prV _ ?_ (fun x hx => ⟨_, rfl, ?_⟩) (by have := prs_len hn; unfold LIM; omega)
    · simp -implicitDefEqProofs only [e_con, e_var, e_bor, e_bin, k_bin, k_bin2, e_cmp, k_cmp, k_cmp2, e_neg, k_neg, e_nt, k_nt, k_truth, k_optB, e_and, k_and, k_andT, k_andF, e_or, k_or, k_orT, k_orF, e_ite, k_iteT, k_iteF, e_chain, k_ch, k_ch2, k_ch3T, k_ch3F, e_tup, k_tup, e_lst, k_lst, e_ix, k_ix, k_ix2, e_sl, k_sl, k_sl2, k_sl3, e_call, k_call, e_blt, k_blt, e_mth, k_mth, k_mth2, e_isin, k_is, e_pick, k_pick, k_pick2, es_nil, es_cons, k_es, k_es2, o_none, o_some, k_o, c_none, c_some, i_seq, k_seqT, k_seqL, i_r1, k_r1, i_r2, k_r2, k_r3, i_zip, k_zip, k_zipT, k_zipL, i_enum, k_enum, s_asg, k_asg, s_own, k_own2, k_slotL, k_slotD, k_slotV, s_par, k_par, k_par2, s_frz, s_app, k_app, k_app2, s_ife, k_ifeT, k_ifeF, s_whl, k_w, k_wT, k_wF, k_wN, k_wR, s_ret, k_ret, s_exp, k_exp, s_setC, k_setC, k_cup0, k_cup1, s_ap, k_ap, k_ap2, k_ap3, s_rc, k_rc, ss_nil, ss_cons, k_ssN, k_ssR, finR_rt, finR_nx, pureR_some, varv_0, varv_s, borv_0, borv_0o, borv_s, truth, startP, List.map_cons, List.map_nil, List.replicate_succ, List.replicate_zero, List.cons_append, List.nil_append, Nat.reduceSub, Nat.reduceAdd, bindT, bindTs, optS_some, List.set_cons_succ, List.set_cons_zero, wipeP, mkTup_0, mkTup_1, mkTup_2, mkTup_3, mkTup_4, mkTup_5, mkTup_6, mkTup_7, mkTup_8, mkLst_0, mkLst_1, mkLst_2, mkLst_3, mkLst_4, mkLst_5, mkLst_6, mkLst_7, mkLst_8, mkLst_9, mkLst_10, mkLst_11, mkLst_12, mkLst_13, mkLst_14, mkLst_15, mkLst_16, binop, cmpop, blV, Option.map_some, isTy, bltop, Bool.not_true, Bool.not_false, item_0, item_1, item_2, item_3, item_c0, item_c1, Option.bind_some, List.getElem?_cons_zero, List.getElem?_cons_succ, if_true, if_false, Bool.false_eq_true, and_self, dat_int, dat_bl, dat_non, peq_int, peq_bl, peq_nonnon, Int.cast_ofNat_Int, Int.reduceEq, Bool.and_self, List.length_cons, List.length_nil, Int.reduceLT, Int.reduceLE, Int.reduceAdd, Int.reduceSub, Nat.reduceLT, Nat.reduceLeDiff, decide_true, decide_false, Bool.or_true, Bool.true_or, true_and, and_true]
    · have e := f_answer_of h k d hd x hx c
      have e5 : prV x = .tup [.int x.1, .int x.2] := rfl
      rw [e5]
      simp -implicitDefEqProofs only [e_con, e_var, e_bor, e_bin, k_bin, k_bin2, e_cmp, k_cmp, k_cmp2, e_neg, k_neg, e_nt, k_nt, k_truth, k_optB, e_and, k_and, k_andT, k_andF, e_or, k_or, k_orT, k_orF, e_ite, k_iteT, k_iteF, e_chain, k_ch, k_ch2, k_ch3T, k_ch3F, e_tup, k_tup, e_lst, k_lst, e_ix, k_ix, k_ix2, e_sl, k_sl, k_sl2, k_sl3, e_call, k_call, e_blt, k_blt, e_mth, k_mth, k_mth2, e_isin, k_is, e_pick, k_pick, k_pick2, es_nil, es_cons, k_es, k_es2, o_none, o_some, k_o, c_none, c_some, i_seq, k_seqT, k_seqL, i_r1, k_r1, i_r2, k_r2, k_r3, i_zip, k_zip, k_zipT, k_zipL, i_enum, k_enum, s_asg, k_asg, s_own, k_own2, k_slotL, k_slotD, k_slotV, s_par, k_par, k_par2, s_frz, s_app, k_app, k_app2, s_ife, k_ifeT, k_ifeF, s_whl, k_w, k_wT, k_wF, k_wN, k_wR, s_ret, k_ret, s_exp, k_exp, s_setC, k_setC, k_cup0, k_cup1, s_ap, k_ap, k_ap2, k_ap3, s_rc, k_rc, ss_nil, ss_cons, k_ssN, k_ssR, finR_rt, finR_nx, pureR_some, varv_0, varv_s, borv_0, borv_0o, borv_s, truth, startP, List.map_cons, List.map_nil, List.replicate_succ, List.replicate_zero, List.cons_append, List.nil_append, Nat.reduceSub, Nat.reduceAdd, bindT, bindTs, optS_some, List.set_cons_succ, List.set_cons_zero, wipeP, mkTup_0, mkTup_1, mkTup_2, mkTup_3, mkTup_4, mkTup_5, mkTup_6, mkTup_7, mkTup_8, mkLst_0, mkLst_1, mkLst_2, mkLst_3, mkLst_4, mkLst_5, mkLst_6, mkLst_7, mkLst_8, mkLst_9, mkLst_10, mkLst_11, mkLst_12, mkLst_13, mkLst_14, mkLst_15, mkLst_16, binop, cmpop, blV, Option.map_some, isTy, bltop, Bool.not_true, Bool.not_false, item_0, item_1, item_2, item_3, item_c0, item_c1, Option.bind_some, List.getElem?_cons_zero, List.getElem?_cons_succ, if_true, if_false, Bool.false_eq_true, and_self, dat_int, dat_bl, dat_non, peq_int, peq_bl, peq_nonnon, Int.cast_ofNat_Int, Int.reduceEq, Bool.and_self, List.length_cons, List.length_nil, Int.reduceLT, Int.reduceLE, Int.reduceAdd, Int.reduceSub, Nat.reduceLT, Nat.reduceLeDiff, decide_true, decide_false, Bool.or_true, Bool.true_or, true_and, and_true, e]
  refine call_ok rfl rfl ?_
  have e1 := f_ties_in (n := n) (ps := ps) k c hn
  have e2 := f_pairs_of (k + 1) n c hn
  have e4 := dict_prs (fun p => .bl (ans ps d p)) (prs_nodup hn) (prs_len hn)
  have e5 := f_company_by k n (ans ps d) _ c hn fun p hp => item_dic (g := fun p => .bl (ans ps d p)) hp
  have e6 : item (cmpV n ps) (.int 0) c = some (.int n) := rfl
  simp -implicitDefEqProofs only [e_con, e_var, e_bor, e_bin, k_bin, k_bin2, e_cmp, k_cmp, k_cmp2, e_neg, k_neg, e_nt, k_nt, k_truth, k_optB, e_and, k_and, k_andT, k_andF, e_or, k_or, k_orT, k_orF, e_ite, k_iteT, k_iteF, e_chain, k_ch, k_ch2, k_ch3T, k_ch3F, e_tup, k_tup, e_lst, k_lst, e_ix, k_ix, k_ix2, e_sl, k_sl, k_sl2, k_sl3, e_call, k_call, e_blt, k_blt, e_mth, k_mth, k_mth2, e_isin, k_is, e_pick, k_pick, k_pick2, es_nil, es_cons, k_es, k_es2, o_none, o_some, k_o, c_none, c_some, i_seq, k_seqT, k_seqL, i_r1, k_r1, i_r2, k_r2, k_r3, i_zip, k_zip, k_zipT, k_zipL, i_enum, k_enum, s_asg, k_asg, s_own, k_own2, k_slotL, k_slotD, k_slotV, s_par, k_par, k_par2, s_frz, s_app, k_app, k_app2, s_ife, k_ifeT, k_ifeF, s_whl, k_w, k_wT, k_wF, k_wN, k_wR, s_ret, k_ret, s_exp, k_exp, s_setC, k_setC, k_cup0, k_cup1, s_ap, k_ap, k_ap2, k_ap3, s_rc, k_rc, ss_nil, ss_cons, k_ssN, k_ssR, finR_rt, finR_nx, pureR_some, varv_0, varv_s, borv_0, borv_0o, borv_s, truth, startP, List.map_cons, List.map_nil, List.replicate_succ, List.replicate_zero, List.cons_append, List.nil_append, Nat.reduceSub, Nat.reduceAdd, bindT, bindTs, optS_some, List.set_cons_succ, List.set_cons_zero, wipeP, mkTup_0, mkTup_1, mkTup_2, mkTup_3, mkTup_4, mkTup_5, mkTup_6, mkTup_7, mkTup_8, mkLst_0, mkLst_1, mkLst_2, mkLst_3, mkLst_4, mkLst_5, mkLst_6, mkLst_7, mkLst_8, mkLst_9, mkLst_10, mkLst_11, mkLst_12, mkLst_13, mkLst_14, mkLst_15, mkLst_16, binop, cmpop, blV, Option.map_some, isTy, bltop, Bool.not_true, Bool.not_false, item_0, item_1, item_2, item_3, item_c0, item_c1, Option.bind_some, List.getElem?_cons_zero, List.getElem?_cons_succ, if_true, if_false, Bool.false_eq_true, and_self, dat_int, dat_bl, dat_non, peq_int, peq_bl, peq_nonnon, Int.cast_ofNat_Int, Int.reduceEq, Bool.and_self, List.length_cons, List.length_nil, Int.reduceLT, Int.reduceLE, Int.reduceAdd, Int.reduceSub, Nat.reduceLT, Nat.reduceLeDiff, decide_true, decide_false, Bool.or_true, Bool.true_or, true_and, and_true, b_behind, e1, e6, e2, e0, e4, e5, behP]
/-! ### scripts of deeds alone -/
def headS : Dd → Str
  | .pairs _ _ => "pairs"
  | .takes _ _ _ => "takes"
  | .tie _ _ _ => "tie"
theorem head_dat (d : Dd) : dat (.str (headS d)) = true := by
  cases d
  · exact ok_pairs
  · exact ok_takes
  · exact ok_tie
theorem head_ask (d : Dd) : (headS d = "ask") = False := by
  cases d
  · exact n_pa
  · exact n_ta
  · exact n_ia
theorem item_head (d : Dd) (c : List PV) : item (deedV d) (.int 0) c = some (.str (headS d)) := by cases d <;> rfl
theorem small_ints (n : Nat) (as : List Int) : small (n + 1) (.tup (as.map .int)) = true := by
  rw [small, List.all_map, List.all_eq_true]
  intro a _
  cases n <;> rfl
theorem small_str {n : Nat} {s : Str} (h : dat (.str s) = true) : small n (.str s) = true := by cases n <;> exact h
theorem small_int {n : Nat} {i : Int} : small n (.int i) = true := by cases n <;> rfl
theorem word_dat {v : Str} (h : wordOk v) : dat (.str v) = true := by
  rcases h with rfl | rfl | rfl
  · exact ok_know
  · exact ok_part
  · exact ok_turn
theorem small_deed {named : Nat} {d : Dd} (h : DOk named d) (n : Nat) : small (n + 2) (deedV d) = true := by
  cases d with
  | pairs p as => unfold deedV; rw [small]; simp [small_str ok_pairs, small_int, small_ints]
  | takes p o as => unfold deedV; rw [small]; simp [small_str ok_takes, small_int, small_ints]
  | tie p o v => unfold deedV; rw [small]; simp [small_str ok_tie, small_int, small_str (word_dat h.2.2.2)]
theorem small_deeds {named : Nat} {ds : List Dd} (h : ∀ d ∈ ds, DOk named d) (n : Nat) : (ds.map deedV).all (small (n + 2)) = true := by
  rw [List.all_map, List.all_eq_true]
  intro d hd
  exact small_deed (h d hd) n
theorem peq_cons_nil {x : PV} {xs : List PV} : peq (.lst (x :: xs)) (.lst []) = false := by rw [peq]; rfl
theorem peq_nil_nil : peq (.lst []) (.lst []) = true := by rw [peq]; rfl
section
variable {named : Nat} {ds : List Dd}
theorem dat_deeds (h : ∀ d ∈ ds, DOk named d) : dat (.lst (ds.map deedV)) = true := small_deeds h 57
theorem dat_line (h : ∀ d ∈ ds, DOk named d) : dat (.lst [.tup [.tup (ds.map deedV), .int 0]]) = true := by
  show (small 59 (.tup [.tup (ds.map deedV), .int 0]) && true) = true
  rw [small]
  simp only [List.all_cons, List.all_nil, Bool.and_true, small_int]
  rw [small, small_deeds h 55]
theorem f_fits_choice (k : Nat) (d : Dd) (c : List PV) : callK P (k + 2) n_fits_choice [.int named, deedV d] c = .ok (.bl false) c := by
  refine call_ok rfl rfl ?_
  have e1 := f_is_tuple_of k (deedV d) 5 5 c (by cases d <;> rfl)
  rw [show tupB (deedV d) 5 5 = false by cases d <;> rfl] at e1
  simp -implicitDefEqProofs only [e_con, e_var, e_bor, e_bin, k_bin, k_bin2, e_cmp, k_cmp, k_cmp2, e_neg, k_neg, e_nt, k_nt, k_truth, k_optB, e_and, k_and, k_andT, k_andF, e_or, k_or, k_orT, k_orF, e_ite, k_iteT, k_iteF, e_chain, k_ch, k_ch2, k_ch3T, k_ch3F, e_tup, k_tup, e_lst, k_lst, e_ix, k_ix, k_ix2, e_sl, k_sl, k_sl2, k_sl3, e_call, k_call, e_blt, k_blt, e_mth, k_mth, k_mth2, e_isin, k_is, e_pick, k_pick, k_pick2, es_nil, es_cons, k_es, k_es2, o_none, o_some, k_o, c_none, c_some, i_seq, k_seqT, k_seqL, i_r1, k_r1, i_r2, k_r2, k_r3, i_zip, k_zip, k_zipT, k_zipL, i_enum, k_enum, s_asg, k_asg, s_own, k_own2, k_slotL, k_slotD, k_slotV, s_par, k_par, k_par2, s_frz, s_app, k_app, k_app2, s_ife, k_ifeT, k_ifeF, s_whl, k_w, k_wT, k_wF, k_wN, k_wR, s_ret, k_ret, s_exp, k_exp, s_setC, k_setC, k_cup0, k_cup1, s_ap, k_ap, k_ap2, k_ap3, s_rc, k_rc, ss_nil, ss_cons, k_ssN, k_ssR, finR_rt, finR_nx, pureR_some, varv_0, varv_s, borv_0, borv_0o, borv_s, truth, startP, List.map_cons, List.map_nil, List.replicate_succ, List.replicate_zero, List.cons_append, List.nil_append, Nat.reduceSub, Nat.reduceAdd, bindT, bindTs, optS_some, List.set_cons_succ, List.set_cons_zero, wipeP, mkTup_0, mkTup_1, mkTup_2, mkTup_3, mkTup_4, mkTup_5, mkTup_6, mkTup_7, mkTup_8, mkLst_0, mkLst_1, mkLst_2, mkLst_3, mkLst_4, mkLst_5, mkLst_6, mkLst_7, mkLst_8, mkLst_9, mkLst_10, mkLst_11, mkLst_12, mkLst_13, mkLst_14, mkLst_15, mkLst_16, binop, cmpop, blV, Option.map_some, isTy, bltop, Bool.not_true, Bool.not_false, item_0, item_1, item_2, item_3, item_c0, item_c1, Option.bind_some, List.getElem?_cons_zero, List.getElem?_cons_succ, if_true, if_false, Bool.false_eq_true, and_self, dat_int, dat_bl, dat_non, peq_int, peq_bl, peq_nonnon, Int.cast_ofNat_Int, Int.reduceEq, Bool.and_self, List.length_cons, List.length_nil, Int.reduceLT, Int.reduceLE, Int.reduceAdd, Int.reduceSub, Nat.reduceLT, Nat.reduceLeDiff, decide_true, decide_false, Bool.or_true, Bool.true_or, true_and, and_true, b_fits_choice, e1]
theorem f_items_in (h : ∀ d ∈ ds, DOk named d) (hl : ds.length ≤ 30) (k : Nat) (c : List PV) : callK P (k + 5) n_items_in [.int named, .tup (ds.map deedV)] c = .ok (.lst (ds.map fun d => .tup [deedV d, .int 0])) c := by
  have e0 : evalE (callK P (k + 4)) b_items_in_c0 [.val (.int named), .val (.tup (ds.map deedV)), .val (.lst []), .val (.lst []), .val (.tup (ds.map deedV)), .val (.int 0), .no] c = .ok (.lst (ds.map fun d => .tup [deedV d, .int 0])) c := by
    refine comp_map ds deedV _ ?_ (fun x hm => ⟨_, rfl, ?_⟩) (by unfold LIM; omega)
    · simp -implicitDefEqProofs only [e_con, e_var, e_bor, e_bin, k_bin, k_bin2, e_cmp, k_cmp, k_cmp2, e_neg, k_neg, e_nt, k_nt, k_truth, k_optB, e_and, k_and, k_andT, k_andF, e_or, k_or, k_orT, k_orF, e_ite, k_iteT, k_iteF, e_chain, k_ch, k_ch2, k_ch3T, k_ch3F, e_tup, k_tup, e_lst, k_lst, e_ix, k_ix, k_ix2, e_sl, k_sl, k_sl2, k_sl3, e_call, k_call, e_blt, k_blt, e_mth, k_mth, k_mth2, e_isin, k_is, e_pick, k_pick, k_pick2, es_nil, es_cons, k_es, k_es2, o_none, o_some, k_o, c_none, c_some, i_seq, k_seqT, k_seqL, i_r1, k_r1, i_r2, k_r2, k_r3, i_zip, k_zip, k_zipT, k_zipL, i_enum, k_enum, s_asg, k_asg, s_own, k_own2, k_slotL, k_slotD, k_slotV, s_par, k_par, k_par2, s_frz, s_app, k_app, k_app2, s_ife, k_ifeT, k_ifeF, s_whl, k_w, k_wT, k_wF, k_wN, k_wR, s_ret, k_ret, s_exp, k_exp, s_setC, k_setC, k_cup0, k_cup1, s_ap, k_ap, k_ap2, k_ap3, s_rc, k_rc, ss_nil, ss_cons, k_ssN, k_ssR, finR_rt, finR_nx, pureR_some, varv_0, varv_s, borv_0, borv_0o, borv_s, truth, startP, List.map_cons, List.map_nil, List.replicate_succ, List.replicate_zero, List.cons_append, List.nil_append, Nat.reduceSub, Nat.reduceAdd, bindT, bindTs, optS_some, List.set_cons_succ, List.set_cons_zero, wipeP, mkTup_0, mkTup_1, mkTup_2, mkTup_3, mkTup_4, mkTup_5, mkTup_6, mkTup_7, mkTup_8, mkLst_0, mkLst_1, mkLst_2, mkLst_3, mkLst_4, mkLst_5, mkLst_6, mkLst_7, mkLst_8, mkLst_9, mkLst_10, mkLst_11, mkLst_12, mkLst_13, mkLst_14, mkLst_15, mkLst_16, binop, cmpop, blV, Option.map_some, isTy, bltop, Bool.not_true, Bool.not_false, item_0, item_1, item_2, item_3, item_c0, item_c1, Option.bind_some, List.getElem?_cons_zero, List.getElem?_cons_succ, if_true, if_false, Bool.false_eq_true, and_self, dat_int, dat_bl, dat_non, peq_int, peq_bl, peq_nonnon, Int.cast_ofNat_Int, Int.reduceEq, Bool.and_self, List.length_cons, List.length_nil, Int.reduceLT, Int.reduceLE, Int.reduceAdd, Int.reduceSub, Nat.reduceLT, Nat.reduceLeDiff, decide_true, decide_false, Bool.or_true, Bool.true_or, true_and, and_true]
    · simp -implicitDefEqProofs only [e_con, e_var, e_bor, e_bin, k_bin, k_bin2, e_cmp, k_cmp, k_cmp2, e_neg, k_neg, e_nt, k_nt, k_truth, k_optB, e_and, k_and, k_andT, k_andF, e_or, k_or, k_orT, k_orF, e_ite, k_iteT, k_iteF, e_chain, k_ch, k_ch2, k_ch3T, k_ch3F, e_tup, k_tup, e_lst, k_lst, e_ix, k_ix, k_ix2, e_sl, k_sl, k_sl2, k_sl3, e_call, k_call, e_blt, k_blt, e_mth, k_mth, k_mth2, e_isin, k_is, e_pick, k_pick, k_pick2, es_nil, es_cons, k_es, k_es2, o_none, o_some, k_o, c_none, c_some, i_seq, k_seqT, k_seqL, i_r1, k_r1, i_r2, k_r2, k_r3, i_zip, k_zip, k_zipT, k_zipL, i_enum, k_enum, s_asg, k_asg, s_own, k_own2, k_slotL, k_slotD, k_slotV, s_par, k_par, k_par2, s_frz, s_app, k_app, k_app2, s_ife, k_ifeT, k_ifeF, s_whl, k_w, k_wT, k_wF, k_wN, k_wR, s_ret, k_ret, s_exp, k_exp, s_setC, k_setC, k_cup0, k_cup1, s_ap, k_ap, k_ap2, k_ap3, s_rc, k_rc, ss_nil, ss_cons, k_ssN, k_ssR, finR_rt, finR_nx, pureR_some, varv_0, varv_s, borv_0, borv_0o, borv_s, truth, startP, List.map_cons, List.map_nil, List.replicate_succ, List.replicate_zero, List.cons_append, List.nil_append, Nat.reduceSub, Nat.reduceAdd, bindT, bindTs, optS_some, List.set_cons_succ, List.set_cons_zero, wipeP, mkTup_0, mkTup_1, mkTup_2, mkTup_3, mkTup_4, mkTup_5, mkTup_6, mkTup_7, mkTup_8, mkLst_0, mkLst_1, mkLst_2, mkLst_3, mkLst_4, mkLst_5, mkLst_6, mkLst_7, mkLst_8, mkLst_9, mkLst_10, mkLst_11, mkLst_12, mkLst_13, mkLst_14, mkLst_15, mkLst_16, binop, cmpop, blV, Option.map_some, isTy, bltop, Bool.not_true, Bool.not_false, item_0, item_1, item_2, item_3, item_c0, item_c1, Option.bind_some, List.getElem?_cons_zero, List.getElem?_cons_succ, if_true, if_false, Bool.false_eq_true, and_self, dat_int, dat_bl, dat_non, peq_int, peq_bl, peq_nonnon, Int.cast_ofNat_Int, Int.reduceEq, Bool.and_self, List.length_cons, List.length_nil, Int.reduceLT, Int.reduceLE, Int.reduceAdd, Int.reduceSub, Nat.reduceLT, Nat.reduceLeDiff, decide_true, decide_false, Bool.or_true, Bool.true_or, true_and, and_true]
  generalize hF : (ds.map fun d => PV.tup [deedV d, .int 0]) = F at e0
  have hFl : F.length = ds.length := by rw [← hF, List.length_map]
  obtain ⟨env', c', e1, s6, rfl, rfl⟩ := fr_fold (C := callK P (k + 4)) (t := .name 6) (b := b_items_in_l0) (it := .seq (.var 4)) (φ := deedV) (as := ds) (S := Unit) (g := fun s _ => s) (s := ()) (c0 := c) (c := c)
    (I := fun _ env c' => ∃ s6, env = [.val (.int named), .val (.tup (ds.map deedV)), .val (.lst F), .val (.lst []), .val (.tup (ds.map deedV)), .val (.int 0), s6] ∧ c' = c)
    (env := [.val (.int named), .val (.tup (ds.map deedV)), .val (.lst F), .val (.lst []), .val (.tup (ds.map deedV)), .val (.int 0), .no]) ⟨_, rfl, rfl⟩ (by simp -implicitDefEqProofs only [e_con, e_var, e_bor, e_bin, k_bin, k_bin2, e_cmp, k_cmp, k_cmp2, e_neg, k_neg, e_nt, k_nt, k_truth, k_optB, e_and, k_and, k_andT, k_andF, e_or, k_or, k_orT, k_orF, e_ite, k_iteT, k_iteF, e_chain, k_ch, k_ch2, k_ch3T, k_ch3F, e_tup, k_tup, e_lst, k_lst, e_ix, k_ix, k_ix2, e_sl, k_sl, k_sl2, k_sl3, e_call, k_call, e_blt, k_blt, e_mth, k_mth, k_mth2, e_isin, k_is, e_pick, k_pick, k_pick2, es_nil, es_cons, k_es, k_es2, o_none, o_some, k_o, c_none, c_some, i_seq, k_seqT, k_seqL, i_r1, k_r1, i_r2, k_r2, k_r3, i_zip, k_zip, k_zipT, k_zipL, i_enum, k_enum, s_asg, k_asg, s_own, k_own2, k_slotL, k_slotD, k_slotV, s_par, k_par, k_par2, s_frz, s_app, k_app, k_app2, s_ife, k_ifeT, k_ifeF, s_whl, k_w, k_wT, k_wF, k_wN, k_wR, s_ret, k_ret, s_exp, k_exp, s_setC, k_setC, k_cup0, k_cup1, s_ap, k_ap, k_ap2, k_ap3, s_rc, k_rc, ss_nil, ss_cons, k_ssN, k_ssR, finR_rt, finR_nx, pureR_some, varv_0, varv_s, borv_0, borv_0o, borv_s, truth, startP, List.map_cons, List.map_nil, List.replicate_succ, List.replicate_zero, List.cons_append, List.nil_append, Nat.reduceSub, Nat.reduceAdd, bindT, bindTs, optS_some, List.set_cons_succ, List.set_cons_zero, wipeP, mkTup_0, mkTup_1, mkTup_2, mkTup_3, mkTup_4, mkTup_5, mkTup_6, mkTup_7, mkTup_8, mkLst_0, mkLst_1, mkLst_2, mkLst_3, mkLst_4, mkLst_5, mkLst_6, mkLst_7, mkLst_8, mkLst_9, mkLst_10, mkLst_11, mkLst_12, mkLst_13, mkLst_14, mkLst_15, mkLst_16, binop, cmpop, blV, Option.map_some, isTy, bltop, Bool.not_true, Bool.not_false, item_0, item_1, item_2, item_3, item_c0, item_c1, Option.bind_some, List.getElem?_cons_zero, List.getElem?_cons_succ, if_true, if_false, Bool.false_eq_true, and_self, dat_int, dat_bl, dat_non, peq_int, peq_bl, peq_nonnon, Int.cast_ofNat_Int, Int.reduceEq, Bool.and_self, List.length_cons, List.length_nil, Int.reduceLT, Int.reduceLE, Int.reduceAdd, Int.reduceSub, Nat.reduceLT, Nat.reduceLeDiff, decide_true, decide_false, Bool.or_true, Bool.true_or, true_and, and_true])
    fun d hd _ env c' ⟨s6, he, hc⟩ => by
      subst he hc
      have q1 := f_fits_choice (named := named) (k + 2) d c'
      have q2 := f_fits_deed k named d c' (h d hd)
      refine ⟨_, rfl, [.val (.int named), .val (.tup (ds.map deedV)), .val (.lst F), .val (.lst []), .val (.tup (ds.map deedV)), .val (.int 0), .val (deedV d)], c', ?_, _, rfl, rfl⟩
      simp only [List.set_cons_succ, List.set_cons_zero]
      simp -implicitDefEqProofs only [e_con, e_var, e_bor, e_bin, k_bin, k_bin2, e_cmp, k_cmp, k_cmp2, e_neg, k_neg, e_nt, k_nt, k_truth, k_optB, e_and, k_and, k_andT, k_andF, e_or, k_or, k_orT, k_orF, e_ite, k_iteT, k_iteF, e_chain, k_ch, k_ch2, k_ch3T, k_ch3F, e_tup, k_tup, e_lst, k_lst, e_ix, k_ix, k_ix2, e_sl, k_sl, k_sl2, k_sl3, e_call, k_call, e_blt, k_blt, e_mth, k_mth, k_mth2, e_isin, k_is, e_pick, k_pick, k_pick2, es_nil, es_cons, k_es, k_es2, o_none, o_some, k_o, c_none, c_some, i_seq, k_seqT, k_seqL, i_r1, k_r1, i_r2, k_r2, k_r3, i_zip, k_zip, k_zipT, k_zipL, i_enum, k_enum, s_asg, k_asg, s_own, k_own2, k_slotL, k_slotD, k_slotV, s_par, k_par, k_par2, s_frz, s_app, k_app, k_app2, s_ife, k_ifeT, k_ifeF, s_whl, k_w, k_wT, k_wF, k_wN, k_wR, s_ret, k_ret, s_exp, k_exp, s_setC, k_setC, k_cup0, k_cup1, s_ap, k_ap, k_ap2, k_ap3, s_rc, k_rc, ss_nil, ss_cons, k_ssN, k_ssR, finR_rt, finR_nx, pureR_some, varv_0, varv_s, borv_0, borv_0o, borv_s, truth, startP, List.map_cons, List.map_nil, List.replicate_succ, List.replicate_zero, List.cons_append, List.nil_append, Nat.reduceSub, Nat.reduceAdd, bindT, bindTs, optS_some, List.set_cons_succ, List.set_cons_zero, wipeP, mkTup_0, mkTup_1, mkTup_2, mkTup_3, mkTup_4, mkTup_5, mkTup_6, mkTup_7, mkTup_8, mkLst_0, mkLst_1, mkLst_2, mkLst_3, mkLst_4, mkLst_5, mkLst_6, mkLst_7, mkLst_8, mkLst_9, mkLst_10, mkLst_11, mkLst_12, mkLst_13, mkLst_14, mkLst_15, mkLst_16, binop, cmpop, blV, Option.map_some, isTy, bltop, Bool.not_true, Bool.not_false, item_0, item_1, item_2, item_3, item_c0, item_c1, Option.bind_some, List.getElem?_cons_zero, List.getElem?_cons_succ, if_true, if_false, Bool.false_eq_true, and_self, dat_int, dat_bl, dat_non, peq_int, peq_bl, peq_nonnon, Int.cast_ofNat_Int, Int.reduceEq, Bool.and_self, List.length_cons, List.length_nil, Int.reduceLT, Int.reduceLE, Int.reduceAdd, Int.reduceSub, Nat.reduceLT, Nat.reduceLeDiff, decide_true, decide_false, Bool.or_true, Bool.true_or, true_and, and_true, b_items_in_l0, q1, q2]
  have e2 : execS (callK P (k + 4)) b_items_in_f0 [.val (.int named), .val (.tup (ds.map deedV)), .val (.lst F), .val (.lst []), .val (.tup (ds.map deedV)), .val (.int 0), .no] c' = .nx [.val (.int named), .val (.tup (ds.map deedV)), .val (.lst F), .val (.lst []), .val (.tup (ds.map deedV)), .val (.int 0), s6] c' := e1
  have e3 := dat_line h
  have e4 : mkLst F = some (.lst F) := mkLst_s (by unfold LIM; omega)
  have e5 : ¬ (30 : Int) < F.length := by omega
  have e6 : item (.lst [.tup [.tup (ds.map deedV), .int 0]]) (.int 0) c' = some (.tup [.tup (ds.map deedV), .int 0]) := rfl
  refine call_ok rfl rfl ?_
  simp -implicitDefEqProofs only [e_con, e_var, e_bor, e_bin, k_bin, k_bin2, e_cmp, k_cmp, k_cmp2, e_neg, k_neg, e_nt, k_nt, k_truth, k_optB, e_and, k_and, k_andT, k_andF, e_or, k_or, k_orT, k_orF, e_ite, k_iteT, k_iteF, e_chain, k_ch, k_ch2, k_ch3T, k_ch3F, e_tup, k_tup, e_lst, k_lst, e_ix, k_ix, k_ix2, e_sl, k_sl, k_sl2, k_sl3, e_call, k_call, e_blt, k_blt, e_mth, k_mth, k_mth2, e_isin, k_is, e_pick, k_pick, k_pick2, es_nil, es_cons, k_es, k_es2, o_none, o_some, k_o, c_none, c_some, i_seq, k_seqT, k_seqL, i_r1, k_r1, i_r2, k_r2, k_r3, i_zip, k_zip, k_zipT, k_zipL, i_enum, k_enum, s_asg, k_asg, s_own, k_own2, k_slotL, k_slotD, k_slotV, s_par, k_par, k_par2, s_frz, s_app, k_app, k_app2, s_ife, k_ifeT, k_ifeF, s_whl, k_w, k_wT, k_wF, k_wN, k_wR, s_ret, k_ret, s_exp, k_exp, s_setC, k_setC, k_cup0, k_cup1, s_ap, k_ap, k_ap2, k_ap3, s_rc, k_rc, ss_nil, ss_cons, k_ssN, k_ssR, finR_rt, finR_nx, pureR_some, varv_0, varv_s, borv_0, borv_0o, borv_s, truth, startP, List.map_cons, List.map_nil, List.replicate_succ, List.replicate_zero, List.cons_append, List.nil_append, Nat.reduceSub, Nat.reduceAdd, bindT, bindTs, optS_some, List.set_cons_succ, List.set_cons_zero, wipeP, mkTup_0, mkTup_1, mkTup_2, mkTup_3, mkTup_4, mkTup_5, mkTup_6, mkTup_7, mkTup_8, mkLst_0, mkLst_1, mkLst_2, mkLst_3, mkLst_4, mkLst_5, mkLst_6, mkLst_7, mkLst_8, mkLst_9, mkLst_10, mkLst_11, mkLst_12, mkLst_13, mkLst_14, mkLst_15, mkLst_16, binop, cmpop, blV, Option.map_some, isTy, bltop, Bool.not_true, Bool.not_false, item_0, item_1, item_2, item_3, item_c0, item_c1, Option.bind_some, List.getElem?_cons_zero, List.getElem?_cons_succ, if_true, if_false, Bool.false_eq_true, and_self, dat_int, dat_bl, dat_non, peq_int, peq_bl, peq_nonnon, Int.cast_ofNat_Int, Int.reduceEq, Bool.and_self, List.length_cons, List.length_nil, Int.reduceLT, Int.reduceLE, Int.reduceAdd, Int.reduceSub, Nat.reduceLT, Nat.reduceLeDiff, decide_true, decide_false, Bool.or_true, Bool.true_or, true_and, and_true, b_items_in, b_items_in_w0, b_items_in_l1, e3, dat_nil, peq_cons_nil, peq_nil_nil, e6, slice, cut1, List.drop_succ_cons, List.drop_zero, e0, e4, e5, e2]
theorem f_need_script (h : ∀ d ∈ ds, DOk named d) (hl : ds.length ≤ 30) (k : Nat) (c : List PV) : callK P (k + 7) n_need_script [.int named, .tup (ds.map deedV)] c = .ok .non c := by
  have e1 := f_items_in h hl k c
  have e2 : evalE (callK P (k + 5)) b_fits_script_c0 [.val (.int named), .val (.tup (ds.map deedV)), .val (.lst (ds.map fun d => .tup [deedV d, .int 0])), .no, .no] c = .ok (.lst ((ds.filter fun _ => false).map fun _ => .bl true)) c := by
    refine comp_pure ds (fun d => .tup [deedV d, .int 0]) (fun _ => false) (fun _ => .bl true) ?_ (fun x hm => ⟨_, rfl, ?_, fun z => nomatch z⟩) (by unfold LIM; omega)
    · simp -implicitDefEqProofs only [e_con, e_var, e_bor, e_bin, k_bin, k_bin2, e_cmp, k_cmp, k_cmp2, e_neg, k_neg, e_nt, k_nt, k_truth, k_optB, e_and, k_and, k_andT, k_andF, e_or, k_or, k_orT, k_orF, e_ite, k_iteT, k_iteF, e_chain, k_ch, k_ch2, k_ch3T, k_ch3F, e_tup, k_tup, e_lst, k_lst, e_ix, k_ix, k_ix2, e_sl, k_sl, k_sl2, k_sl3, e_call, k_call, e_blt, k_blt, e_mth, k_mth, k_mth2, e_isin, k_is, e_pick, k_pick, k_pick2, es_nil, es_cons, k_es, k_es2, o_none, o_some, k_o, c_none, c_some, i_seq, k_seqT, k_seqL, i_r1, k_r1, i_r2, k_r2, k_r3, i_zip, k_zip, k_zipT, k_zipL, i_enum, k_enum, s_asg, k_asg, s_own, k_own2, k_slotL, k_slotD, k_slotV, s_par, k_par, k_par2, s_frz, s_app, k_app, k_app2, s_ife, k_ifeT, k_ifeF, s_whl, k_w, k_wT, k_wF, k_wN, k_wR, s_ret, k_ret, s_exp, k_exp, s_setC, k_setC, k_cup0, k_cup1, s_ap, k_ap, k_ap2, k_ap3, s_rc, k_rc, ss_nil, ss_cons, k_ssN, k_ssR, finR_rt, finR_nx, pureR_some, varv_0, varv_s, borv_0, borv_0o, borv_s, truth, startP, List.map_cons, List.map_nil, List.replicate_succ, List.replicate_zero, List.cons_append, List.nil_append, Nat.reduceSub, Nat.reduceAdd, bindT, bindTs, optS_some, List.set_cons_succ, List.set_cons_zero, wipeP, mkTup_0, mkTup_1, mkTup_2, mkTup_3, mkTup_4, mkTup_5, mkTup_6, mkTup_7, mkTup_8, mkLst_0, mkLst_1, mkLst_2, mkLst_3, mkLst_4, mkLst_5, mkLst_6, mkLst_7, mkLst_8, mkLst_9, mkLst_10, mkLst_11, mkLst_12, mkLst_13, mkLst_14, mkLst_15, mkLst_16, binop, cmpop, blV, Option.map_some, isTy, bltop, Bool.not_true, Bool.not_false, item_0, item_1, item_2, item_3, item_c0, item_c1, Option.bind_some, List.getElem?_cons_zero, List.getElem?_cons_succ, if_true, if_false, Bool.false_eq_true, and_self, dat_int, dat_bl, dat_non, peq_int, peq_bl, peq_nonnon, Int.cast_ofNat_Int, Int.reduceEq, Bool.and_self, List.length_cons, List.length_nil, Int.reduceLT, Int.reduceLE, Int.reduceAdd, Int.reduceSub, Nat.reduceLT, Nat.reduceLeDiff, decide_true, decide_false, Bool.or_true, Bool.true_or, true_and, and_true]
    · have := head_ask x
      simp -implicitDefEqProofs only [e_con, e_var, e_bor, e_bin, k_bin, k_bin2, e_cmp, k_cmp, k_cmp2, e_neg, k_neg, e_nt, k_nt, k_truth, k_optB, e_and, k_and, k_andT, k_andF, e_or, k_or, k_orT, k_orF, e_ite, k_iteT, k_iteF, e_chain, k_ch, k_ch2, k_ch3T, k_ch3F, e_tup, k_tup, e_lst, k_lst, e_ix, k_ix, k_ix2, e_sl, k_sl, k_sl2, k_sl3, e_call, k_call, e_blt, k_blt, e_mth, k_mth, k_mth2, e_isin, k_is, e_pick, k_pick, k_pick2, es_nil, es_cons, k_es, k_es2, o_none, o_some, k_o, c_none, c_some, i_seq, k_seqT, k_seqL, i_r1, k_r1, i_r2, k_r2, k_r3, i_zip, k_zip, k_zipT, k_zipL, i_enum, k_enum, s_asg, k_asg, s_own, k_own2, k_slotL, k_slotD, k_slotV, s_par, k_par, k_par2, s_frz, s_app, k_app, k_app2, s_ife, k_ifeT, k_ifeF, s_whl, k_w, k_wT, k_wF, k_wN, k_wR, s_ret, k_ret, s_exp, k_exp, s_setC, k_setC, k_cup0, k_cup1, s_ap, k_ap, k_ap2, k_ap3, s_rc, k_rc, ss_nil, ss_cons, k_ssN, k_ssR, finR_rt, finR_nx, pureR_some, varv_0, varv_s, borv_0, borv_0o, borv_s, truth, startP, List.map_cons, List.map_nil, List.replicate_succ, List.replicate_zero, List.cons_append, List.nil_append, Nat.reduceSub, Nat.reduceAdd, bindT, bindTs, optS_some, List.set_cons_succ, List.set_cons_zero, wipeP, mkTup_0, mkTup_1, mkTup_2, mkTup_3, mkTup_4, mkTup_5, mkTup_6, mkTup_7, mkTup_8, mkLst_0, mkLst_1, mkLst_2, mkLst_3, mkLst_4, mkLst_5, mkLst_6, mkLst_7, mkLst_8, mkLst_9, mkLst_10, mkLst_11, mkLst_12, mkLst_13, mkLst_14, mkLst_15, mkLst_16, binop, cmpop, blV, Option.map_some, isTy, bltop, Bool.not_true, Bool.not_false, item_0, item_1, item_2, item_3, item_c0, item_c1, Option.bind_some, List.getElem?_cons_zero, List.getElem?_cons_succ, if_true, if_false, Bool.false_eq_true, and_self, dat_int, dat_bl, dat_non, peq_int, peq_bl, peq_nonnon, Int.cast_ofNat_Int, Int.reduceEq, Bool.and_self, List.length_cons, List.length_nil, Int.reduceLT, Int.reduceLE, Int.reduceAdd, Int.reduceSub, Nat.reduceLT, Nat.reduceLeDiff, decide_true, decide_false, Bool.or_true, Bool.true_or, true_and, and_true, item_head, head_dat, ok_ask, peq_str, this]
  have e3 : ds.filter (fun _ => false) = [] := by simp
  rw [e3] at e2
  have e4 : callK P (k + 6) n_fits_script [.int named, .tup (ds.map deedV)] c = .ok (.bl true) c := by
    refine call_ok rfl rfl ?_
    simp -implicitDefEqProofs only [e_con, e_var, e_bor, e_bin, k_bin, k_bin2, e_cmp, k_cmp, k_cmp2, e_neg, k_neg, e_nt, k_nt, k_truth, k_optB, e_and, k_and, k_andT, k_andF, e_or, k_or, k_orT, k_orF, e_ite, k_iteT, k_iteF, e_chain, k_ch, k_ch2, k_ch3T, k_ch3F, e_tup, k_tup, e_lst, k_lst, e_ix, k_ix, k_ix2, e_sl, k_sl, k_sl2, k_sl3, e_call, k_call, e_blt, k_blt, e_mth, k_mth, k_mth2, e_isin, k_is, e_pick, k_pick, k_pick2, es_nil, es_cons, k_es, k_es2, o_none, o_some, k_o, c_none, c_some, i_seq, k_seqT, k_seqL, i_r1, k_r1, i_r2, k_r2, k_r3, i_zip, k_zip, k_zipT, k_zipL, i_enum, k_enum, s_asg, k_asg, s_own, k_own2, k_slotL, k_slotD, k_slotV, s_par, k_par, k_par2, s_frz, s_app, k_app, k_app2, s_ife, k_ifeT, k_ifeF, s_whl, k_w, k_wT, k_wF, k_wN, k_wR, s_ret, k_ret, s_exp, k_exp, s_setC, k_setC, k_cup0, k_cup1, s_ap, k_ap, k_ap2, k_ap3, s_rc, k_rc, ss_nil, ss_cons, k_ssN, k_ssR, finR_rt, finR_nx, pureR_some, varv_0, varv_s, borv_0, borv_0o, borv_s, truth, startP, List.map_cons, List.map_nil, List.replicate_succ, List.replicate_zero, List.cons_append, List.nil_append, Nat.reduceSub, Nat.reduceAdd, bindT, bindTs, optS_some, List.set_cons_succ, List.set_cons_zero, wipeP, mkTup_0, mkTup_1, mkTup_2, mkTup_3, mkTup_4, mkTup_5, mkTup_6, mkTup_7, mkTup_8, mkLst_0, mkLst_1, mkLst_2, mkLst_3, mkLst_4, mkLst_5, mkLst_6, mkLst_7, mkLst_8, mkLst_9, mkLst_10, mkLst_11, mkLst_12, mkLst_13, mkLst_14, mkLst_15, mkLst_16, binop, cmpop, blV, Option.map_some, isTy, bltop, Bool.not_true, Bool.not_false, item_0, item_1, item_2, item_3, item_c0, item_c1, Option.bind_some, List.getElem?_cons_zero, List.getElem?_cons_succ, if_true, if_false, Bool.false_eq_true, and_self, dat_int, dat_bl, dat_non, peq_int, peq_bl, peq_nonnon, Int.cast_ofNat_Int, Int.reduceEq, Bool.and_self, List.length_cons, List.length_nil, Int.reduceLT, Int.reduceLE, Int.reduceAdd, Int.reduceSub, Nat.reduceLT, Nat.reduceLeDiff, decide_true, decide_false, Bool.or_true, Bool.true_or, true_and, and_true, b_fits_script, e1, pis, e2, asBools, List.all_nil]
  refine call_ok rfl rfl ?_
  simp -implicitDefEqProofs only [e_con, e_var, e_bor, e_bin, k_bin, k_bin2, e_cmp, k_cmp, k_cmp2, e_neg, k_neg, e_nt, k_nt, k_truth, k_optB, e_and, k_and, k_andT, k_andF, e_or, k_or, k_orT, k_orF, e_ite, k_iteT, k_iteF, e_chain, k_ch, k_ch2, k_ch3T, k_ch3F, e_tup, k_tup, e_lst, k_lst, e_ix, k_ix, k_ix2, e_sl, k_sl, k_sl2, k_sl3, e_call, k_call, e_blt, k_blt, e_mth, k_mth, k_mth2, e_isin, k_is, e_pick, k_pick, k_pick2, es_nil, es_cons, k_es, k_es2, o_none, o_some, k_o, c_none, c_some, i_seq, k_seqT, k_seqL, i_r1, k_r1, i_r2, k_r2, k_r3, i_zip, k_zip, k_zipT, k_zipL, i_enum, k_enum, s_asg, k_asg, s_own, k_own2, k_slotL, k_slotD, k_slotV, s_par, k_par, k_par2, s_frz, s_app, k_app, k_app2, s_ife, k_ifeT, k_ifeF, s_whl, k_w, k_wT, k_wF, k_wN, k_wR, s_ret, k_ret, s_exp, k_exp, s_setC, k_setC, k_cup0, k_cup1, s_ap, k_ap, k_ap2, k_ap3, s_rc, k_rc, ss_nil, ss_cons, k_ssN, k_ssR, finR_rt, finR_nx, pureR_some, varv_0, varv_s, borv_0, borv_0o, borv_s, truth, startP, List.map_cons, List.map_nil, List.replicate_succ, List.replicate_zero, List.cons_append, List.nil_append, Nat.reduceSub, Nat.reduceAdd, bindT, bindTs, optS_some, List.set_cons_succ, List.set_cons_zero, wipeP, mkTup_0, mkTup_1, mkTup_2, mkTup_3, mkTup_4, mkTup_5, mkTup_6, mkTup_7, mkTup_8, mkLst_0, mkLst_1, mkLst_2, mkLst_3, mkLst_4, mkLst_5, mkLst_6, mkLst_7, mkLst_8, mkLst_9, mkLst_10, mkLst_11, mkLst_12, mkLst_13, mkLst_14, mkLst_15, mkLst_16, binop, cmpop, blV, Option.map_some, isTy, bltop, Bool.not_true, Bool.not_false, item_0, item_1, item_2, item_3, item_c0, item_c1, Option.bind_some, List.getElem?_cons_zero, List.getElem?_cons_succ, if_true, if_false, Bool.false_eq_true, and_self, dat_int, dat_bl, dat_non, peq_int, peq_bl, peq_nonnon, Int.cast_ofNat_Int, Int.reduceEq, Bool.and_self, List.length_cons, List.length_nil, Int.reduceLT, Int.reduceLE, Int.reduceAdd, Int.reduceSub, Nat.reduceLT, Nat.reduceLeDiff, decide_true, decide_false, Bool.or_true, Bool.true_or, true_and, and_true, b_need_script, e4]
theorem f_need_three {n : Nat} {ps : List (Int × Int)} (hc : Com named n ps) (h : ∀ d ∈ ds, DOk named d) (hl : ds.length ≤ 30) (k : Nat) (c : List PV) : callK P (k + 8) n_need_three [.int named, cmpV n ps, .tup (ds.map deedV)] c = .ok .non c := by
  refine call_ok rfl rfl ?_
  have e1 := f_need_named (k + 5) named c hc.a hc.b
  have e2 := f_need_company hc (k + 2) c
  have e3 := f_need_script h hl k c
  simp -implicitDefEqProofs only [e_con, e_var, e_bor, e_bin, k_bin, k_bin2, e_cmp, k_cmp, k_cmp2, e_neg, k_neg, e_nt, k_nt, k_truth, k_optB, e_and, k_and, k_andT, k_andF, e_or, k_or, k_orT, k_orF, e_ite, k_iteT, k_iteF, e_chain, k_ch, k_ch2, k_ch3T, k_ch3F, e_tup, k_tup, e_lst, k_lst, e_ix, k_ix, k_ix2, e_sl, k_sl, k_sl2, k_sl3, e_call, k_call, e_blt, k_blt, e_mth, k_mth, k_mth2, e_isin, k_is, e_pick, k_pick, k_pick2, es_nil, es_cons, k_es, k_es2, o_none, o_some, k_o, c_none, c_some, i_seq, k_seqT, k_seqL, i_r1, k_r1, i_r2, k_r2, k_r3, i_zip, k_zip, k_zipT, k_zipL, i_enum, k_enum, s_asg, k_asg, s_own, k_own2, k_slotL, k_slotD, k_slotV, s_par, k_par, k_par2, s_frz, s_app, k_app, k_app2, s_ife, k_ifeT, k_ifeF, s_whl, k_w, k_wT, k_wF, k_wN, k_wR, s_ret, k_ret, s_exp, k_exp, s_setC, k_setC, k_cup0, k_cup1, s_ap, k_ap, k_ap2, k_ap3, s_rc, k_rc, ss_nil, ss_cons, k_ssN, k_ssR, finR_rt, finR_nx, pureR_some, varv_0, varv_s, borv_0, borv_0o, borv_s, truth, startP, List.map_cons, List.map_nil, List.replicate_succ, List.replicate_zero, List.cons_append, List.nil_append, Nat.reduceSub, Nat.reduceAdd, bindT, bindTs, optS_some, List.set_cons_succ, List.set_cons_zero, wipeP, mkTup_0, mkTup_1, mkTup_2, mkTup_3, mkTup_4, mkTup_5, mkTup_6, mkTup_7, mkTup_8, mkLst_0, mkLst_1, mkLst_2, mkLst_3, mkLst_4, mkLst_5, mkLst_6, mkLst_7, mkLst_8, mkLst_9, mkLst_10, mkLst_11, mkLst_12, mkLst_13, mkLst_14, mkLst_15, mkLst_16, binop, cmpop, blV, Option.map_some, isTy, bltop, Bool.not_true, Bool.not_false, item_0, item_1, item_2, item_3, item_c0, item_c1, Option.bind_some, List.getElem?_cons_zero, List.getElem?_cons_succ, if_true, if_false, Bool.false_eq_true, and_self, dat_int, dat_bl, dat_non, peq_int, peq_bl, peq_nonnon, Int.cast_ofNat_Int, Int.reduceEq, Bool.and_self, List.length_cons, List.length_nil, Int.reduceLT, Int.reduceLE, Int.reduceAdd, Int.reduceSub, Nat.reduceLT, Nat.reduceLeDiff, decide_true, decide_false, Bool.or_true, Bool.true_or, true_and, and_true, b_need_three, e1, e2, e3]
/-- what comes of ties by deeds -/
def runP (n : Nat) : List (Int × Int) → List Dd → List (Int × Int)
  | ps, [] => ps
  | ps, d :: ds => runP n (behP n ps d) ds
theorem run_com {n : Nat} : ∀ {ps : List (Int × Int)} {ds : List Dd}, Com named n ps → Com named n (runP n ps ds)
  | _, [], h => h
  | _, d :: ds, h => run_com (ds := ds) (behP_com h d)
theorem run_loop (k : Nat) (s : PV) {n : Nat} (c : List PV) : ∀ (ds : List Dd) (m : Nat) (ps : List (Int × Int)) (F : List PV) (s4 : Slot), Com named n ps → (∀ d ∈ ds, DOk named d) → F.length + ds.length ≤ LIM → ∃ s4',
    kW (callK P (k + 3)) (.cmp .ne (.var 3) (.lst [])) b_run_by_l0 (m + ds.length + 1) [.val (cmpV n ps), .val s, .val (.lst F), .val (.lst (ds.map deedV)), s4] c = .nx [.val (cmpV n (runP n ps ds)), .val s, .val (.lst (F ++ ds.map deedV)), .val (.lst []), s4'] c
  | [], m, ps, F, s4, _, _, _ => by
    refine ⟨s4, ?_⟩
    simp -implicitDefEqProofs only [e_con, e_var, e_bor, e_bin, k_bin, k_bin2, e_cmp, k_cmp, k_cmp2, e_neg, k_neg, e_nt, k_nt, k_truth, k_optB, e_and, k_and, k_andT, k_andF, e_or, k_or, k_orT, k_orF, e_ite, k_iteT, k_iteF, e_chain, k_ch, k_ch2, k_ch3T, k_ch3F, e_tup, k_tup, e_lst, k_lst, e_ix, k_ix, k_ix2, e_sl, k_sl, k_sl2, k_sl3, e_call, k_call, e_blt, k_blt, e_mth, k_mth, k_mth2, e_isin, k_is, e_pick, k_pick, k_pick2, es_nil, es_cons, k_es, k_es2, o_none, o_some, k_o, c_none, c_some, i_seq, k_seqT, k_seqL, i_r1, k_r1, i_r2, k_r2, k_r3, i_zip, k_zip, k_zipT, k_zipL, i_enum, k_enum, s_asg, k_asg, s_own, k_own2, k_slotL, k_slotD, k_slotV, s_par, k_par, k_par2, s_frz, s_app, k_app, k_app2, s_ife, k_ifeT, k_ifeF, s_whl, k_w, k_wT, k_wF, k_wN, k_wR, s_ret, k_ret, s_exp, k_exp, s_setC, k_setC, k_cup0, k_cup1, s_ap, k_ap, k_ap2, k_ap3, s_rc, k_rc, ss_nil, ss_cons, k_ssN, k_ssR, finR_rt, finR_nx, pureR_some, varv_0, varv_s, borv_0, borv_0o, borv_s, truth, startP, List.map_cons, List.map_nil, List.replicate_succ, List.replicate_zero, List.cons_append, List.nil_append, Nat.reduceSub, Nat.reduceAdd, bindT, bindTs, optS_some, List.set_cons_succ, List.set_cons_zero, wipeP, mkTup_0, mkTup_1, mkTup_2, mkTup_3, mkTup_4, mkTup_5, mkTup_6, mkTup_7, mkTup_8, mkLst_0, mkLst_1, mkLst_2, mkLst_3, mkLst_4, mkLst_5, mkLst_6, mkLst_7, mkLst_8, mkLst_9, mkLst_10, mkLst_11, mkLst_12, mkLst_13, mkLst_14, mkLst_15, mkLst_16, binop, cmpop, blV, Option.map_some, isTy, bltop, Bool.not_true, Bool.not_false, item_0, item_1, item_2, item_3, item_c0, item_c1, Option.bind_some, List.getElem?_cons_zero, List.getElem?_cons_succ, if_true, if_false, Bool.false_eq_true, and_self, dat_int, dat_bl, dat_non, peq_int, peq_bl, peq_nonnon, Int.cast_ofNat_Int, Int.reduceEq, Bool.and_self, List.length_cons, List.length_nil, Int.reduceLT, Int.reduceLE, Int.reduceAdd, Int.reduceSub, Nat.reduceLT, Nat.reduceLeDiff, decide_true, decide_false, Bool.or_true, Bool.true_or, true_and, and_true, dat_nil, peq_nil_nil, List.append_nil, runP]
  | d :: ds, m, ps, F, s4, hc, hd, hl => by
    rw [List.length_cons] at hl
    have e0 := dat_deeds hd
    rw [List.map_cons] at e0
    have e1 : ∀ c, item (.lst (deedV d :: ds.map deedV)) (.int 0) c = some (deedV d) := fun c => item_lst (i := 0) rfl
    have e2 := f_behind hc k d (hd d (List.mem_cons_self ..)) c
    have e3 := mkLst_s (xs := F ++ [deedV d]) (by rw [List.length_append, List.length_singleton]; omega)
    have e4 := head_ask d
    obtain ⟨s4', ih⟩ := run_loop k s c ds m (behP n ps d) (F ++ [deedV d]) (.val (deedV d)) (behP_com hc d) (fun x hx => hd x (List.mem_cons_of_mem _ hx)) (by rw [List.length_append, List.length_singleton]; omega)
    refine ⟨s4', ?_⟩
    rw [List.length_cons, show m + (ds.length + 1) + 1 = (m + ds.length + 1) + 1 by omega, List.map_cons]
    generalize m + ds.length + 1 = N at ih ⊢
    unfold b_run_by_l0 at ih ⊢
    simp -implicitDefEqProofs only [e_con, e_var, e_bor, e_bin, k_bin, k_bin2, e_cmp, k_cmp, k_cmp2, e_neg, k_neg, e_nt, k_nt, k_truth, k_optB, e_and, k_and, k_andT, k_andF, e_or, k_or, k_orT, k_orF, e_ite, k_iteT, k_iteF, e_chain, k_ch, k_ch2, k_ch3T, k_ch3F, e_tup, k_tup, e_lst, k_lst, e_ix, k_ix, k_ix2, e_sl, k_sl, k_sl2, k_sl3, e_call, k_call, e_blt, k_blt, e_mth, k_mth, k_mth2, e_isin, k_is, e_pick, k_pick, k_pick2, es_nil, es_cons, k_es, k_es2, o_none, o_some, k_o, c_none, c_some, i_seq, k_seqT, k_seqL, i_r1, k_r1, i_r2, k_r2, k_r3, i_zip, k_zip, k_zipT, k_zipL, i_enum, k_enum, s_asg, k_asg, s_own, k_own2, k_slotL, k_slotD, k_slotV, s_par, k_par, k_par2, s_frz, s_app, k_app, k_app2, s_ife, k_ifeT, k_ifeF, s_whl, k_w, k_wT, k_wF, k_wN, k_wR, s_ret, k_ret, s_exp, k_exp, s_setC, k_setC, k_cup0, k_cup1, s_ap, k_ap, k_ap2, k_ap3, s_rc, k_rc, ss_nil, ss_cons, k_ssN, k_ssR, finR_rt, finR_nx, pureR_some, varv_0, varv_s, borv_0, borv_0o, borv_s, truth, startP, List.map_cons, List.map_nil, List.replicate_succ, List.replicate_zero, List.cons_append, List.nil_append, Nat.reduceSub, Nat.reduceAdd, bindT, bindTs, optS_some, List.set_cons_succ, List.set_cons_zero, wipeP, mkTup_0, mkTup_1, mkTup_2, mkTup_3, mkTup_4, mkTup_5, mkTup_6, mkTup_7, mkTup_8, mkLst_0, mkLst_1, mkLst_2, mkLst_3, mkLst_4, mkLst_5, mkLst_6, mkLst_7, mkLst_8, mkLst_9, mkLst_10, mkLst_11, mkLst_12, mkLst_13, mkLst_14, mkLst_15, mkLst_16, binop, cmpop, blV, Option.map_some, isTy, bltop, Bool.not_true, Bool.not_false, item_0, item_1, item_2, item_3, item_c0, item_c1, Option.bind_some, List.getElem?_cons_zero, List.getElem?_cons_succ, if_true, if_false, Bool.false_eq_true, and_self, dat_int, dat_bl, dat_non, peq_int, peq_bl, peq_nonnon, Int.cast_ofNat_Int, Int.reduceEq, Bool.and_self, List.length_cons, List.length_nil, Int.reduceLT, Int.reduceLE, Int.reduceAdd, Int.reduceSub, Nat.reduceLT, Nat.reduceLeDiff, decide_true, decide_false, Bool.or_true, Bool.true_or, true_and, and_true, e0, dat_nil, peq_cons_nil, e1, slice, cut1, List.drop_succ_cons, List.drop_zero, item_head, head_dat, ok_ask, peq_str, e4, e2, e3, ih, List.append_assoc, runP]
theorem f_run_by {n : Nat} {ps : List (Int × Int)} (hc : Com named n ps) (h : ∀ d ∈ ds, DOk named d) (hl : ds.length ≤ 30) (k : Nat) (c : List PV) :
    callK P (k + 4) n_run_by [cmpV n ps, .tup (ds.map deedV)] c = .ok (.tup [cmpV n (runP n ps ds), .lst (ds.map deedV)]) c := by
  have hw : WB = 999980 := rfl
  obtain ⟨s4', e⟩ := run_loop k (.tup (ds.map deedV)) c ds (WB + 19 - ds.length) ps [] .no hc h (by unfold LIM; simp; omega)
  rw [show WB + 19 - ds.length + ds.length + 1 = WB + 20 by omega, List.nil_append] at e
  have e2 : execS (callK P (k + 3)) b_run_by_w0 [.val (cmpV n ps), .val (.tup (ds.map deedV)), .val (.lst []), .val (.lst (ds.map deedV)), .no] c = .nx [.val (cmpV n (runP n ps ds)), .val (.tup (ds.map deedV)), .val (.lst (ds.map deedV)), .val (.lst []), s4'] c := s_whl.trans e
  refine call_ok rfl rfl ?_
  simp -implicitDefEqProofs only [e_con, e_var, e_bor, e_bin, k_bin, k_bin2, e_cmp, k_cmp, k_cmp2, e_neg, k_neg, e_nt, k_nt, k_truth, k_optB, e_and, k_and, k_andT, k_andF, e_or, k_or, k_orT, k_orF, e_ite, k_iteT, k_iteF, e_chain, k_ch, k_ch2, k_ch3T, k_ch3F, e_tup, k_tup, e_lst, k_lst, e_ix, k_ix, k_ix2, e_sl, k_sl, k_sl2, k_sl3, e_call, k_call, e_blt, k_blt, e_mth, k_mth, k_mth2, e_isin, k_is, e_pick, k_pick, k_pick2, es_nil, es_cons, k_es, k_es2, o_none, o_some, k_o, c_none, c_some, i_seq, k_seqT, k_seqL, i_r1, k_r1, i_r2, k_r2, k_r3, i_zip, k_zip, k_zipT, k_zipL, i_enum, k_enum, s_asg, k_asg, s_own, k_own2, k_slotL, k_slotD, k_slotV, s_par, k_par, k_par2, s_frz, s_app, k_app, k_app2, s_ife, k_ifeT, k_ifeF, s_whl, k_w, k_wT, k_wF, k_wN, k_wR, s_ret, k_ret, s_exp, k_exp, s_setC, k_setC, k_cup0, k_cup1, s_ap, k_ap, k_ap2, k_ap3, s_rc, k_rc, ss_nil, ss_cons, k_ssN, k_ssR, finR_rt, finR_nx, pureR_some, varv_0, varv_s, borv_0, borv_0o, borv_s, truth, startP, List.map_cons, List.map_nil, List.replicate_succ, List.replicate_zero, List.cons_append, List.nil_append, Nat.reduceSub, Nat.reduceAdd, bindT, bindTs, optS_some, List.set_cons_succ, List.set_cons_zero, wipeP, mkTup_0, mkTup_1, mkTup_2, mkTup_3, mkTup_4, mkTup_5, mkTup_6, mkTup_7, mkTup_8, mkLst_0, mkLst_1, mkLst_2, mkLst_3, mkLst_4, mkLst_5, mkLst_6, mkLst_7, mkLst_8, mkLst_9, mkLst_10, mkLst_11, mkLst_12, mkLst_13, mkLst_14, mkLst_15, mkLst_16, binop, cmpop, blV, Option.map_some, isTy, bltop, Bool.not_true, Bool.not_false, item_0, item_1, item_2, item_3, item_c0, item_c1, Option.bind_some, List.getElem?_cons_zero, List.getElem?_cons_succ, if_true, if_false, Bool.false_eq_true, and_self, dat_int, dat_bl, dat_non, peq_int, peq_bl, peq_nonnon, Int.cast_ofNat_Int, Int.reduceEq, Bool.and_self, List.length_cons, List.length_nil, Int.reduceLT, Int.reduceLE, Int.reduceAdd, Int.reduceSub, Nat.reduceLT, Nat.reduceLeDiff, decide_true, decide_false, Bool.or_true, Bool.true_or, true_and, and_true, b_run_by, e2]
theorem f_done {n : Nat} {ps : List (Int × Int)} (hc : Com named n ps) (h : ∀ d ∈ ds, DOk named d) (hl : ds.length ≤ 30) (k : Nat) (c : List PV) :
    callK P (k + 9) n_done [.int named, cmpV n ps, .tup (ds.map deedV)] c = .ok (cmpV n (runP n ps ds)) c := by
  refine call_ok rfl rfl ?_
  have e1 := f_need_three hc h hl k c
  have e2 := f_run_by hc h hl (k + 4) c
  simp -implicitDefEqProofs only [e_con, e_var, e_bor, e_bin, k_bin, k_bin2, e_cmp, k_cmp, k_cmp2, e_neg, k_neg, e_nt, k_nt, k_truth, k_optB, e_and, k_and, k_andT, k_andF, e_or, k_or, k_orT, k_orF, e_ite, k_iteT, k_iteF, e_chain, k_ch, k_ch2, k_ch3T, k_ch3F, e_tup, k_tup, e_lst, k_lst, e_ix, k_ix, k_ix2, e_sl, k_sl, k_sl2, k_sl3, e_call, k_call, e_blt, k_blt, e_mth, k_mth, k_mth2, e_isin, k_is, e_pick, k_pick, k_pick2, es_nil, es_cons, k_es, k_es2, o_none, o_some, k_o, c_none, c_some, i_seq, k_seqT, k_seqL, i_r1, k_r1, i_r2, k_r2, k_r3, i_zip, k_zip, k_zipT, k_zipL, i_enum, k_enum, s_asg, k_asg, s_own, k_own2, k_slotL, k_slotD, k_slotV, s_par, k_par, k_par2, s_frz, s_app, k_app, k_app2, s_ife, k_ifeT, k_ifeF, s_whl, k_w, k_wT, k_wF, k_wN, k_wR, s_ret, k_ret, s_exp, k_exp, s_setC, k_setC, k_cup0, k_cup1, s_ap, k_ap, k_ap2, k_ap3, s_rc, k_rc, ss_nil, ss_cons, k_ssN, k_ssR, finR_rt, finR_nx, pureR_some, varv_0, varv_s, borv_0, borv_0o, borv_s, truth, startP, List.map_cons, List.map_nil, List.replicate_succ, List.replicate_zero, List.cons_append, List.nil_append, Nat.reduceSub, Nat.reduceAdd, bindT, bindTs, optS_some, List.set_cons_succ, List.set_cons_zero, wipeP, mkTup_0, mkTup_1, mkTup_2, mkTup_3, mkTup_4, mkTup_5, mkTup_6, mkTup_7, mkTup_8, mkLst_0, mkLst_1, mkLst_2, mkLst_3, mkLst_4, mkLst_5, mkLst_6, mkLst_7, mkLst_8, mkLst_9, mkLst_10, mkLst_11, mkLst_12, mkLst_13, mkLst_14, mkLst_15, mkLst_16, binop, cmpop, blV, Option.map_some, isTy, bltop, Bool.not_true, Bool.not_false, item_0, item_1, item_2, item_3, item_c0, item_c1, Option.bind_some, List.getElem?_cons_zero, List.getElem?_cons_succ, if_true, if_false, Bool.false_eq_true, and_self, dat_int, dat_bl, dat_non, peq_int, peq_bl, peq_nonnon, Int.cast_ofNat_Int, Int.reduceEq, Bool.and_self, List.length_cons, List.length_nil, Int.reduceLT, Int.reduceLE, Int.reduceAdd, Int.reduceSub, Nat.reduceLT, Nat.reduceLeDiff, decide_true, decide_false, Bool.or_true, Bool.true_or, true_and, and_true, b_done, e1, e2]
end
/-! K08D: the law's own deeds. -/
theorem cnt_two (x y : Bool) : mthop .count (.lst [.bl x, .bl y]) [.bl true] = some (.int (b2i x + b2i y)) := by
  cases x <;> cases y <;> rfl
theorem recv_count {xs : List PV} : recv .count (.lst xs) = true := rfl
theorem m3f : 3 * b2i false = 0 := rfl
theorem m3t : 3 * b2i true = 3 := rfl
theorem m2f : 2 * b2i false = 0 := rfl
theorem m2t : 2 * b2i true = 2 := rfl
theorem b2t : b2i true = 1 := rfl
theorem b2f : b2i false = 0 := rfl
theorem x00 : 2 * b2i false + b2i false = 0 := rfl
theorem x01 : 2 * b2i false + b2i true = 1 := rfl
theorem x10 : 2 * b2i true + b2i false = 2 := rfl
theorem x11 : 2 * b2i true + b2i true = 3 := rfl
theorem ite3 {b : Bool} {m : Int} : (if b = true then m else 0) = m * b2i b := by cases b <;> simp [b2i]
section
variable {named n : Nat} {ps : List (Int × Int)}
/-- env of the law's deed loop -/
def LB (n : Nat) (ps : List (Int × Int)) (d : Dd) (acc : List (Int × Int)) (env : PP.Env) (c c0 : List PV) : Prop := c = c0 ∧ ∃ s3 s4 s5 s6 s8, env = [.val (cmpV n ps), .val (deedV d), .own (.lst (acc.map prV)), s3, s4, s5, s6, .no, s8]
theorem law_behind_step (h : Com named n ps) (k : Nat) (d : Dd) (hd : DOk named d) (a b : Int) (hq : (a, b) ∈ prs n) (acc : List (Int × Int)) (hacc : acc.length < 1000) (s5 s6 s8 : PP.Slot) (c : List PV) :
    ∃ s5' s6' s8', execSs (callK P (k + 2)) b__law_behind_l0 [.val (cmpV n ps), .val (deedV d), .own (.lst (acc.map prV)), .val (.int a), .val (.int b), s5, s6, .no, s8] c =
      .nx [.val (cmpV n ps), .val (deedV d), .own (.lst ((if ans ps d (a, b) = true then acc ++ [(a, b)] else acc).map prV)), .val (.int a), .val (.int b), s5', s6', .no, s8'] c := by
  obtain ⟨q1, q2, q3⟩ := mem_prs.mp hq
  simp only at q1 q2 q3
  have hn := h.c
  have kk : ∀ x y, callK P (k + 2) n__law_knows [cmpV n ps, .int x, .int y] c = .ok (.bl (kn ps x y)) c := fun x y => f__law_knows k x y c
  have ha : (acc.map prV).length < LIM := by rw [List.length_map]; unfold LIM; omega
  have fin : ∀ (r : Bool) (e5 e6 e8 : PP.Slot), e5 = .val (.bl r) → execSs (callK P (k + 2)) [.ife (.var 5) [.app 2 (.tup [.var 3, .var 4])] []] [.val (cmpV n ps), .val (deedV d), .own (.lst (acc.map prV)), .val (.int a), .val (.int b), e5, e6, .no, e8] c =
      .nx [.val (cmpV n ps), .val (deedV d), .own (.lst ((if r = true then acc ++ [(a, b)] else acc).map prV)), .val (.int a), .val (.int b), e5, e6, .no, e8] c := fun r e5 e6 e8 h5 => by
    subst h5
    cases r with
    | true =>
      simp -implicitDefEqProofs only [e_con, e_var, e_bor, e_bin, k_bin, k_bin2, e_cmp, k_cmp, k_cmp2, e_neg, k_neg, e_nt, k_nt, k_truth, k_optB, e_and, k_and, k_andT, k_andF, e_or, k_or, k_orT, k_orF, e_ite, k_iteT, k_iteF, e_chain, k_ch, k_ch2, k_ch3T, k_ch3F, e_tup, k_tup, e_lst, k_lst, e_ix, k_ix, k_ix2, e_sl, k_sl, k_sl2, k_sl3, e_call, k_call, e_blt, k_blt, e_mth, k_mth, k_mth2, e_isin, k_is, e_pick, k_pick, k_pick2, es_nil, es_cons, k_es, k_es2, o_none, o_some, k_o, c_none, c_some, i_seq, k_seqT, k_seqL, i_r1, k_r1, i_r2, k_r2, k_r3, i_zip, k_zip, k_zipT, k_zipL, i_enum, k_enum, s_asg, k_asg, s_own, k_own2, k_slotL, k_slotD, k_slotV, s_par, k_par, k_par2, s_frz, s_app, k_app, k_app2, s_ife, k_ifeT, k_ifeF, s_whl, k_w, k_wT, k_wF, k_wN, k_wR, s_ret, k_ret, s_exp, k_exp, s_setC, k_setC, k_cup0, k_cup1, s_ap, k_ap, k_ap2, k_ap3, s_rc, k_rc, ss_nil, ss_cons, k_ssN, k_ssR, finR_rt, finR_nx, pureR_some, varv_0, varv_s, borv_0, borv_0o, borv_s, truth, startP, List.map_cons, List.map_nil, List.replicate_succ, List.replicate_zero, List.cons_append, List.nil_append, Nat.reduceSub, Nat.reduceAdd, bindT, bindTs, optS_some, List.set_cons_succ, List.set_cons_zero, wipeP, mkTup_0, mkTup_1, mkTup_2, mkTup_3, mkTup_4, mkTup_5, mkTup_6, mkTup_7, mkTup_8, mkLst_0, mkLst_1, mkLst_2, mkLst_3, mkLst_4, mkLst_5, mkLst_6, mkLst_7, mkLst_8, mkLst_9, mkLst_10, mkLst_11, mkLst_12, mkLst_13, mkLst_14, mkLst_15, mkLst_16, binop, cmpop, blV, Option.map_some, isTy, bltop, Bool.not_true, Bool.not_false, item_0, item_1, item_2, item_3, item_c0, item_c1, Option.bind_some, List.getElem?_cons_zero, List.getElem?_cons_succ, if_true, if_false, Bool.false_eq_true, and_self, dat_int, dat_bl, dat_non, peq_int, peq_bl, peq_nonnon, Int.cast_ofNat_Int, Int.reduceEq, Bool.and_self, List.length_cons, List.length_nil, Int.reduceLT, Int.reduceLE, Int.reduceAdd, Int.reduceSub, Nat.reduceLT, Nat.reduceLeDiff, decide_true, decide_false, Bool.or_true, Bool.true_or, true_and, and_true, k_app2 ha, List.map_append]
      rfl
    | false => simp -implicitDefEqProofs only [e_con, e_var, e_bor, e_bin, k_bin, k_bin2, e_cmp, k_cmp, k_cmp2, e_neg, k_neg, e_nt, k_nt, k_truth, k_optB, e_and, k_and, k_andT, k_andF, e_or, k_or, k_orT, k_orF, e_ite, k_iteT, k_iteF, e_chain, k_ch, k_ch2, k_ch3T, k_ch3F, e_tup, k_tup, e_lst, k_lst, e_ix, k_ix, k_ix2, e_sl, k_sl, k_sl2, k_sl3, e_call, k_call, e_blt, k_blt, e_mth, k_mth, k_mth2, e_isin, k_is, e_pick, k_pick, k_pick2, es_nil, es_cons, k_es, k_es2, o_none, o_some, k_o, c_none, c_some, i_seq, k_seqT, k_seqL, i_r1, k_r1, i_r2, k_r2, k_r3, i_zip, k_zip, k_zipT, k_zipL, i_enum, k_enum, s_asg, k_asg, s_own, k_own2, k_slotL, k_slotD, k_slotV, s_par, k_par, k_par2, s_frz, s_app, k_app, k_app2, s_ife, k_ifeT, k_ifeF, s_whl, k_w, k_wT, k_wF, k_wN, k_wR, s_ret, k_ret, s_exp, k_exp, s_setC, k_setC, k_cup0, k_cup1, s_ap, k_ap, k_ap2, k_ap3, s_rc, k_rc, ss_nil, ss_cons, k_ssN, k_ssR, finR_rt, finR_nx, pureR_some, varv_0, varv_s, borv_0, borv_0o, borv_s, truth, startP, List.map_cons, List.map_nil, List.replicate_succ, List.replicate_zero, List.cons_append, List.nil_append, Nat.reduceSub, Nat.reduceAdd, bindT, bindTs, optS_some, List.set_cons_succ, List.set_cons_zero, wipeP, mkTup_0, mkTup_1, mkTup_2, mkTup_3, mkTup_4, mkTup_5, mkTup_6, mkTup_7, mkTup_8, mkLst_0, mkLst_1, mkLst_2, mkLst_3, mkLst_4, mkLst_5, mkLst_6, mkLst_7, mkLst_8, mkLst_9, mkLst_10, mkLst_11, mkLst_12, mkLst_13, mkLst_14, mkLst_15, mkLst_16, binop, cmpop, blV, Option.map_some, isTy, bltop, Bool.not_true, Bool.not_false, item_0, item_1, item_2, item_3, item_c0, item_c1, Option.bind_some, List.getElem?_cons_zero, List.getElem?_cons_succ, if_true, if_false, Bool.false_eq_true, and_self, dat_int, dat_bl, dat_non, peq_int, peq_bl, peq_nonnon, Int.cast_ofNat_Int, Int.reduceEq, Bool.and_self, List.length_cons, List.length_nil, Int.reduceLT, Int.reduceLE, Int.reduceAdd, Int.reduceSub, Nat.reduceLT, Nat.reduceLeDiff, decide_true, decide_false, Bool.or_true, Bool.true_or, true_and, and_true]
  have key : ∀ (e5 e6 e8 : PP.Slot) (st : Sm Nat), b__law_behind_l0 = [.asg (.name 5) (.call n__law_knows [.var 0, .var 3, .var 4]), st, .ife (.var 5) [.app 2 (.tup [.var 3, .var 4])] []] → e5 = .val (.bl (ans ps d (a, b))) →
      execS (callK P (k + 2)) st [.val (cmpV n ps), .val (deedV d), .own (.lst (acc.map prV)), .val (.int a), .val (.int b), .val (.bl (kn ps a b)), s6, .no, s8] c = .nx [.val (cmpV n ps), .val (deedV d), .own (.lst (acc.map prV)), .val (.int a), .val (.int b), e5, e6, .no, e8] c →
      ∃ s5' s6' s8', execSs (callK P (k + 2)) b__law_behind_l0 [.val (cmpV n ps), .val (deedV d), .own (.lst (acc.map prV)), .val (.int a), .val (.int b), s5, s6, .no, s8] c =
      .nx [.val (cmpV n ps), .val (deedV d), .own (.lst ((if ans ps d (a, b) = true then acc ++ [(a, b)] else acc).map prV)), .val (.int a), .val (.int b), s5', s6', .no, s8'] c := fun e5 e6 e8 st hb h5 hs => by
    refine ⟨e5, e6, e8, ?_⟩
    rw [hb, ← fin _ e5 e6 e8 h5]
    generalize [Sm.ife (FN := Nat) (.var 5) [.app 2 (.tup [.var 3, .var 4])] []] = tl
    simp -implicitDefEqProofs only [e_con, e_var, e_bor, e_bin, k_bin, k_bin2, e_cmp, k_cmp, k_cmp2, e_neg, k_neg, e_nt, k_nt, k_truth, k_optB, e_and, k_and, k_andT, k_andF, e_or, k_or, k_orT, k_orF, e_ite, k_iteT, k_iteF, e_chain, k_ch, k_ch2, k_ch3T, k_ch3F, e_tup, k_tup, e_lst, k_lst, e_ix, k_ix, k_ix2, e_sl, k_sl, k_sl2, k_sl3, e_call, k_call, e_blt, k_blt, e_mth, k_mth, k_mth2, e_isin, k_is, e_pick, k_pick, k_pick2, es_nil, es_cons, k_es, k_es2, o_none, o_some, k_o, c_none, c_some, i_seq, k_seqT, k_seqL, i_r1, k_r1, i_r2, k_r2, k_r3, i_zip, k_zip, k_zipT, k_zipL, i_enum, k_enum, s_asg, k_asg, s_own, k_own2, k_slotL, k_slotD, k_slotV, s_par, k_par, k_par2, s_frz, s_app, k_app, k_app2, s_ife, k_ifeT, k_ifeF, s_whl, k_w, k_wT, k_wF, k_wN, k_wR, s_ret, k_ret, s_exp, k_exp, s_setC, k_setC, k_cup0, k_cup1, s_ap, k_ap, k_ap2, k_ap3, s_rc, k_rc, ss_nil, ss_cons, k_ssN, k_ssR, finR_rt, finR_nx, pureR_some, varv_0, varv_s, borv_0, borv_0o, borv_s, truth, startP, List.map_cons, List.map_nil, List.replicate_succ, List.replicate_zero, List.cons_append, List.nil_append, Nat.reduceSub, Nat.reduceAdd, bindT, bindTs, optS_some, List.set_cons_succ, List.set_cons_zero, wipeP, mkTup_0, mkTup_1, mkTup_2, mkTup_3, mkTup_4, mkTup_5, mkTup_6, mkTup_7, mkTup_8, mkLst_0, mkLst_1, mkLst_2, mkLst_3, mkLst_4, mkLst_5, mkLst_6, mkLst_7, mkLst_8, mkLst_9, mkLst_10, mkLst_11, mkLst_12, mkLst_13, mkLst_14, mkLst_15, mkLst_16, binop, cmpop, blV, Option.map_some, isTy, bltop, Bool.not_true, Bool.not_false, item_0, item_1, item_2, item_3, item_c0, item_c1, Option.bind_some, List.getElem?_cons_zero, List.getElem?_cons_succ, if_true, if_false, Bool.false_eq_true, and_self, dat_int, dat_bl, dat_non, peq_int, peq_bl, peq_nonnon, Int.cast_ofNat_Int, Int.reduceEq, Bool.and_self, List.length_cons, List.length_nil, Int.reduceLT, Int.reduceLE, Int.reduceAdd, Int.reduceSub, Nat.reduceLT, Nat.reduceLeDiff, decide_true, decide_false, Bool.or_true, Bool.true_or, true_and, and_true, kk, hs]
  cases d with
  | pairs p as =>
    obtain ⟨h1, h2, h3⟩ := hd
    by_cases hp : (p : Int) = a ∨ (p : Int) = b
    · refine key _ s6 s8 _ rfl rfl ?_
      unfold deedV ans
      simp -implicitDefEqProofs only [e_con, e_var, e_bor, e_bin, k_bin, k_bin2, e_cmp, k_cmp, k_cmp2, e_neg, k_neg, e_nt, k_nt, k_truth, k_optB, e_and, k_and, k_andT, k_andF, e_or, k_or, k_orT, k_orF, e_ite, k_iteT, k_iteF, e_chain, k_ch, k_ch2, k_ch3T, k_ch3F, e_tup, k_tup, e_lst, k_lst, e_ix, k_ix, k_ix2, e_sl, k_sl, k_sl2, k_sl3, e_call, k_call, e_blt, k_blt, e_mth, k_mth, k_mth2, e_isin, k_is, e_pick, k_pick, k_pick2, es_nil, es_cons, k_es, k_es2, o_none, o_some, k_o, c_none, c_some, i_seq, k_seqT, k_seqL, i_r1, k_r1, i_r2, k_r2, k_r3, i_zip, k_zip, k_zipT, k_zipL, i_enum, k_enum, s_asg, k_asg, s_own, k_own2, k_slotL, k_slotD, k_slotV, s_par, k_par, k_par2, s_frz, s_app, k_app, k_app2, s_ife, k_ifeT, k_ifeF, s_whl, k_w, k_wT, k_wF, k_wN, k_wR, s_ret, k_ret, s_exp, k_exp, s_setC, k_setC, k_cup0, k_cup1, s_ap, k_ap, k_ap2, k_ap3, s_rc, k_rc, ss_nil, ss_cons, k_ssN, k_ssR, finR_rt, finR_nx, pureR_some, varv_0, varv_s, borv_0, borv_0o, borv_s, truth, startP, List.map_cons, List.map_nil, List.replicate_succ, List.replicate_zero, List.cons_append, List.nil_append, Nat.reduceSub, Nat.reduceAdd, bindT, bindTs, optS_some, List.set_cons_succ, List.set_cons_zero, wipeP, mkTup_0, mkTup_1, mkTup_2, mkTup_3, mkTup_4, mkTup_5, mkTup_6, mkTup_7, mkTup_8, mkLst_0, mkLst_1, mkLst_2, mkLst_3, mkLst_4, mkLst_5, mkLst_6, mkLst_7, mkLst_8, mkLst_9, mkLst_10, mkLst_11, mkLst_12, mkLst_13, mkLst_14, mkLst_15, mkLst_16, binop, cmpop, blV, Option.map_some, isTy, bltop, Bool.not_true, Bool.not_false, item_0, item_1, item_2, item_3, item_c0, item_c1, Option.bind_some, List.getElem?_cons_zero, List.getElem?_cons_succ, if_true, if_false, Bool.false_eq_true, and_self, dat_int, dat_bl, dat_non, peq_int, peq_bl, peq_nonnon, Int.cast_ofNat_Int, Int.reduceEq, Bool.and_self, List.length_cons, List.length_nil, Int.reduceLT, Int.reduceLE, Int.reduceAdd, Int.reduceSub, Nat.reduceLT, Nat.reduceLeDiff, decide_true, decide_false, Bool.or_true, Bool.true_or, true_and, and_true, ok_pairs, ok_takes, ok_tie, peq_str, pin_two, hp, n_pt, n_pi]
    · have e0 : evalE (callK P (k + 2)) b__law_behind_c0 [.val (cmpV n ps), .val (deedV (.pairs p as)), .own (.lst (acc.map prV)), .val (.int a), .val (.int b), .val (.bl (kn ps a b)), s6, .no, s8] c = .ok (.lst ([a, b].map fun x => .bl (kn ps p x))) c := by
        refine comp_map [a, b] PV.int _ ?_ (fun x hm => ⟨_, rfl, ?_⟩) (show 2 ≤ LIM by decide)
        · simp -implicitDefEqProofs only [e_con, e_var, e_bor, e_bin, k_bin, k_bin2, e_cmp, k_cmp, k_cmp2, e_neg, k_neg, e_nt, k_nt, k_truth, k_optB, e_and, k_and, k_andT, k_andF, e_or, k_or, k_orT, k_orF, e_ite, k_iteT, k_iteF, e_chain, k_ch, k_ch2, k_ch3T, k_ch3F, e_tup, k_tup, e_lst, k_lst, e_ix, k_ix, k_ix2, e_sl, k_sl, k_sl2, k_sl3, e_call, k_call, e_blt, k_blt, e_mth, k_mth, k_mth2, e_isin, k_is, e_pick, k_pick, k_pick2, es_nil, es_cons, k_es, k_es2, o_none, o_some, k_o, c_none, c_some, i_seq, k_seqT, k_seqL, i_r1, k_r1, i_r2, k_r2, k_r3, i_zip, k_zip, k_zipT, k_zipL, i_enum, k_enum, s_asg, k_asg, s_own, k_own2, k_slotL, k_slotD, k_slotV, s_par, k_par, k_par2, s_frz, s_app, k_app, k_app2, s_ife, k_ifeT, k_ifeF, s_whl, k_w, k_wT, k_wF, k_wN, k_wR, s_ret, k_ret, s_exp, k_exp, s_setC, k_setC, k_cup0, k_cup1, s_ap, k_ap, k_ap2, k_ap3, s_rc, k_rc, ss_nil, ss_cons, k_ssN, k_ssR, finR_rt, finR_nx, pureR_some, varv_0, varv_s, borv_0, borv_0o, borv_s, truth, startP, List.map_cons, List.map_nil, List.replicate_succ, List.replicate_zero, List.cons_append, List.nil_append, Nat.reduceSub, Nat.reduceAdd, bindT, bindTs, optS_some, List.set_cons_succ, List.set_cons_zero, wipeP, mkTup_0, mkTup_1, mkTup_2, mkTup_3, mkTup_4, mkTup_5, mkTup_6, mkTup_7, mkTup_8, mkLst_0, mkLst_1, mkLst_2, mkLst_3, mkLst_4, mkLst_5, mkLst_6, mkLst_7, mkLst_8, mkLst_9, mkLst_10, mkLst_11, mkLst_12, mkLst_13, mkLst_14, mkLst_15, mkLst_16, binop, cmpop, blV, Option.map_some, isTy, bltop, Bool.not_true, Bool.not_false, item_0, item_1, item_2, item_3, item_c0, item_c1, Option.bind_some, List.getElem?_cons_zero, List.getElem?_cons_succ, if_true, if_false, Bool.false_eq_true, and_self, dat_int, dat_bl, dat_non, peq_int, peq_bl, peq_nonnon, Int.cast_ofNat_Int, Int.reduceEq, Bool.and_self, List.length_cons, List.length_nil, Int.reduceLT, Int.reduceLE, Int.reduceAdd, Int.reduceSub, Nat.reduceLT, Nat.reduceLeDiff, decide_true, decide_false, Bool.or_true, Bool.true_or, true_and, and_true]
        · unfold deedV
          simp -implicitDefEqProofs only [e_con, e_var, e_bor, e_bin, k_bin, k_bin2, e_cmp, k_cmp, k_cmp2, e_neg, k_neg, e_nt, k_nt, k_truth, k_optB, e_and, k_and, k_andT, k_andF, e_or, k_or, k_orT, k_orF, e_ite, k_iteT, k_iteF, e_chain, k_ch, k_ch2, k_ch3T, k_ch3F, e_tup, k_tup, e_lst, k_lst, e_ix, k_ix, k_ix2, e_sl, k_sl, k_sl2, k_sl3, e_call, k_call, e_blt, k_blt, e_mth, k_mth, k_mth2, e_isin, k_is, e_pick, k_pick, k_pick2, es_nil, es_cons, k_es, k_es2, o_none, o_some, k_o, c_none, c_some, i_seq, k_seqT, k_seqL, i_r1, k_r1, i_r2, k_r2, k_r3, i_zip, k_zip, k_zipT, k_zipL, i_enum, k_enum, s_asg, k_asg, s_own, k_own2, k_slotL, k_slotD, k_slotV, s_par, k_par, k_par2, s_frz, s_app, k_app, k_app2, s_ife, k_ifeT, k_ifeF, s_whl, k_w, k_wT, k_wF, k_wN, k_wR, s_ret, k_ret, s_exp, k_exp, s_setC, k_setC, k_cup0, k_cup1, s_ap, k_ap, k_ap2, k_ap3, s_rc, k_rc, ss_nil, ss_cons, k_ssN, k_ssR, finR_rt, finR_nx, pureR_some, varv_0, varv_s, borv_0, borv_0o, borv_s, truth, startP, List.map_cons, List.map_nil, List.replicate_succ, List.replicate_zero, List.cons_append, List.nil_append, Nat.reduceSub, Nat.reduceAdd, bindT, bindTs, optS_some, List.set_cons_succ, List.set_cons_zero, wipeP, mkTup_0, mkTup_1, mkTup_2, mkTup_3, mkTup_4, mkTup_5, mkTup_6, mkTup_7, mkTup_8, mkLst_0, mkLst_1, mkLst_2, mkLst_3, mkLst_4, mkLst_5, mkLst_6, mkLst_7, mkLst_8, mkLst_9, mkLst_10, mkLst_11, mkLst_12, mkLst_13, mkLst_14, mkLst_15, mkLst_16, binop, cmpop, blV, Option.map_some, isTy, bltop, Bool.not_true, Bool.not_false, item_0, item_1, item_2, item_3, item_c0, item_c1, Option.bind_some, List.getElem?_cons_zero, List.getElem?_cons_succ, if_true, if_false, Bool.false_eq_true, and_self, dat_int, dat_bl, dat_non, peq_int, peq_bl, peq_nonnon, Int.cast_ofNat_Int, Int.reduceEq, Bool.and_self, List.length_cons, List.length_nil, Int.reduceLT, Int.reduceLE, Int.reduceAdd, Int.reduceSub, Nat.reduceLT, Nat.reduceLeDiff, decide_true, decide_false, Bool.or_true, Bool.true_or, true_and, and_true, kk]
      have b1 := b2i_bd (kn ps a b)
      have b2 := b2i_bd (kn ps p a)
      have b3 := b2i_bd (kn ps p b)
      have i0 := item_bitsI (as := as) (i := 3 * b2i (kn ps a b) + (b2i (kn ps p a) + b2i (kn ps p b))) (by omega) (by omega) c
      refine key _ (.val (.int (b2i (kn ps p a) + b2i (kn ps p b)))) s8 _ rfl rfl ?_
      unfold deedV at e0 ⊢
      unfold ans
      cases hk : kn ps a b
      · rw [hk] at e0 i0
        rw [m3f] at i0
        simp -implicitDefEqProofs only [e_con, e_var, e_bor, e_bin, k_bin, k_bin2, e_cmp, k_cmp, k_cmp2, e_neg, k_neg, e_nt, k_nt, k_truth, k_optB, e_and, k_and, k_andT, k_andF, e_or, k_or, k_orT, k_orF, e_ite, k_iteT, k_iteF, e_chain, k_ch, k_ch2, k_ch3T, k_ch3F, e_tup, k_tup, e_lst, k_lst, e_ix, k_ix, k_ix2, e_sl, k_sl, k_sl2, k_sl3, e_call, k_call, e_blt, k_blt, e_mth, k_mth, k_mth2, e_isin, k_is, e_pick, k_pick, k_pick2, es_nil, es_cons, k_es, k_es2, o_none, o_some, k_o, c_none, c_some, i_seq, k_seqT, k_seqL, i_r1, k_r1, i_r2, k_r2, k_r3, i_zip, k_zip, k_zipT, k_zipL, i_enum, k_enum, s_asg, k_asg, s_own, k_own2, k_slotL, k_slotD, k_slotV, s_par, k_par, k_par2, s_frz, s_app, k_app, k_app2, s_ife, k_ifeT, k_ifeF, s_whl, k_w, k_wT, k_wF, k_wN, k_wR, s_ret, k_ret, s_exp, k_exp, s_setC, k_setC, k_cup0, k_cup1, s_ap, k_ap, k_ap2, k_ap3, s_rc, k_rc, ss_nil, ss_cons, k_ssN, k_ssR, finR_rt, finR_nx, pureR_some, varv_0, varv_s, borv_0, borv_0o, borv_s, truth, startP, List.map_cons, List.map_nil, List.replicate_succ, List.replicate_zero, List.cons_append, List.nil_append, Nat.reduceSub, Nat.reduceAdd, bindT, bindTs, optS_some, List.set_cons_succ, List.set_cons_zero, wipeP, mkTup_0, mkTup_1, mkTup_2, mkTup_3, mkTup_4, mkTup_5, mkTup_6, mkTup_7, mkTup_8, mkLst_0, mkLst_1, mkLst_2, mkLst_3, mkLst_4, mkLst_5, mkLst_6, mkLst_7, mkLst_8, mkLst_9, mkLst_10, mkLst_11, mkLst_12, mkLst_13, mkLst_14, mkLst_15, mkLst_16, binop, cmpop, blV, Option.map_some, isTy, bltop, Bool.not_true, Bool.not_false, item_0, item_1, item_2, item_3, item_c0, item_c1, Option.bind_some, List.getElem?_cons_zero, List.getElem?_cons_succ, if_true, if_false, Bool.false_eq_true, and_self, dat_int, dat_bl, dat_non, peq_int, peq_bl, peq_nonnon, Int.cast_ofNat_Int, Int.reduceEq, Bool.and_self, List.length_cons, List.length_nil, Int.reduceLT, Int.reduceLE, Int.reduceAdd, Int.reduceSub, Nat.reduceLT, Nat.reduceLeDiff, decide_true, decide_false, Bool.or_true, Bool.true_or, true_and, and_true, ok_pairs, peq_str, pin_two, hp, e0, k_mth recv_count, cnt_two, i0, hk, m3f]
      · rw [hk] at e0 i0
        rw [m3t] at i0
        simp -implicitDefEqProofs only [e_con, e_var, e_bor, e_bin, k_bin, k_bin2, e_cmp, k_cmp, k_cmp2, e_neg, k_neg, e_nt, k_nt, k_truth, k_optB, e_and, k_and, k_andT, k_andF, e_or, k_or, k_orT, k_orF, e_ite, k_iteT, k_iteF, e_chain, k_ch, k_ch2, k_ch3T, k_ch3F, e_tup, k_tup, e_lst, k_lst, e_ix, k_ix, k_ix2, e_sl, k_sl, k_sl2, k_sl3, e_call, k_call, e_blt, k_blt, e_mth, k_mth, k_mth2, e_isin, k_is, e_pick, k_pick, k_pick2, es_nil, es_cons, k_es, k_es2, o_none, o_some, k_o, c_none, c_some, i_seq, k_seqT, k_seqL, i_r1, k_r1, i_r2, k_r2, k_r3, i_zip, k_zip, k_zipT, k_zipL, i_enum, k_enum, s_asg, k_asg, s_own, k_own2, k_slotL, k_slotD, k_slotV, s_par, k_par, k_par2, s_frz, s_app, k_app, k_app2, s_ife, k_ifeT, k_ifeF, s_whl, k_w, k_wT, k_wF, k_wN, k_wR, s_ret, k_ret, s_exp, k_exp, s_setC, k_setC, k_cup0, k_cup1, s_ap, k_ap, k_ap2, k_ap3, s_rc, k_rc, ss_nil, ss_cons, k_ssN, k_ssR, finR_rt, finR_nx, pureR_some, varv_0, varv_s, borv_0, borv_0o, borv_s, truth, startP, List.map_cons, List.map_nil, List.replicate_succ, List.replicate_zero, List.cons_append, List.nil_append, Nat.reduceSub, Nat.reduceAdd, bindT, bindTs, optS_some, List.set_cons_succ, List.set_cons_zero, wipeP, mkTup_0, mkTup_1, mkTup_2, mkTup_3, mkTup_4, mkTup_5, mkTup_6, mkTup_7, mkTup_8, mkLst_0, mkLst_1, mkLst_2, mkLst_3, mkLst_4, mkLst_5, mkLst_6, mkLst_7, mkLst_8, mkLst_9, mkLst_10, mkLst_11, mkLst_12, mkLst_13, mkLst_14, mkLst_15, mkLst_16, binop, cmpop, blV, Option.map_some, isTy, bltop, Bool.not_true, Bool.not_false, item_0, item_1, item_2, item_3, item_c0, item_c1, Option.bind_some, List.getElem?_cons_zero, List.getElem?_cons_succ, if_true, if_false, Bool.false_eq_true, and_self, dat_int, dat_bl, dat_non, peq_int, peq_bl, peq_nonnon, Int.cast_ofNat_Int, Int.reduceEq, Bool.and_self, List.length_cons, List.length_nil, Int.reduceLT, Int.reduceLE, Int.reduceAdd, Int.reduceSub, Nat.reduceLT, Nat.reduceLeDiff, decide_true, decide_false, Bool.or_true, Bool.true_or, true_and, and_true, ok_pairs, peq_str, pin_two, hp, e0, k_mth recv_count, cnt_two, i0, hk, m3t]
  | takes p o as =>
    obtain ⟨h1, h2, h3, h4, h5⟩ := hd
    by_cases hp : (p : Int) = a ∨ (p : Int) = b
    · by_cases ho : (o : Int) = a ∨ (o : Int) = b
      · refine key _ s6 s8 _ rfl rfl ?_
        unfold deedV ans
        simp -implicitDefEqProofs only [e_con, e_var, e_bor, e_bin, k_bin, k_bin2, e_cmp, k_cmp, k_cmp2, e_neg, k_neg, e_nt, k_nt, k_truth, k_optB, e_and, k_and, k_andT, k_andF, e_or, k_or, k_orT, k_orF, e_ite, k_iteT, k_iteF, e_chain, k_ch, k_ch2, k_ch3T, k_ch3F, e_tup, k_tup, e_lst, k_lst, e_ix, k_ix, k_ix2, e_sl, k_sl, k_sl2, k_sl3, e_call, k_call, e_blt, k_blt, e_mth, k_mth, k_mth2, e_isin, k_is, e_pick, k_pick, k_pick2, es_nil, es_cons, k_es, k_es2, o_none, o_some, k_o, c_none, c_some, i_seq, k_seqT, k_seqL, i_r1, k_r1, i_r2, k_r2, k_r3, i_zip, k_zip, k_zipT, k_zipL, i_enum, k_enum, s_asg, k_asg, s_own, k_own2, k_slotL, k_slotD, k_slotV, s_par, k_par, k_par2, s_frz, s_app, k_app, k_app2, s_ife, k_ifeT, k_ifeF, s_whl, k_w, k_wT, k_wF, k_wN, k_wR, s_ret, k_ret, s_exp, k_exp, s_setC, k_setC, k_cup0, k_cup1, s_ap, k_ap, k_ap2, k_ap3, s_rc, k_rc, ss_nil, ss_cons, k_ssN, k_ssR, finR_rt, finR_nx, pureR_some, varv_0, varv_s, borv_0, borv_0o, borv_s, truth, startP, List.map_cons, List.map_nil, List.replicate_succ, List.replicate_zero, List.cons_append, List.nil_append, Nat.reduceSub, Nat.reduceAdd, bindT, bindTs, optS_some, List.set_cons_succ, List.set_cons_zero, wipeP, mkTup_0, mkTup_1, mkTup_2, mkTup_3, mkTup_4, mkTup_5, mkTup_6, mkTup_7, mkTup_8, mkLst_0, mkLst_1, mkLst_2, mkLst_3, mkLst_4, mkLst_5, mkLst_6, mkLst_7, mkLst_8, mkLst_9, mkLst_10, mkLst_11, mkLst_12, mkLst_13, mkLst_14, mkLst_15, mkLst_16, binop, cmpop, blV, Option.map_some, isTy, bltop, Bool.not_true, Bool.not_false, item_0, item_1, item_2, item_3, item_c0, item_c1, Option.bind_some, List.getElem?_cons_zero, List.getElem?_cons_succ, if_true, if_false, Bool.false_eq_true, and_self, dat_int, dat_bl, dat_non, peq_int, peq_bl, peq_nonnon, Int.cast_ofNat_Int, Int.reduceEq, Bool.and_self, List.length_cons, List.length_nil, Int.reduceLT, Int.reduceLE, Int.reduceAdd, Int.reduceSub, Nat.reduceLT, Nat.reduceLeDiff, decide_true, decide_false, Bool.or_true, Bool.true_or, true_and, and_true, ok_pairs, ok_takes, ok_tie, peq_str, pin_two, n_tp, n_ti, hp, ho, not_true_eq_false, and_false]
      · have b1 := b2i_bd (kn ps a b)
        have b2 := b2i_bd (kn ps o (a + b - p))
        have i0 := item_bitsI (as := as) (i := 2 * b2i (kn ps a b) + b2i (kn ps o (a + b - p))) (by omega) (by omega) c
        refine key _ s6 (.val (.int (a + b - p))) _ rfl rfl ?_
        unfold deedV at kk ⊢
        unfold ans
        rcases hp with hp | hp
        · have e1 : a + b - p = b := by omega
          rw [e1] at i0 ⊢
          subst hp
          cases hk : kn ps p b <;> cases hk2 : kn ps o b <;> rw [hk, hk2] at i0 <;> simp only [x00, x01, x10, x11] at i0 <;>
            simp -implicitDefEqProofs only [e_con, e_var, e_bor, e_bin, k_bin, k_bin2, e_cmp, k_cmp, k_cmp2, e_neg, k_neg, e_nt, k_nt, k_truth, k_optB, e_and, k_and, k_andT, k_andF, e_or, k_or, k_orT, k_orF, e_ite, k_iteT, k_iteF, e_chain, k_ch, k_ch2, k_ch3T, k_ch3F, e_tup, k_tup, e_lst, k_lst, e_ix, k_ix, k_ix2, e_sl, k_sl, k_sl2, k_sl3, e_call, k_call, e_blt, k_blt, e_mth, k_mth, k_mth2, e_isin, k_is, e_pick, k_pick, k_pick2, es_nil, es_cons, k_es, k_es2, o_none, o_some, k_o, c_none, c_some, i_seq, k_seqT, k_seqL, i_r1, k_r1, i_r2, k_r2, k_r3, i_zip, k_zip, k_zipT, k_zipL, i_enum, k_enum, s_asg, k_asg, s_own, k_own2, k_slotL, k_slotD, k_slotV, s_par, k_par, k_par2, s_frz, s_app, k_app, k_app2, s_ife, k_ifeT, k_ifeF, s_whl, k_w, k_wT, k_wF, k_wN, k_wR, s_ret, k_ret, s_exp, k_exp, s_setC, k_setC, k_cup0, k_cup1, s_ap, k_ap, k_ap2, k_ap3, s_rc, k_rc, ss_nil, ss_cons, k_ssN, k_ssR, finR_rt, finR_nx, pureR_some, varv_0, varv_s, borv_0, borv_0o, borv_s, truth, startP, List.map_cons, List.map_nil, List.replicate_succ, List.replicate_zero, List.cons_append, List.nil_append, Nat.reduceSub, Nat.reduceAdd, bindT, bindTs, optS_some, List.set_cons_succ, List.set_cons_zero, wipeP, mkTup_0, mkTup_1, mkTup_2, mkTup_3, mkTup_4, mkTup_5, mkTup_6, mkTup_7, mkTup_8, mkLst_0, mkLst_1, mkLst_2, mkLst_3, mkLst_4, mkLst_5, mkLst_6, mkLst_7, mkLst_8, mkLst_9, mkLst_10, mkLst_11, mkLst_12, mkLst_13, mkLst_14, mkLst_15, mkLst_16, binop, cmpop, blV, Option.map_some, isTy, bltop, Bool.not_true, Bool.not_false, item_0, item_1, item_2, item_3, item_c0, item_c1, Option.bind_some, List.getElem?_cons_zero, List.getElem?_cons_succ, if_true, if_false, Bool.false_eq_true, and_self, dat_int, dat_bl, dat_non, peq_int, peq_bl, peq_nonnon, Int.cast_ofNat_Int, Int.reduceEq, Bool.and_self, List.length_cons, List.length_nil, Int.reduceLT, Int.reduceLE, Int.reduceAdd, Int.reduceSub, Nat.reduceLT, Nat.reduceLeDiff, decide_true, decide_false, Bool.or_true, Bool.true_or, true_and, and_true, ok_pairs, ok_takes, ok_tie, peq_str, pin_two, n_tp, ho, true_or, not_false_eq_true, kk, i0, hk, hk2, e1, x00, x01, x10, x11]
        · have e1 : a + b - p = a := by omega
          have e2 : ¬ b = a := by omega
          rw [e1] at i0 ⊢
          subst hp
          cases hk : kn ps a p <;> cases hk2 : kn ps o a <;> rw [hk, hk2] at i0 <;> simp only [x00, x01, x10, x11] at i0 <;>
            simp -implicitDefEqProofs only [e_con, e_var, e_bor, e_bin, k_bin, k_bin2, e_cmp, k_cmp, k_cmp2, e_neg, k_neg, e_nt, k_nt, k_truth, k_optB, e_and, k_and, k_andT, k_andF, e_or, k_or, k_orT, k_orF, e_ite, k_iteT, k_iteF, e_chain, k_ch, k_ch2, k_ch3T, k_ch3F, e_tup, k_tup, e_lst, k_lst, e_ix, k_ix, k_ix2, e_sl, k_sl, k_sl2, k_sl3, e_call, k_call, e_blt, k_blt, e_mth, k_mth, k_mth2, e_isin, k_is, e_pick, k_pick, k_pick2, es_nil, es_cons, k_es, k_es2, o_none, o_some, k_o, c_none, c_some, i_seq, k_seqT, k_seqL, i_r1, k_r1, i_r2, k_r2, k_r3, i_zip, k_zip, k_zipT, k_zipL, i_enum, k_enum, s_asg, k_asg, s_own, k_own2, k_slotL, k_slotD, k_slotV, s_par, k_par, k_par2, s_frz, s_app, k_app, k_app2, s_ife, k_ifeT, k_ifeF, s_whl, k_w, k_wT, k_wF, k_wN, k_wR, s_ret, k_ret, s_exp, k_exp, s_setC, k_setC, k_cup0, k_cup1, s_ap, k_ap, k_ap2, k_ap3, s_rc, k_rc, ss_nil, ss_cons, k_ssN, k_ssR, finR_rt, finR_nx, pureR_some, varv_0, varv_s, borv_0, borv_0o, borv_s, truth, startP, List.map_cons, List.map_nil, List.replicate_succ, List.replicate_zero, List.cons_append, List.nil_append, Nat.reduceSub, Nat.reduceAdd, bindT, bindTs, optS_some, List.set_cons_succ, List.set_cons_zero, wipeP, mkTup_0, mkTup_1, mkTup_2, mkTup_3, mkTup_4, mkTup_5, mkTup_6, mkTup_7, mkTup_8, mkLst_0, mkLst_1, mkLst_2, mkLst_3, mkLst_4, mkLst_5, mkLst_6, mkLst_7, mkLst_8, mkLst_9, mkLst_10, mkLst_11, mkLst_12, mkLst_13, mkLst_14, mkLst_15, mkLst_16, binop, cmpop, blV, Option.map_some, isTy, bltop, Bool.not_true, Bool.not_false, item_0, item_1, item_2, item_3, item_c0, item_c1, Option.bind_some, List.getElem?_cons_zero, List.getElem?_cons_succ, if_true, if_false, Bool.false_eq_true, and_self, dat_int, dat_bl, dat_non, peq_int, peq_bl, peq_nonnon, Int.cast_ofNat_Int, Int.reduceEq, Bool.and_self, List.length_cons, List.length_nil, Int.reduceLT, Int.reduceLE, Int.reduceAdd, Int.reduceSub, Nat.reduceLT, Nat.reduceLeDiff, decide_true, decide_false, Bool.or_true, Bool.true_or, true_and, and_true, ok_pairs, ok_takes, ok_tie, peq_str, pin_two, n_tp, ho, or_true, not_false_eq_true, kk, i0, hk, hk2, e1, e2, x00, x01, x10, x11]
    · refine key _ s6 s8 _ rfl rfl ?_
      unfold deedV ans
      simp -implicitDefEqProofs only [e_con, e_var, e_bor, e_bin, k_bin, k_bin2, e_cmp, k_cmp, k_cmp2, e_neg, k_neg, e_nt, k_nt, k_truth, k_optB, e_and, k_and, k_andT, k_andF, e_or, k_or, k_orT, k_orF, e_ite, k_iteT, k_iteF, e_chain, k_ch, k_ch2, k_ch3T, k_ch3F, e_tup, k_tup, e_lst, k_lst, e_ix, k_ix, k_ix2, e_sl, k_sl, k_sl2, k_sl3, e_call, k_call, e_blt, k_blt, e_mth, k_mth, k_mth2, e_isin, k_is, e_pick, k_pick, k_pick2, es_nil, es_cons, k_es, k_es2, o_none, o_some, k_o, c_none, c_some, i_seq, k_seqT, k_seqL, i_r1, k_r1, i_r2, k_r2, k_r3, i_zip, k_zip, k_zipT, k_zipL, i_enum, k_enum, s_asg, k_asg, s_own, k_own2, k_slotL, k_slotD, k_slotV, s_par, k_par, k_par2, s_frz, s_app, k_app, k_app2, s_ife, k_ifeT, k_ifeF, s_whl, k_w, k_wT, k_wF, k_wN, k_wR, s_ret, k_ret, s_exp, k_exp, s_setC, k_setC, k_cup0, k_cup1, s_ap, k_ap, k_ap2, k_ap3, s_rc, k_rc, ss_nil, ss_cons, k_ssN, k_ssR, finR_rt, finR_nx, pureR_some, varv_0, varv_s, borv_0, borv_0o, borv_s, truth, startP, List.map_cons, List.map_nil, List.replicate_succ, List.replicate_zero, List.cons_append, List.nil_append, Nat.reduceSub, Nat.reduceAdd, bindT, bindTs, optS_some, List.set_cons_succ, List.set_cons_zero, wipeP, mkTup_0, mkTup_1, mkTup_2, mkTup_3, mkTup_4, mkTup_5, mkTup_6, mkTup_7, mkTup_8, mkLst_0, mkLst_1, mkLst_2, mkLst_3, mkLst_4, mkLst_5, mkLst_6, mkLst_7, mkLst_8, mkLst_9, mkLst_10, mkLst_11, mkLst_12, mkLst_13, mkLst_14, mkLst_15, mkLst_16, binop, cmpop, blV, Option.map_some, isTy, bltop, Bool.not_true, Bool.not_false, item_0, item_1, item_2, item_3, item_c0, item_c1, Option.bind_some, List.getElem?_cons_zero, List.getElem?_cons_succ, if_true, if_false, Bool.false_eq_true, and_self, dat_int, dat_bl, dat_non, peq_int, peq_bl, peq_nonnon, Int.cast_ofNat_Int, Int.reduceEq, Bool.and_self, List.length_cons, List.length_nil, Int.reduceLT, Int.reduceLE, Int.reduceAdd, Int.reduceSub, Nat.reduceLT, Nat.reduceLeDiff, decide_true, decide_false, Bool.or_true, Bool.true_or, true_and, and_true, ok_pairs, ok_takes, ok_tie, peq_str, pin_two, n_tp, n_ti, hp, false_and]
  | tie p o v =>
    obtain ⟨h1, h2, h3, h4⟩ := hd
    have m1 := f_mm2 (k + 1) p o c
    have pq : peq (prV (mm p o)) (.tup [.int a, .int b]) = decide (mm p o = (a, b)) := peq_pr _ (a, b)
    refine key _ s6 s8 _ rfl rfl ?_
    unfold deedV ans
    by_cases hm : mm p o = (a, b)
    · rw [hm] at m1 pq
      rw [decide_eq_true rfl] at pq
      rcases h4 with rfl | rfl | rfl
      · simp -implicitDefEqProofs only [e_con, e_var, e_bor, e_bin, k_bin, k_bin2, e_cmp, k_cmp, k_cmp2, e_neg, k_neg, e_nt, k_nt, k_truth, k_optB, e_and, k_and, k_andT, k_andF, e_or, k_or, k_orT, k_orF, e_ite, k_iteT, k_iteF, e_chain, k_ch, k_ch2, k_ch3T, k_ch3F, e_tup, k_tup, e_lst, k_lst, e_ix, k_ix, k_ix2, e_sl, k_sl, k_sl2, k_sl3, e_call, k_call, e_blt, k_blt, e_mth, k_mth, k_mth2, e_isin, k_is, e_pick, k_pick, k_pick2, es_nil, es_cons, k_es, k_es2, o_none, o_some, k_o, c_none, c_some, i_seq, k_seqT, k_seqL, i_r1, k_r1, i_r2, k_r2, k_r3, i_zip, k_zip, k_zipT, k_zipL, i_enum, k_enum, s_asg, k_asg, s_own, k_own2, k_slotL, k_slotD, k_slotV, s_par, k_par, k_par2, s_frz, s_app, k_app, k_app2, s_ife, k_ifeT, k_ifeF, s_whl, k_w, k_wT, k_wF, k_wN, k_wR, s_ret, k_ret, s_exp, k_exp, s_setC, k_setC, k_cup0, k_cup1, s_ap, k_ap, k_ap2, k_ap3, s_rc, k_rc, ss_nil, ss_cons, k_ssN, k_ssR, finR_rt, finR_nx, pureR_some, varv_0, varv_s, borv_0, borv_0o, borv_s, truth, startP, List.map_cons, List.map_nil, List.replicate_succ, List.replicate_zero, List.cons_append, List.nil_append, Nat.reduceSub, Nat.reduceAdd, bindT, bindTs, optS_some, List.set_cons_succ, List.set_cons_zero, wipeP, mkTup_0, mkTup_1, mkTup_2, mkTup_3, mkTup_4, mkTup_5, mkTup_6, mkTup_7, mkTup_8, mkLst_0, mkLst_1, mkLst_2, mkLst_3, mkLst_4, mkLst_5, mkLst_6, mkLst_7, mkLst_8, mkLst_9, mkLst_10, mkLst_11, mkLst_12, mkLst_13, mkLst_14, mkLst_15, mkLst_16, binop, cmpop, blV, Option.map_some, isTy, bltop, Bool.not_true, Bool.not_false, item_0, item_1, item_2, item_3, item_c0, item_c1, Option.bind_some, List.getElem?_cons_zero, List.getElem?_cons_succ, if_true, if_false, Bool.false_eq_true, and_self, dat_int, dat_bl, dat_non, peq_int, peq_bl, peq_nonnon, Int.cast_ofNat_Int, Int.reduceEq, Bool.and_self, List.length_cons, List.length_nil, Int.reduceLT, Int.reduceLE, Int.reduceAdd, Int.reduceSub, Nat.reduceLT, Nat.reduceLeDiff, decide_true, decide_false, Bool.or_true, Bool.true_or, true_and, and_true, ok_pairs, ok_takes, ok_tie, peq_str, n_ip, n_it, m1, dat_pr, dat_pr2, pq, hm, n_kt, pickV]
      · simp -implicitDefEqProofs only [e_con, e_var, e_bor, e_bin, k_bin, k_bin2, e_cmp, k_cmp, k_cmp2, e_neg, k_neg, e_nt, k_nt, k_truth, k_optB, e_and, k_and, k_andT, k_andF, e_or, k_or, k_orT, k_orF, e_ite, k_iteT, k_iteF, e_chain, k_ch, k_ch2, k_ch3T, k_ch3F, e_tup, k_tup, e_lst, k_lst, e_ix, k_ix, k_ix2, e_sl, k_sl, k_sl2, k_sl3, e_call, k_call, e_blt, k_blt, e_mth, k_mth, k_mth2, e_isin, k_is, e_pick, k_pick, k_pick2, es_nil, es_cons, k_es, k_es2, o_none, o_some, k_o, c_none, c_some, i_seq, k_seqT, k_seqL, i_r1, k_r1, i_r2, k_r2, k_r3, i_zip, k_zip, k_zipT, k_zipL, i_enum, k_enum, s_asg, k_asg, s_own, k_own2, k_slotL, k_slotD, k_slotV, s_par, k_par, k_par2, s_frz, s_app, k_app, k_app2, s_ife, k_ifeT, k_ifeF, s_whl, k_w, k_wT, k_wF, k_wN, k_wR, s_ret, k_ret, s_exp, k_exp, s_setC, k_setC, k_cup0, k_cup1, s_ap, k_ap, k_ap2, k_ap3, s_rc, k_rc, ss_nil, ss_cons, k_ssN, k_ssR, finR_rt, finR_nx, pureR_some, varv_0, varv_s, borv_0, borv_0o, borv_s, truth, startP, List.map_cons, List.map_nil, List.replicate_succ, List.replicate_zero, List.cons_append, List.nil_append, Nat.reduceSub, Nat.reduceAdd, bindT, bindTs, optS_some, List.set_cons_succ, List.set_cons_zero, wipeP, mkTup_0, mkTup_1, mkTup_2, mkTup_3, mkTup_4, mkTup_5, mkTup_6, mkTup_7, mkTup_8, mkLst_0, mkLst_1, mkLst_2, mkLst_3, mkLst_4, mkLst_5, mkLst_6, mkLst_7, mkLst_8, mkLst_9, mkLst_10, mkLst_11, mkLst_12, mkLst_13, mkLst_14, mkLst_15, mkLst_16, binop, cmpop, blV, Option.map_some, isTy, bltop, Bool.not_true, Bool.not_false, item_0, item_1, item_2, item_3, item_c0, item_c1, Option.bind_some, List.getElem?_cons_zero, List.getElem?_cons_succ, if_true, if_false, Bool.false_eq_true, and_self, dat_int, dat_bl, dat_non, peq_int, peq_bl, peq_nonnon, Int.cast_ofNat_Int, Int.reduceEq, Bool.and_self, List.length_cons, List.length_nil, Int.reduceLT, Int.reduceLE, Int.reduceAdd, Int.reduceSub, Nat.reduceLT, Nat.reduceLeDiff, decide_true, decide_false, Bool.or_true, Bool.true_or, true_and, and_true, ok_pairs, ok_takes, ok_tie, peq_str, n_ip, n_it, m1, dat_pr, dat_pr2, pq, hm, n_pu, n_pk, n_kp, pickV]
      · simp -implicitDefEqProofs only [e_con, e_var, e_bor, e_bin, k_bin, k_bin2, e_cmp, k_cmp, k_cmp2, e_neg, k_neg, e_nt, k_nt, k_truth, k_optB, e_and, k_and, k_andT, k_andF, e_or, k_or, k_orT, k_orF, e_ite, k_iteT, k_iteF, e_chain, k_ch, k_ch2, k_ch3T, k_ch3F, e_tup, k_tup, e_lst, k_lst, e_ix, k_ix, k_ix2, e_sl, k_sl, k_sl2, k_sl3, e_call, k_call, e_blt, k_blt, e_mth, k_mth, k_mth2, e_isin, k_is, e_pick, k_pick, k_pick2, es_nil, es_cons, k_es, k_es2, o_none, o_some, k_o, c_none, c_some, i_seq, k_seqT, k_seqL, i_r1, k_r1, i_r2, k_r2, k_r3, i_zip, k_zip, k_zipT, k_zipL, i_enum, k_enum, s_asg, k_asg, s_own, k_own2, k_slotL, k_slotD, k_slotV, s_par, k_par, k_par2, s_frz, s_app, k_app, k_app2, s_ife, k_ifeT, k_ifeF, s_whl, k_w, k_wT, k_wF, k_wN, k_wR, s_ret, k_ret, s_exp, k_exp, s_setC, k_setC, k_cup0, k_cup1, s_ap, k_ap, k_ap2, k_ap3, s_rc, k_rc, ss_nil, ss_cons, k_ssN, k_ssR, finR_rt, finR_nx, pureR_some, varv_0, varv_s, borv_0, borv_0o, borv_s, truth, startP, List.map_cons, List.map_nil, List.replicate_succ, List.replicate_zero, List.cons_append, List.nil_append, Nat.reduceSub, Nat.reduceAdd, bindT, bindTs, optS_some, List.set_cons_succ, List.set_cons_zero, wipeP, mkTup_0, mkTup_1, mkTup_2, mkTup_3, mkTup_4, mkTup_5, mkTup_6, mkTup_7, mkTup_8, mkLst_0, mkLst_1, mkLst_2, mkLst_3, mkLst_4, mkLst_5, mkLst_6, mkLst_7, mkLst_8, mkLst_9, mkLst_10, mkLst_11, mkLst_12, mkLst_13, mkLst_14, mkLst_15, mkLst_16, binop, cmpop, blV, Option.map_some, isTy, bltop, Bool.not_true, Bool.not_false, item_0, item_1, item_2, item_3, item_c0, item_c1, Option.bind_some, List.getElem?_cons_zero, List.getElem?_cons_succ, if_true, if_false, Bool.false_eq_true, and_self, dat_int, dat_bl, dat_non, peq_int, peq_bl, peq_nonnon, Int.cast_ofNat_Int, Int.reduceEq, Bool.and_self, List.length_cons, List.length_nil, Int.reduceLT, Int.reduceLE, Int.reduceAdd, Int.reduceSub, Nat.reduceLT, Nat.reduceLeDiff, decide_true, decide_false, Bool.or_true, Bool.true_or, true_and, and_true, ok_pairs, ok_takes, ok_tie, peq_str, n_ip, n_it, m1, dat_pr, dat_pr2, pq, hm, n_kt, n_pu, pickV]
    · simp -implicitDefEqProofs only [e_con, e_var, e_bor, e_bin, k_bin, k_bin2, e_cmp, k_cmp, k_cmp2, e_neg, k_neg, e_nt, k_nt, k_truth, k_optB, e_and, k_and, k_andT, k_andF, e_or, k_or, k_orT, k_orF, e_ite, k_iteT, k_iteF, e_chain, k_ch, k_ch2, k_ch3T, k_ch3F, e_tup, k_tup, e_lst, k_lst, e_ix, k_ix, k_ix2, e_sl, k_sl, k_sl2, k_sl3, e_call, k_call, e_blt, k_blt, e_mth, k_mth, k_mth2, e_isin, k_is, e_pick, k_pick, k_pick2, es_nil, es_cons, k_es, k_es2, o_none, o_some, k_o, c_none, c_some, i_seq, k_seqT, k_seqL, i_r1, k_r1, i_r2, k_r2, k_r3, i_zip, k_zip, k_zipT, k_zipL, i_enum, k_enum, s_asg, k_asg, s_own, k_own2, k_slotL, k_slotD, k_slotV, s_par, k_par, k_par2, s_frz, s_app, k_app, k_app2, s_ife, k_ifeT, k_ifeF, s_whl, k_w, k_wT, k_wF, k_wN, k_wR, s_ret, k_ret, s_exp, k_exp, s_setC, k_setC, k_cup0, k_cup1, s_ap, k_ap, k_ap2, k_ap3, s_rc, k_rc, ss_nil, ss_cons, k_ssN, k_ssR, finR_rt, finR_nx, pureR_some, varv_0, varv_s, borv_0, borv_0o, borv_s, truth, startP, List.map_cons, List.map_nil, List.replicate_succ, List.replicate_zero, List.cons_append, List.nil_append, Nat.reduceSub, Nat.reduceAdd, bindT, bindTs, optS_some, List.set_cons_succ, List.set_cons_zero, wipeP, mkTup_0, mkTup_1, mkTup_2, mkTup_3, mkTup_4, mkTup_5, mkTup_6, mkTup_7, mkTup_8, mkLst_0, mkLst_1, mkLst_2, mkLst_3, mkLst_4, mkLst_5, mkLst_6, mkLst_7, mkLst_8, mkLst_9, mkLst_10, mkLst_11, mkLst_12, mkLst_13, mkLst_14, mkLst_15, mkLst_16, binop, cmpop, blV, Option.map_some, isTy, bltop, Bool.not_true, Bool.not_false, item_0, item_1, item_2, item_3, item_c0, item_c1, Option.bind_some, List.getElem?_cons_zero, List.getElem?_cons_succ, if_true, if_false, Bool.false_eq_true, and_self, dat_int, dat_bl, dat_non, peq_int, peq_bl, peq_nonnon, Int.cast_ofNat_Int, Int.reduceEq, Bool.and_self, List.length_cons, List.length_nil, Int.reduceLT, Int.reduceLE, Int.reduceAdd, Int.reduceSub, Nat.reduceLT, Nat.reduceLeDiff, decide_true, decide_false, Bool.or_true, Bool.true_or, true_and, and_true, ok_pairs, ok_takes, ok_tie, peq_str, n_ip, n_it, m1, dat_pr, dat_pr2, pq, hm]
end
/-! K08E: what is drawn; what comes of it. -/
section
variable {named n : Nat} {ps : List (Int × Int)}
theorem f__law_behind (h : Com named n ps) (k : Nat) (d : Dd) (hd : DOk named d) (c : List PV) : callK P (k + 3) n__law_behind [cmpV n ps, deedV d] c = .ok (cmpV n (behP n ps d)) c := by
  have hn := h.d
  have e6 : ∀ c, item (cmpV n ps) (.int 0) c = some (.int n) := fun _ => rfl
  obtain ⟨env', c', e1, rfl, s3, s4, s5, s6, s8, rfl⟩ := fr_pre (C := callK P (k + 2)) (t := .tup [.name 3, .name 4]) (b := b__law_behind_l0) (it := .seq (.call n__law_pairs [.ix (.var 0) (.con (.int 0))])) (φ := prV) (as := prs n) (c0 := c) (c := c)
    (I := fun pre env c' => LB n ps d (pre.filter (ans ps d)) env c' c)
    (env := [.val (cmpV n ps), .val (deedV d), .own (.lst []), .no, .no, .no, .no, .no, .no]) ⟨rfl, _, _, _, _, _, rfl⟩ (by
      have := f__law_pairs (k + 1) n c hn
      simp -implicitDefEqProofs only [e_con, e_var, e_bor, e_bin, k_bin, k_bin2, e_cmp, k_cmp, k_cmp2, e_neg, k_neg, e_nt, k_nt, k_truth, k_optB, e_and, k_and, k_andT, k_andF, e_or, k_or, k_orT, k_orF, e_ite, k_iteT, k_iteF, e_chain, k_ch, k_ch2, k_ch3T, k_ch3F, e_tup, k_tup, e_lst, k_lst, e_ix, k_ix, k_ix2, e_sl, k_sl, k_sl2, k_sl3, e_call, k_call, e_blt, k_blt, e_mth, k_mth, k_mth2, e_isin, k_is, e_pick, k_pick, k_pick2, es_nil, es_cons, k_es, k_es2, o_none, o_some, k_o, c_none, c_some, i_seq, k_seqT, k_seqL, i_r1, k_r1, i_r2, k_r2, k_r3, i_zip, k_zip, k_zipT, k_zipL, i_enum, k_enum, s_asg, k_asg, s_own, k_own2, k_slotL, k_slotD, k_slotV, s_par, k_par, k_par2, s_frz, s_app, k_app, k_app2, s_ife, k_ifeT, k_ifeF, s_whl, k_w, k_wT, k_wF, k_wN, k_wR, s_ret, k_ret, s_exp, k_exp, s_setC, k_setC, k_cup0, k_cup1, s_ap, k_ap, k_ap2, k_ap3, s_rc, k_rc, ss_nil, ss_cons, k_ssN, k_ssR, finR_rt, finR_nx, pureR_some, varv_0, varv_s, borv_0, borv_0o, borv_s, truth, startP, List.map_cons, List.map_nil, List.replicate_succ, List.replicate_zero, List.cons_append, List.nil_append, Nat.reduceSub, Nat.reduceAdd, bindT, bindTs, optS_some, List.set_cons_succ, List.set_cons_zero, wipeP, mkTup_0, mkTup_1, mkTup_2, mkTup_3, mkTup_4, mkTup_5, mkTup_6, mkTup_7, mkTup_8, mkLst_0, mkLst_1, mkLst_2, mkLst_3, mkLst_4, mkLst_5, mkLst_6, mkLst_7, mkLst_8, mkLst_9, mkLst_10, mkLst_11, mkLst_12, mkLst_13, mkLst_14, mkLst_15, mkLst_16, binop, cmpop, blV, Option.map_some, isTy, bltop, Bool.not_true, Bool.not_false, item_0, item_1, item_2, item_3, item_c0, item_c1, Option.bind_some, List.getElem?_cons_zero, List.getElem?_cons_succ, if_true, if_false, Bool.false_eq_true, and_self, dat_int, dat_bl, dat_non, peq_int, peq_bl, peq_nonnon, Int.cast_ofNat_Int, Int.reduceEq, Bool.and_self, List.length_cons, List.length_nil, Int.reduceLT, Int.reduceLE, Int.reduceAdd, Int.reduceSub, Nat.reduceLT, Nat.reduceLeDiff, decide_true, decide_false, Bool.or_true, Bool.true_or, true_and, and_true, e6, this]) fun pre x post hp env c1 ⟨hc, s3, s4, s5, s6, s8, he⟩ => by
    subst hc he
    have hx : x ∈ prs n := by rw [hp]; exact List.mem_append.mpr (.inr (List.mem_cons_self ..))
    have hl : (pre.filter (ans ps d)).length < 1000 := by
      have h1 := prs_len hn
      have h2 : pre.length ≤ (prs n).length := by rw [hp, List.length_append]; omega
      have h3 := List.length_filter_le (ans ps d) pre
      omega
    obtain ⟨a, b⟩ := x
    obtain ⟨s5', s6', s8', e⟩ := law_behind_step h k d hd a b hx (pre.filter (ans ps d)) hl s5 s6 s8 c1
    refine ⟨_, rfl, _, c1, e, rfl, .val (.int a), .val (.int b), s5', s6', s8', ?_⟩
    rw [List.filter_append, List.filter_cons, List.filter_nil]
    cases ans ps d (a, b)
    · rw [if_neg (by decide), if_neg (by decide), List.append_nil]
    · rw [if_pos rfl, if_pos rfl]
  have e2 : execS (callK P (k + 2)) b__law_behind_f0 [.val (cmpV n ps), .val (deedV d), .own (.lst []), .no, .no, .no, .no, .no, .no] c' = .nx [.val (cmpV n ps), .val (deedV d), .own (.lst (((prs n).filter (ans ps d)).map prV)), s3, s4, s5, s6, .no, s8] c' := e1
  refine call_ok rfl rfl ?_
  simp -implicitDefEqProofs only [e_con, e_var, e_bor, e_bin, k_bin, k_bin2, e_cmp, k_cmp, k_cmp2, e_neg, k_neg, e_nt, k_nt, k_truth, k_optB, e_and, k_and, k_andT, k_andF, e_or, k_or, k_orT, k_orF, e_ite, k_iteT, k_iteF, e_chain, k_ch, k_ch2, k_ch3T, k_ch3F, e_tup, k_tup, e_lst, k_lst, e_ix, k_ix, k_ix2, e_sl, k_sl, k_sl2, k_sl3, e_call, k_call, e_blt, k_blt, e_mth, k_mth, k_mth2, e_isin, k_is, e_pick, k_pick, k_pick2, es_nil, es_cons, k_es, k_es2, o_none, o_some, k_o, c_none, c_some, i_seq, k_seqT, k_seqL, i_r1, k_r1, i_r2, k_r2, k_r3, i_zip, k_zip, k_zipT, k_zipL, i_enum, k_enum, s_asg, k_asg, s_own, k_own2, k_slotL, k_slotD, k_slotV, s_par, k_par, k_par2, s_frz, s_app, k_app, k_app2, s_ife, k_ifeT, k_ifeF, s_whl, k_w, k_wT, k_wF, k_wN, k_wR, s_ret, k_ret, s_exp, k_exp, s_setC, k_setC, k_cup0, k_cup1, s_ap, k_ap, k_ap2, k_ap3, s_rc, k_rc, ss_nil, ss_cons, k_ssN, k_ssR, finR_rt, finR_nx, pureR_some, varv_0, varv_s, borv_0, borv_0o, borv_s, truth, startP, List.map_cons, List.map_nil, List.replicate_succ, List.replicate_zero, List.cons_append, List.nil_append, Nat.reduceSub, Nat.reduceAdd, bindT, bindTs, optS_some, List.set_cons_succ, List.set_cons_zero, wipeP, mkTup_0, mkTup_1, mkTup_2, mkTup_3, mkTup_4, mkTup_5, mkTup_6, mkTup_7, mkTup_8, mkLst_0, mkLst_1, mkLst_2, mkLst_3, mkLst_4, mkLst_5, mkLst_6, mkLst_7, mkLst_8, mkLst_9, mkLst_10, mkLst_11, mkLst_12, mkLst_13, mkLst_14, mkLst_15, mkLst_16, binop, cmpop, blV, Option.map_some, isTy, bltop, Bool.not_true, Bool.not_false, item_0, item_1, item_2, item_3, item_c0, item_c1, Option.bind_some, List.getElem?_cons_zero, List.getElem?_cons_succ, if_true, if_false, Bool.false_eq_true, and_self, dat_int, dat_bl, dat_non, peq_int, peq_bl, peq_nonnon, Int.cast_ofNat_Int, Int.reduceEq, Bool.and_self, List.length_cons, List.length_nil, Int.reduceLT, Int.reduceLE, Int.reduceAdd, Int.reduceSub, Nat.reduceLT, Nat.reduceLeDiff, decide_true, decide_false, Bool.or_true, Bool.true_or, true_and, and_true, b__law_behind, e2, e6]
  rfl
theorem bits_of {ys : List PV} (h : ∀ y ∈ ys, y = .int 0 ∨ y = .int 1) : ∃ as : List Int, ys = as.map .int ∧ bits as := by
  induction ys with
  | nil => exact ⟨[], rfl, fun a ha => nomatch ha⟩
  | cons y ys ih =>
    obtain ⟨as, rfl, hb⟩ := ih fun z hz => h z (List.mem_cons_of_mem _ hz)
    have e : y = .int 0 ∨ y = .int 1 := h y (List.mem_cons_self ..)
    rcases e with rfl | rfl
    · exact ⟨0 :: as, rfl, fun a ha => by
        rcases List.mem_cons.mp ha with rfl | ha
        · decide
        · exact hb a ha⟩
    · exact ⟨1 :: as, rfl, fun a ha => by
        rcases List.mem_cons.mp ha with rfl | ha
        · decide
        · exact hb a ha⟩
theorem f__law_answers (k m : Nat) (hm : m ≤ 100) (c : List PV) (hc : Cup c) : ∃ as c', callK P (k + 2) n__law_answers [.cup, .int m] c = .ok (.tup (as.map .int)) c' ∧ Cup c' ∧ as.length = m ∧ bits as := by
  obtain ⟨ys, c', e, hc', hl, hy⟩ := comp_all (C := callK P (k + 1)) (vs := [2]) (t := .name 2) (e := .call n__law_roll [.var 0, .con (.int 2)]) (it := .range1 (.var 1)) (I := Cup) (G := fun y => y = .int 0 ∨ y = .int 1) (as := List.range m) (φ := fun (i : Nat) => PV.int (i : Int)) (env := [.val .cup, .val (.int m), .no]) (c0 := c) hc
    (by have := okR_s (i := m) (by omega) (by omega)
        simp -implicitDefEqProofs only [e_con, e_var, e_bor, e_bin, k_bin, k_bin2, e_cmp, k_cmp, k_cmp2, e_neg, k_neg, e_nt, k_nt, k_truth, k_optB, e_and, k_and, k_andT, k_andF, e_or, k_or, k_orT, k_orF, e_ite, k_iteT, k_iteF, e_chain, k_ch, k_ch2, k_ch3T, k_ch3F, e_tup, k_tup, e_lst, k_lst, e_ix, k_ix, k_ix2, e_sl, k_sl, k_sl2, k_sl3, e_call, k_call, e_blt, k_blt, e_mth, k_mth, k_mth2, e_isin, k_is, e_pick, k_pick, k_pick2, es_nil, es_cons, k_es, k_es2, o_none, o_some, k_o, c_none, c_some, i_seq, k_seqT, k_seqL, i_r1, k_r1, i_r2, k_r2, k_r3, i_zip, k_zip, k_zipT, k_zipL, i_enum, k_enum, s_asg, k_asg, s_own, k_own2, k_slotL, k_slotD, k_slotV, s_par, k_par, k_par2, s_frz, s_app, k_app, k_app2, s_ife, k_ifeT, k_ifeF, s_whl, k_w, k_wT, k_wF, k_wN, k_wR, s_ret, k_ret, s_exp, k_exp, s_setC, k_setC, k_cup0, k_cup1, s_ap, k_ap, k_ap2, k_ap3, s_rc, k_rc, ss_nil, ss_cons, k_ssN, k_ssR, finR_rt, finR_nx, pureR_some, varv_0, varv_s, borv_0, borv_0o, borv_s, truth, startP, List.map_cons, List.map_nil, List.replicate_succ, List.replicate_zero, List.cons_append, List.nil_append, Nat.reduceSub, Nat.reduceAdd, bindT, bindTs, optS_some, List.set_cons_succ, List.set_cons_zero, wipeP, mkTup_0, mkTup_1, mkTup_2, mkTup_3, mkTup_4, mkTup_5, mkTup_6, mkTup_7, mkTup_8, mkLst_0, mkLst_1, mkLst_2, mkLst_3, mkLst_4, mkLst_5, mkLst_6, mkLst_7, mkLst_8, mkLst_9, mkLst_10, mkLst_11, mkLst_12, mkLst_13, mkLst_14, mkLst_15, mkLst_16, binop, cmpop, blV, Option.map_some, isTy, bltop, Bool.not_true, Bool.not_false, item_0, item_1, item_2, item_3, item_c0, item_c1, Option.bind_some, List.getElem?_cons_zero, List.getElem?_cons_succ, if_true, if_false, Bool.false_eq_true, and_self, dat_int, dat_bl, dat_non, peq_int, peq_bl, peq_nonnon, Int.cast_ofNat_Int, Int.reduceEq, Bool.and_self, List.length_cons, List.length_nil, Int.reduceLT, Int.reduceLE, Int.reduceAdd, Int.reduceSub, Nat.reduceLT, Nat.reduceLeDiff, decide_true, decide_false, Bool.or_true, Bool.true_or, true_and, and_true, this, rng0])
    (fun x _ => ⟨_, rfl, fun c hc => by
      obtain ⟨r, c1, e, hc1, r1, r2⟩ := f__law_roll k 2 c hc (by decide) (by decide)
      refine ⟨.int r, c1, ?_, hc1, ?_⟩
      · simp -implicitDefEqProofs only [e_con, e_var, e_bor, e_bin, k_bin, k_bin2, e_cmp, k_cmp, k_cmp2, e_neg, k_neg, e_nt, k_nt, k_truth, k_optB, e_and, k_and, k_andT, k_andF, e_or, k_or, k_orT, k_orF, e_ite, k_iteT, k_iteF, e_chain, k_ch, k_ch2, k_ch3T, k_ch3F, e_tup, k_tup, e_lst, k_lst, e_ix, k_ix, k_ix2, e_sl, k_sl, k_sl2, k_sl3, e_call, k_call, e_blt, k_blt, e_mth, k_mth, k_mth2, e_isin, k_is, e_pick, k_pick, k_pick2, es_nil, es_cons, k_es, k_es2, o_none, o_some, k_o, c_none, c_some, i_seq, k_seqT, k_seqL, i_r1, k_r1, i_r2, k_r2, k_r3, i_zip, k_zip, k_zipT, k_zipL, i_enum, k_enum, s_asg, k_asg, s_own, k_own2, k_slotL, k_slotD, k_slotV, s_par, k_par, k_par2, s_frz, s_app, k_app, k_app2, s_ife, k_ifeT, k_ifeF, s_whl, k_w, k_wT, k_wF, k_wN, k_wR, s_ret, k_ret, s_exp, k_exp, s_setC, k_setC, k_cup0, k_cup1, s_ap, k_ap, k_ap2, k_ap3, s_rc, k_rc, ss_nil, ss_cons, k_ssN, k_ssR, finR_rt, finR_nx, pureR_some, varv_0, varv_s, borv_0, borv_0o, borv_s, truth, startP, List.map_cons, List.map_nil, List.replicate_succ, List.replicate_zero, List.cons_append, List.nil_append, Nat.reduceSub, Nat.reduceAdd, bindT, bindTs, optS_some, List.set_cons_succ, List.set_cons_zero, wipeP, mkTup_0, mkTup_1, mkTup_2, mkTup_3, mkTup_4, mkTup_5, mkTup_6, mkTup_7, mkTup_8, mkLst_0, mkLst_1, mkLst_2, mkLst_3, mkLst_4, mkLst_5, mkLst_6, mkLst_7, mkLst_8, mkLst_9, mkLst_10, mkLst_11, mkLst_12, mkLst_13, mkLst_14, mkLst_15, mkLst_16, binop, cmpop, blV, Option.map_some, isTy, bltop, Bool.not_true, Bool.not_false, item_0, item_1, item_2, item_3, item_c0, item_c1, Option.bind_some, List.getElem?_cons_zero, List.getElem?_cons_succ, if_true, if_false, Bool.false_eq_true, and_self, dat_int, dat_bl, dat_non, peq_int, peq_bl, peq_nonnon, Int.cast_ofNat_Int, Int.reduceEq, Bool.and_self, List.length_cons, List.length_nil, Int.reduceLT, Int.reduceLE, Int.reduceAdd, Int.reduceSub, Nat.reduceLT, Nat.reduceLeDiff, decide_true, decide_false, Bool.or_true, Bool.true_or, true_and, and_true, e]
      · rcases (show r = 0 ∨ r = 1 by omega) with rfl | rfl
        · exact .inl rfl
        · exact .inr rfl⟩) (by rw [List.length_range]; unfold LIM; omega)
  obtain ⟨as, rfl, hb⟩ := bits_of hy
  rw [List.length_map, List.length_range] at hl
  have e2 : evalE (callK P (k + 1)) b__law_answers_c0 [.val .cup, .val (.int m), .no] c = .ok (.lst (as.map .int)) c' := e
  refine ⟨as, c', call_ok rfl rfl ?_, hc', hl, hb⟩
  simp -implicitDefEqProofs only [e_con, e_var, e_bor, e_bin, k_bin, k_bin2, e_cmp, k_cmp, k_cmp2, e_neg, k_neg, e_nt, k_nt, k_truth, k_optB, e_and, k_and, k_andT, k_andF, e_or, k_or, k_orT, k_orF, e_ite, k_iteT, k_iteF, e_chain, k_ch, k_ch2, k_ch3T, k_ch3F, e_tup, k_tup, e_lst, k_lst, e_ix, k_ix, k_ix2, e_sl, k_sl, k_sl2, k_sl3, e_call, k_call, e_blt, k_blt, e_mth, k_mth, k_mth2, e_isin, k_is, e_pick, k_pick, k_pick2, es_nil, es_cons, k_es, k_es2, o_none, o_some, k_o, c_none, c_some, i_seq, k_seqT, k_seqL, i_r1, k_r1, i_r2, k_r2, k_r3, i_zip, k_zip, k_zipT, k_zipL, i_enum, k_enum, s_asg, k_asg, s_own, k_own2, k_slotL, k_slotD, k_slotV, s_par, k_par, k_par2, s_frz, s_app, k_app, k_app2, s_ife, k_ifeT, k_ifeF, s_whl, k_w, k_wT, k_wF, k_wN, k_wR, s_ret, k_ret, s_exp, k_exp, s_setC, k_setC, k_cup0, k_cup1, s_ap, k_ap, k_ap2, k_ap3, s_rc, k_rc, ss_nil, ss_cons, k_ssN, k_ssR, finR_rt, finR_nx, pureR_some, varv_0, varv_s, borv_0, borv_0o, borv_s, truth, startP, List.map_cons, List.map_nil, List.replicate_succ, List.replicate_zero, List.cons_append, List.nil_append, Nat.reduceSub, Nat.reduceAdd, bindT, bindTs, optS_some, List.set_cons_succ, List.set_cons_zero, wipeP, mkTup_0, mkTup_1, mkTup_2, mkTup_3, mkTup_4, mkTup_5, mkTup_6, mkTup_7, mkTup_8, mkLst_0, mkLst_1, mkLst_2, mkLst_3, mkLst_4, mkLst_5, mkLst_6, mkLst_7, mkLst_8, mkLst_9, mkLst_10, mkLst_11, mkLst_12, mkLst_13, mkLst_14, mkLst_15, mkLst_16, binop, cmpop, blV, Option.map_some, isTy, bltop, Bool.not_true, Bool.not_false, item_0, item_1, item_2, item_3, item_c0, item_c1, Option.bind_some, List.getElem?_cons_zero, List.getElem?_cons_succ, if_true, if_false, Bool.false_eq_true, and_self, dat_int, dat_bl, dat_non, peq_int, peq_bl, peq_nonnon, Int.cast_ofNat_Int, Int.reduceEq, Bool.and_self, List.length_cons, List.length_nil, Int.reduceLT, Int.reduceLE, Int.reduceAdd, Int.reduceSub, Nat.reduceLT, Nat.reduceLeDiff, decide_true, decide_false, Bool.or_true, Bool.true_or, true_and, and_true, b__law_answers, e2]
end
/-! K08F: deeds drawn; the law. -/
/-- answers, so many -/
def Ans (m : Nat) (x : PV) : Prop := ∃ as : List Int, x = .tup (as.map .int) ∧ as.length = m ∧ bits as
theorem bits_dec {as : List Int} (h : as.all (fun a => decide (0 ≤ a) && decide (a ≤ 1)) = true) : bits as := fun a ha => by
  have := List.all_eq_true.mp h a ha
  rw [Bool.and_eq_true, decide_eq_true_iff, decide_eq_true_iff] at this
  exact this
theorem f__law_deed (k named : Nat) (h1 : 1 ≤ named) (h2 : named ≤ 3) (c : List PV) (hc : Cup c) : ∃ d c', callK P (k + 3) n__law_deed [.cup, .int named] c = .ok (deedV d) c' ∧ Cup c' ∧ DOk named d := by
  obtain ⟨p, c1, e1, hc1, p1, p2⟩ := f__law_roll (k + 1) named c hc (by omega) (by omega)
  obtain ⟨p, rfl⟩ := Int.eq_ofNat_of_zero_le p1
  have hp : p < named := by omega
  -- pairs
  have pairs : ∀ c2, Cup c2 → ∃ d c', execSs (callK P (k + 2)) [.asg (.name 3) (.lst [.tup [.con (.int 0), .con (.int 0), .con (.int 1), .con (.int 1), .con (.int 1), .con (.int 1)], .tup [.con (.int 0), .con (.int 0), .con (.int 0), .con (.int 1), .con (.int 1), .con (.int 0)], .tup [.con (.int 1), .con (.int 0), .con (.int 0), .con (.int 1), .con (.int 1), .con (.int 1)], .tup [.con (.int 0), .con (.int 0), .con (.int 1), .con (.int 1), .con (.int 1), .con (.int 0)], .tup [.con (.int 1), .con (.int 1), .con (.int 1), .con (.int 0), .con (.int 0), .con (.int 0)], .tup [.con (.int 0), .con (.int 0), .con (.int 0), .con (.int 1), .con (.int 1), .con (.int 1)], .tup [.con (.int 0), .con (.int 1), .con (.int 0), .con (.int 0), .con (.int 1), .con (.int 0)]]), .ret (.tup [.con (.str "pairs"), .var 2, .call n__law_some [.var 0, .bin .add (.var 3) (.lst [.call n__law_answers [.var 0, .con (.int 6)], .call n__law_answers [.var 0, .con (.int 6)], .call n__law_answers [.var 0, .con (.int 6)]])]])]
      [.val .cup, .val (.int named), .val (.int p), .no, .no, .no] c2 = .rt (deedV d) c' ∧ Cup c' ∧ DOk named d := fun c2 hc2 => by
    obtain ⟨a1, c3, x1, hc3, l1, b1⟩ := f__law_answers k 6 (by decide) c2 hc2
    obtain ⟨a2, c4, x2, hc4, l2, b2⟩ := f__law_answers k 6 (by decide) c3 hc3
    obtain ⟨a3, c5, x3, hc5, l3, b3⟩ := f__law_answers k 6 (by decide) c4 hc4
    have x1 : callK P (k + 2) n__law_answers [.cup, .int 6] c2 = .ok (.tup (a1.map .int)) c3 := x1
    have x2 : callK P (k + 2) n__law_answers [.cup, .int 6] c3 = .ok (.tup (a2.map .int)) c4 := x2
    have x3 : callK P (k + 2) n__law_answers [.cup, .int 6] c4 = .ok (.tup (a3.map .int)) c5 := x3
    obtain ⟨y, c6, x4, hc6, hy⟩ := f__law_some k [.tup [.int 0, .int 0, .int 1, .int 1, .int 1, .int 1], .tup [.int 0, .int 0, .int 0, .int 1, .int 1, .int 0], .tup [.int 1, .int 0, .int 0, .int 1, .int 1, .int 1], .tup [.int 0, .int 0, .int 1, .int 1, .int 1, .int 0], .tup [.int 1, .int 1, .int 1, .int 0, .int 0, .int 0], .tup [.int 0, .int 0, .int 0, .int 1, .int 1, .int 1], .tup [.int 0, .int 1, .int 0, .int 0, .int 1, .int 0], .tup (a1.map .int), .tup (a2.map .int), .tup (a3.map .int)] c5 hc5 (by simp) (by simp)
    have hA : Ans 6 y := by
      simp only [List.mem_cons, List.not_mem_nil, or_false] at hy
      rcases hy with rfl | rfl | rfl | rfl | rfl | rfl | rfl | rfl | rfl | rfl
      · exact ⟨[0, 0, 1, 1, 1, 1], rfl, rfl, bits_dec (by decide)⟩
      · exact ⟨[0, 0, 0, 1, 1, 0], rfl, rfl, bits_dec (by decide)⟩
      · exact ⟨[1, 0, 0, 1, 1, 1], rfl, rfl, bits_dec (by decide)⟩
      · exact ⟨[0, 0, 1, 1, 1, 0], rfl, rfl, bits_dec (by decide)⟩
      · exact ⟨[1, 1, 1, 0, 0, 0], rfl, rfl, bits_dec (by decide)⟩
      · exact ⟨[0, 0, 0, 1, 1, 1], rfl, rfl, bits_dec (by decide)⟩
      · exact ⟨[0, 1, 0, 0, 1, 0], rfl, rfl, bits_dec (by decide)⟩
      · exact ⟨a1, rfl, l1, b1⟩
      · exact ⟨a2, rfl, l2, b2⟩
      · exact ⟨a3, rfl, l3, b3⟩
    obtain ⟨as, rfl, la, ba⟩ := hA
    refine ⟨.pairs p as, c6, ?_, hc6, hp, la, ba⟩
    simp -implicitDefEqProofs only [e_con, e_var, e_bor, e_bin, k_bin, k_bin2, e_cmp, k_cmp, k_cmp2, e_neg, k_neg, e_nt, k_nt, k_truth, k_optB, e_and, k_and, k_andT, k_andF, e_or, k_or, k_orT, k_orF, e_ite, k_iteT, k_iteF, e_chain, k_ch, k_ch2, k_ch3T, k_ch3F, e_tup, k_tup, e_lst, k_lst, e_ix, k_ix, k_ix2, e_sl, k_sl, k_sl2, k_sl3, e_call, k_call, e_blt, k_blt, e_mth, k_mth, k_mth2, e_isin, k_is, e_pick, k_pick, k_pick2, es_nil, es_cons, k_es, k_es2, o_none, o_some, k_o, c_none, c_some, i_seq, k_seqT, k_seqL, i_r1, k_r1, i_r2, k_r2, k_r3, i_zip, k_zip, k_zipT, k_zipL, i_enum, k_enum, s_asg, k_asg, s_own, k_own2, k_slotL, k_slotD, k_slotV, s_par, k_par, k_par2, s_frz, s_app, k_app, k_app2, s_ife, k_ifeT, k_ifeF, s_whl, k_w, k_wT, k_wF, k_wN, k_wR, s_ret, k_ret, s_exp, k_exp, s_setC, k_setC, k_cup0, k_cup1, s_ap, k_ap, k_ap2, k_ap3, s_rc, k_rc, ss_nil, ss_cons, k_ssN, k_ssR, finR_rt, finR_nx, pureR_some, varv_0, varv_s, borv_0, borv_0o, borv_s, truth, startP, List.map_cons, List.map_nil, List.replicate_succ, List.replicate_zero, List.cons_append, List.nil_append, Nat.reduceSub, Nat.reduceAdd, bindT, bindTs, optS_some, List.set_cons_succ, List.set_cons_zero, wipeP, mkTup_0, mkTup_1, mkTup_2, mkTup_3, mkTup_4, mkTup_5, mkTup_6, mkTup_7, mkTup_8, mkLst_0, mkLst_1, mkLst_2, mkLst_3, mkLst_4, mkLst_5, mkLst_6, mkLst_7, mkLst_8, mkLst_9, mkLst_10, mkLst_11, mkLst_12, mkLst_13, mkLst_14, mkLst_15, mkLst_16, binop, cmpop, blV, Option.map_some, isTy, bltop, Bool.not_true, Bool.not_false, item_0, item_1, item_2, item_3, item_c0, item_c1, Option.bind_some, List.getElem?_cons_zero, List.getElem?_cons_succ, if_true, if_false, Bool.false_eq_true, and_self, dat_int, dat_bl, dat_non, peq_int, peq_bl, peq_nonnon, Int.cast_ofNat_Int, Int.reduceEq, Bool.and_self, List.length_cons, List.length_nil, Int.reduceLT, Int.reduceLE, Int.reduceAdd, Int.reduceSub, Nat.reduceLT, Nat.reduceLeDiff, decide_true, decide_false, Bool.or_true, Bool.true_or, true_and, and_true, x1, x2, x3, x4]
    rfl
  by_cases hn : (named : Int) = 1
  · obtain ⟨d, c', e, hc', hd⟩ := pairs c1 hc1
    refine ⟨d, c', call_ok rfl rfl ?_, hc', hd⟩
    unfold b__law_deed
    generalize hP : [Sm.asg (FN := Nat) (.name 3) _, Sm.ret _] = PB at e ⊢
    rw [hn] at e e1 ⊢
    simp -implicitDefEqProofs only [e_con, e_var, e_bor, e_bin, k_bin, k_bin2, e_cmp, k_cmp, k_cmp2, e_neg, k_neg, e_nt, k_nt, k_truth, k_optB, e_and, k_and, k_andT, k_andF, e_or, k_or, k_orT, k_orF, e_ite, k_iteT, k_iteF, e_chain, k_ch, k_ch2, k_ch3T, k_ch3F, e_tup, k_tup, e_lst, k_lst, e_ix, k_ix, k_ix2, e_sl, k_sl, k_sl2, k_sl3, e_call, k_call, e_blt, k_blt, e_mth, k_mth, k_mth2, e_isin, k_is, e_pick, k_pick, k_pick2, es_nil, es_cons, k_es, k_es2, o_none, o_some, k_o, c_none, c_some, i_seq, k_seqT, k_seqL, i_r1, k_r1, i_r2, k_r2, k_r3, i_zip, k_zip, k_zipT, k_zipL, i_enum, k_enum, s_asg, k_asg, s_own, k_own2, k_slotL, k_slotD, k_slotV, s_par, k_par, k_par2, s_frz, s_app, k_app, k_app2, s_ife, k_ifeT, k_ifeF, s_whl, k_w, k_wT, k_wF, k_wN, k_wR, s_ret, k_ret, s_exp, k_exp, s_setC, k_setC, k_cup0, k_cup1, s_ap, k_ap, k_ap2, k_ap3, s_rc, k_rc, ss_nil, ss_cons, k_ssN, k_ssR, finR_rt, finR_nx, pureR_some, varv_0, varv_s, borv_0, borv_0o, borv_s, truth, startP, List.map_cons, List.map_nil, List.replicate_succ, List.replicate_zero, List.cons_append, List.nil_append, Nat.reduceSub, Nat.reduceAdd, bindT, bindTs, optS_some, List.set_cons_succ, List.set_cons_zero, wipeP, mkTup_0, mkTup_1, mkTup_2, mkTup_3, mkTup_4, mkTup_5, mkTup_6, mkTup_7, mkTup_8, mkLst_0, mkLst_1, mkLst_2, mkLst_3, mkLst_4, mkLst_5, mkLst_6, mkLst_7, mkLst_8, mkLst_9, mkLst_10, mkLst_11, mkLst_12, mkLst_13, mkLst_14, mkLst_15, mkLst_16, binop, cmpop, blV, Option.map_some, isTy, bltop, Bool.not_true, Bool.not_false, item_0, item_1, item_2, item_3, item_c0, item_c1, Option.bind_some, List.getElem?_cons_zero, List.getElem?_cons_succ, if_true, if_false, Bool.false_eq_true, and_self, dat_int, dat_bl, dat_non, peq_int, peq_bl, peq_nonnon, Int.cast_ofNat_Int, Int.reduceEq, Bool.and_self, List.length_cons, List.length_nil, Int.reduceLT, Int.reduceLE, Int.reduceAdd, Int.reduceSub, Nat.reduceLT, Nat.reduceLeDiff, decide_true, decide_false, Bool.or_true, Bool.true_or, true_and, and_true, e1, e]
  · obtain ⟨w, c2, e2, hc2, w1, w2⟩ := f__law_roll (k + 1) 5 c1 hc1 (by decide) (by decide)
    by_cases hw : w < 2
    · obtain ⟨d, c', e, hc', hd⟩ := pairs c2 hc2
      refine ⟨d, c', call_ok rfl rfl ?_, hc', hd⟩
      unfold b__law_deed
      generalize hP : [Sm.asg (FN := Nat) (.name 3) _, Sm.ret _] = PB at e ⊢
      simp -implicitDefEqProofs only [e_con, e_var, e_bor, e_bin, k_bin, k_bin2, e_cmp, k_cmp, k_cmp2, e_neg, k_neg, e_nt, k_nt, k_truth, k_optB, e_and, k_and, k_andT, k_andF, e_or, k_or, k_orT, k_orF, e_ite, k_iteT, k_iteF, e_chain, k_ch, k_ch2, k_ch3T, k_ch3F, e_tup, k_tup, e_lst, k_lst, e_ix, k_ix, k_ix2, e_sl, k_sl, k_sl2, k_sl3, e_call, k_call, e_blt, k_blt, e_mth, k_mth, k_mth2, e_isin, k_is, e_pick, k_pick, k_pick2, es_nil, es_cons, k_es, k_es2, o_none, o_some, k_o, c_none, c_some, i_seq, k_seqT, k_seqL, i_r1, k_r1, i_r2, k_r2, k_r3, i_zip, k_zip, k_zipT, k_zipL, i_enum, k_enum, s_asg, k_asg, s_own, k_own2, k_slotL, k_slotD, k_slotV, s_par, k_par, k_par2, s_frz, s_app, k_app, k_app2, s_ife, k_ifeT, k_ifeF, s_whl, k_w, k_wT, k_wF, k_wN, k_wR, s_ret, k_ret, s_exp, k_exp, s_setC, k_setC, k_cup0, k_cup1, s_ap, k_ap, k_ap2, k_ap3, s_rc, k_rc, ss_nil, ss_cons, k_ssN, k_ssR, finR_rt, finR_nx, pureR_some, varv_0, varv_s, borv_0, borv_0o, borv_s, truth, startP, List.map_cons, List.map_nil, List.replicate_succ, List.replicate_zero, List.cons_append, List.nil_append, Nat.reduceSub, Nat.reduceAdd, bindT, bindTs, optS_some, List.set_cons_succ, List.set_cons_zero, wipeP, mkTup_0, mkTup_1, mkTup_2, mkTup_3, mkTup_4, mkTup_5, mkTup_6, mkTup_7, mkTup_8, mkLst_0, mkLst_1, mkLst_2, mkLst_3, mkLst_4, mkLst_5, mkLst_6, mkLst_7, mkLst_8, mkLst_9, mkLst_10, mkLst_11, mkLst_12, mkLst_13, mkLst_14, mkLst_15, mkLst_16, binop, cmpop, blV, Option.map_some, isTy, bltop, Bool.not_true, Bool.not_false, item_0, item_1, item_2, item_3, item_c0, item_c1, Option.bind_some, List.getElem?_cons_zero, List.getElem?_cons_succ, if_true, if_false, Bool.false_eq_true, and_self, dat_int, dat_bl, dat_non, peq_int, peq_bl, peq_nonnon, Int.cast_ofNat_Int, Int.reduceEq, Bool.and_self, List.length_cons, List.length_nil, Int.reduceLT, Int.reduceLE, Int.reduceAdd, Int.reduceSub, Nat.reduceLT, Nat.reduceLeDiff, decide_true, decide_false, Bool.or_true, Bool.true_or, true_and, and_true, e1, hn, e2, hw, e]
    · have ec : evalE (callK P (k + 2)) b__law_deed_c0 [.val .cup, .val (.int named), .val (.int p), .no, .no, .no] c2 = .ok (.lst (((List.range named).filter fun (j : Nat) => !decide ((j : Int) = p)).map fun (j : Nat) => PV.int (j : Int))) c2 := by
        refine comp_pure (List.range named) (fun (j : Nat) => PV.int (j : Int)) (fun (j : Nat) => !decide ((j : Int) = p)) (fun (j : Nat) => PV.int (j : Int)) ?_ (fun x hm => ⟨_, rfl, ?_, fun _ => ?_⟩) (by unfold LIM; rw [List.length_range]; omega)
        · have := okR_s (i := named) (by omega) (by omega)
          simp -implicitDefEqProofs only [e_con, e_var, e_bor, e_bin, k_bin, k_bin2, e_cmp, k_cmp, k_cmp2, e_neg, k_neg, e_nt, k_nt, k_truth, k_optB, e_and, k_and, k_andT, k_andF, e_or, k_or, k_orT, k_orF, e_ite, k_iteT, k_iteF, e_chain, k_ch, k_ch2, k_ch3T, k_ch3F, e_tup, k_tup, e_lst, k_lst, e_ix, k_ix, k_ix2, e_sl, k_sl, k_sl2, k_sl3, e_call, k_call, e_blt, k_blt, e_mth, k_mth, k_mth2, e_isin, k_is, e_pick, k_pick, k_pick2, es_nil, es_cons, k_es, k_es2, o_none, o_some, k_o, c_none, c_some, i_seq, k_seqT, k_seqL, i_r1, k_r1, i_r2, k_r2, k_r3, i_zip, k_zip, k_zipT, k_zipL, i_enum, k_enum, s_asg, k_asg, s_own, k_own2, k_slotL, k_slotD, k_slotV, s_par, k_par, k_par2, s_frz, s_app, k_app, k_app2, s_ife, k_ifeT, k_ifeF, s_whl, k_w, k_wT, k_wF, k_wN, k_wR, s_ret, k_ret, s_exp, k_exp, s_setC, k_setC, k_cup0, k_cup1, s_ap, k_ap, k_ap2, k_ap3, s_rc, k_rc, ss_nil, ss_cons, k_ssN, k_ssR, finR_rt, finR_nx, pureR_some, varv_0, varv_s, borv_0, borv_0o, borv_s, truth, startP, List.map_cons, List.map_nil, List.replicate_succ, List.replicate_zero, List.cons_append, List.nil_append, Nat.reduceSub, Nat.reduceAdd, bindT, bindTs, optS_some, List.set_cons_succ, List.set_cons_zero, wipeP, mkTup_0, mkTup_1, mkTup_2, mkTup_3, mkTup_4, mkTup_5, mkTup_6, mkTup_7, mkTup_8, mkLst_0, mkLst_1, mkLst_2, mkLst_3, mkLst_4, mkLst_5, mkLst_6, mkLst_7, mkLst_8, mkLst_9, mkLst_10, mkLst_11, mkLst_12, mkLst_13, mkLst_14, mkLst_15, mkLst_16, binop, cmpop, blV, Option.map_some, isTy, bltop, Bool.not_true, Bool.not_false, item_0, item_1, item_2, item_3, item_c0, item_c1, Option.bind_some, List.getElem?_cons_zero, List.getElem?_cons_succ, if_true, if_false, Bool.false_eq_true, and_self, dat_int, dat_bl, dat_non, peq_int, peq_bl, peq_nonnon, Int.cast_ofNat_Int, Int.reduceEq, Bool.and_self, List.length_cons, List.length_nil, Int.reduceLT, Int.reduceLE, Int.reduceAdd, Int.reduceSub, Nat.reduceLT, Nat.reduceLeDiff, decide_true, decide_false, Bool.or_true, Bool.true_or, true_and, and_true, this, rng0]
        · simp -implicitDefEqProofs only [e_con, e_var, e_bor, e_bin, k_bin, k_bin2, e_cmp, k_cmp, k_cmp2, e_neg, k_neg, e_nt, k_nt, k_truth, k_optB, e_and, k_and, k_andT, k_andF, e_or, k_or, k_orT, k_orF, e_ite, k_iteT, k_iteF, e_chain, k_ch, k_ch2, k_ch3T, k_ch3F, e_tup, k_tup, e_lst, k_lst, e_ix, k_ix, k_ix2, e_sl, k_sl, k_sl2, k_sl3, e_call, k_call, e_blt, k_blt, e_mth, k_mth, k_mth2, e_isin, k_is, e_pick, k_pick, k_pick2, es_nil, es_cons, k_es, k_es2, o_none, o_some, k_o, c_none, c_some, i_seq, k_seqT, k_seqL, i_r1, k_r1, i_r2, k_r2, k_r3, i_zip, k_zip, k_zipT, k_zipL, i_enum, k_enum, s_asg, k_asg, s_own, k_own2, k_slotL, k_slotD, k_slotV, s_par, k_par, k_par2, s_frz, s_app, k_app, k_app2, s_ife, k_ifeT, k_ifeF, s_whl, k_w, k_wT, k_wF, k_wN, k_wR, s_ret, k_ret, s_exp, k_exp, s_setC, k_setC, k_cup0, k_cup1, s_ap, k_ap, k_ap2, k_ap3, s_rc, k_rc, ss_nil, ss_cons, k_ssN, k_ssR, finR_rt, finR_nx, pureR_some, varv_0, varv_s, borv_0, borv_0o, borv_s, truth, startP, List.map_cons, List.map_nil, List.replicate_succ, List.replicate_zero, List.cons_append, List.nil_append, Nat.reduceSub, Nat.reduceAdd, bindT, bindTs, optS_some, List.set_cons_succ, List.set_cons_zero, wipeP, mkTup_0, mkTup_1, mkTup_2, mkTup_3, mkTup_4, mkTup_5, mkTup_6, mkTup_7, mkTup_8, mkLst_0, mkLst_1, mkLst_2, mkLst_3, mkLst_4, mkLst_5, mkLst_6, mkLst_7, mkLst_8, mkLst_9, mkLst_10, mkLst_11, mkLst_12, mkLst_13, mkLst_14, mkLst_15, mkLst_16, binop, cmpop, blV, Option.map_some, isTy, bltop, Bool.not_true, Bool.not_false, item_0, item_1, item_2, item_3, item_c0, item_c1, Option.bind_some, List.getElem?_cons_zero, List.getElem?_cons_succ, if_true, if_false, Bool.false_eq_true, and_self, dat_int, dat_bl, dat_non, peq_int, peq_bl, peq_nonnon, Int.cast_ofNat_Int, Int.reduceEq, Bool.and_self, List.length_cons, List.length_nil, Int.reduceLT, Int.reduceLE, Int.reduceAdd, Int.reduceSub, Nat.reduceLT, Nat.reduceLeDiff, decide_true, decide_false, Bool.or_true, Bool.true_or, true_and, and_true]
        · simp -implicitDefEqProofs only [e_con, e_var, e_bor, e_bin, k_bin, k_bin2, e_cmp, k_cmp, k_cmp2, e_neg, k_neg, e_nt, k_nt, k_truth, k_optB, e_and, k_and, k_andT, k_andF, e_or, k_or, k_orT, k_orF, e_ite, k_iteT, k_iteF, e_chain, k_ch, k_ch2, k_ch3T, k_ch3F, e_tup, k_tup, e_lst, k_lst, e_ix, k_ix, k_ix2, e_sl, k_sl, k_sl2, k_sl3, e_call, k_call, e_blt, k_blt, e_mth, k_mth, k_mth2, e_isin, k_is, e_pick, k_pick, k_pick2, es_nil, es_cons, k_es, k_es2, o_none, o_some, k_o, c_none, c_some, i_seq, k_seqT, k_seqL, i_r1, k_r1, i_r2, k_r2, k_r3, i_zip, k_zip, k_zipT, k_zipL, i_enum, k_enum, s_asg, k_asg, s_own, k_own2, k_slotL, k_slotD, k_slotV, s_par, k_par, k_par2, s_frz, s_app, k_app, k_app2, s_ife, k_ifeT, k_ifeF, s_whl, k_w, k_wT, k_wF, k_wN, k_wR, s_ret, k_ret, s_exp, k_exp, s_setC, k_setC, k_cup0, k_cup1, s_ap, k_ap, k_ap2, k_ap3, s_rc, k_rc, ss_nil, ss_cons, k_ssN, k_ssR, finR_rt, finR_nx, pureR_some, varv_0, varv_s, borv_0, borv_0o, borv_s, truth, startP, List.map_cons, List.map_nil, List.replicate_succ, List.replicate_zero, List.cons_append, List.nil_append, Nat.reduceSub, Nat.reduceAdd, bindT, bindTs, optS_some, List.set_cons_succ, List.set_cons_zero, wipeP, mkTup_0, mkTup_1, mkTup_2, mkTup_3, mkTup_4, mkTup_5, mkTup_6, mkTup_7, mkTup_8, mkLst_0, mkLst_1, mkLst_2, mkLst_3, mkLst_4, mkLst_5, mkLst_6, mkLst_7, mkLst_8, mkLst_9, mkLst_10, mkLst_11, mkLst_12, mkLst_13, mkLst_14, mkLst_15, mkLst_16, binop, cmpop, blV, Option.map_some, isTy, bltop, Bool.not_true, Bool.not_false, item_0, item_1, item_2, item_3, item_c0, item_c1, Option.bind_some, List.getElem?_cons_zero, List.getElem?_cons_succ, if_true, if_false, Bool.false_eq_true, and_self, dat_int, dat_bl, dat_non, peq_int, peq_bl, peq_nonnon, Int.cast_ofNat_Int, Int.reduceEq, Bool.and_self, List.length_cons, List.length_nil, Int.reduceLT, Int.reduceLE, Int.reduceAdd, Int.reduceSub, Nat.reduceLT, Nat.reduceLeDiff, decide_true, decide_false, Bool.or_true, Bool.true_or, true_and, and_true]
      have hlen : (((List.range named).filter fun (j : Nat) => !decide ((j : Int) = p)).map fun (j : Nat) => PV.int (j : Int)).length ≤ 3 := by
        rw [List.length_map]
        exact Nat.le_trans (List.length_filter_le _ _) (by rw [List.length_range]; exact h2)
      have hne : (((List.range named).filter fun (j : Nat) => !decide ((j : Int) = p)).map fun (j : Nat) => PV.int (j : Int)) ≠ [] := by
        intro z
        rw [List.map_eq_nil_iff, List.filter_eq_nil_iff] at z
        have hq : ∃ q, q < named ∧ q ≠ p := by
          by_cases h0 : p = 0
          · exact ⟨1, by omega, by omega⟩
          · exact ⟨0, by omega, by omega⟩
        obtain ⟨q, hq1, hq2⟩ := hq
        have := z q (List.mem_range.mpr hq1)
        simp at this
        omega
      obtain ⟨x, c3, e3, hc3, hx⟩ := f__law_some k _ c2 hc2 hne (by omega)
      obtain ⟨o, ho, rfl⟩ := List.mem_map.mp hx
      rw [List.mem_filter, List.mem_range] at ho
      have ho1 := ho.1
      have ho2 : p ≠ o := fun z => by
        have := ho.2
        subst z
        simp at this
      obtain ⟨w', c4, e4, hc4, w3, w4⟩ := f__law_roll (k + 1) 3 c3 hc3 (by decide) (by decide)
      by_cases hw' : 0 < w'
      · obtain ⟨a1, c5, x1, hc5, l1, b1⟩ := f__law_answers k 4 (by decide) c4 hc4
        obtain ⟨a2, c6, x2, hc6, l2, b2⟩ := f__law_answers k 4 (by decide) c5 hc5
        have x1 : callK P (k + 2) n__law_answers [.cup, .int 4] c4 = .ok (.tup (a1.map .int)) c5 := x1
        have x2 : callK P (k + 2) n__law_answers [.cup, .int 4] c5 = .ok (.tup (a2.map .int)) c6 := x2
        obtain ⟨y, c7, x4, hc7, hy⟩ := f__law_some k [.tup [.int 0, .int 1, .int 0, .int 1], .tup [.int 0, .int 1, .int 1, .int 0], .tup [.int 0, .int 1, .int 1, .int 1], .tup [.int 0, .int 0, .int 0, .int 1], .tup [.int 0, .int 0, .int 1, .int 1], .tup (a1.map .int), .tup (a2.map .int)] c6 hc6 (by simp) (by simp)
        have hA : Ans 4 y := by
          simp only [List.mem_cons, List.not_mem_nil, or_false] at hy
          rcases hy with rfl | rfl | rfl | rfl | rfl | rfl | rfl
          · exact ⟨[0, 1, 0, 1], rfl, rfl, bits_dec (by decide)⟩
          · exact ⟨[0, 1, 1, 0], rfl, rfl, bits_dec (by decide)⟩
          · exact ⟨[0, 1, 1, 1], rfl, rfl, bits_dec (by decide)⟩
          · exact ⟨[0, 0, 0, 1], rfl, rfl, bits_dec (by decide)⟩
          · exact ⟨[0, 0, 1, 1], rfl, rfl, bits_dec (by decide)⟩
          · exact ⟨a1, rfl, l1, b1⟩
          · exact ⟨a2, rfl, l2, b2⟩
        obtain ⟨as, rfl, la, ba⟩ := hA
        refine ⟨.takes p o as, c7, call_ok rfl rfl ?_, hc7, hp, ho1, ho2, la, ba⟩
        simp -implicitDefEqProofs only [e_con, e_var, e_bor, e_bin, k_bin, k_bin2, e_cmp, k_cmp, k_cmp2, e_neg, k_neg, e_nt, k_nt, k_truth, k_optB, e_and, k_and, k_andT, k_andF, e_or, k_or, k_orT, k_orF, e_ite, k_iteT, k_iteF, e_chain, k_ch, k_ch2, k_ch3T, k_ch3F, e_tup, k_tup, e_lst, k_lst, e_ix, k_ix, k_ix2, e_sl, k_sl, k_sl2, k_sl3, e_call, k_call, e_blt, k_blt, e_mth, k_mth, k_mth2, e_isin, k_is, e_pick, k_pick, k_pick2, es_nil, es_cons, k_es, k_es2, o_none, o_some, k_o, c_none, c_some, i_seq, k_seqT, k_seqL, i_r1, k_r1, i_r2, k_r2, k_r3, i_zip, k_zip, k_zipT, k_zipL, i_enum, k_enum, s_asg, k_asg, s_own, k_own2, k_slotL, k_slotD, k_slotV, s_par, k_par, k_par2, s_frz, s_app, k_app, k_app2, s_ife, k_ifeT, k_ifeF, s_whl, k_w, k_wT, k_wF, k_wN, k_wR, s_ret, k_ret, s_exp, k_exp, s_setC, k_setC, k_cup0, k_cup1, s_ap, k_ap, k_ap2, k_ap3, s_rc, k_rc, ss_nil, ss_cons, k_ssN, k_ssR, finR_rt, finR_nx, pureR_some, varv_0, varv_s, borv_0, borv_0o, borv_s, truth, startP, List.map_cons, List.map_nil, List.replicate_succ, List.replicate_zero, List.cons_append, List.nil_append, Nat.reduceSub, Nat.reduceAdd, bindT, bindTs, optS_some, List.set_cons_succ, List.set_cons_zero, wipeP, mkTup_0, mkTup_1, mkTup_2, mkTup_3, mkTup_4, mkTup_5, mkTup_6, mkTup_7, mkTup_8, mkLst_0, mkLst_1, mkLst_2, mkLst_3, mkLst_4, mkLst_5, mkLst_6, mkLst_7, mkLst_8, mkLst_9, mkLst_10, mkLst_11, mkLst_12, mkLst_13, mkLst_14, mkLst_15, mkLst_16, binop, cmpop, blV, Option.map_some, isTy, bltop, Bool.not_true, Bool.not_false, item_0, item_1, item_2, item_3, item_c0, item_c1, Option.bind_some, List.getElem?_cons_zero, List.getElem?_cons_succ, if_true, if_false, Bool.false_eq_true, and_self, dat_int, dat_bl, dat_non, peq_int, peq_bl, peq_nonnon, Int.cast_ofNat_Int, Int.reduceEq, Bool.and_self, List.length_cons, List.length_nil, Int.reduceLT, Int.reduceLE, Int.reduceAdd, Int.reduceSub, Nat.reduceLT, Nat.reduceLeDiff, decide_true, decide_false, Bool.or_true, Bool.true_or, true_and, and_true, b__law_deed, e1, hn, e2, hw, ec, e3, e4, hw', x1, x2, x4]
        rfl
      · obtain ⟨y, c7, x4, hc7, hy⟩ := f__law_some k [.str "know", .str "part", .str "turn"] c4 hc4 (by simp) (by simp)
        have hA : ∃ v, y = .str v ∧ wordOk v := by
          simp only [List.mem_cons, List.not_mem_nil, or_false] at hy
          rcases hy with rfl | rfl | rfl
          · exact ⟨_, rfl, .inl rfl⟩
          · exact ⟨_, rfl, .inr (.inl rfl)⟩
          · exact ⟨_, rfl, .inr (.inr rfl)⟩
        obtain ⟨v, rfl, hv⟩ := hA
        refine ⟨.tie p o v, c7, call_ok rfl rfl ?_, hc7, hp, ho1, ho2, hv⟩
        simp -implicitDefEqProofs only [e_con, e_var, e_bor, e_bin, k_bin, k_bin2, e_cmp, k_cmp, k_cmp2, e_neg, k_neg, e_nt, k_nt, k_truth, k_optB, e_and, k_and, k_andT, k_andF, e_or, k_or, k_orT, k_orF, e_ite, k_iteT, k_iteF, e_chain, k_ch, k_ch2, k_ch3T, k_ch3F, e_tup, k_tup, e_lst, k_lst, e_ix, k_ix, k_ix2, e_sl, k_sl, k_sl2, k_sl3, e_call, k_call, e_blt, k_blt, e_mth, k_mth, k_mth2, e_isin, k_is, e_pick, k_pick, k_pick2, es_nil, es_cons, k_es, k_es2, o_none, o_some, k_o, c_none, c_some, i_seq, k_seqT, k_seqL, i_r1, k_r1, i_r2, k_r2, k_r3, i_zip, k_zip, k_zipT, k_zipL, i_enum, k_enum, s_asg, k_asg, s_own, k_own2, k_slotL, k_slotD, k_slotV, s_par, k_par, k_par2, s_frz, s_app, k_app, k_app2, s_ife, k_ifeT, k_ifeF, s_whl, k_w, k_wT, k_wF, k_wN, k_wR, s_ret, k_ret, s_exp, k_exp, s_setC, k_setC, k_cup0, k_cup1, s_ap, k_ap, k_ap2, k_ap3, s_rc, k_rc, ss_nil, ss_cons, k_ssN, k_ssR, finR_rt, finR_nx, pureR_some, varv_0, varv_s, borv_0, borv_0o, borv_s, truth, startP, List.map_cons, List.map_nil, List.replicate_succ, List.replicate_zero, List.cons_append, List.nil_append, Nat.reduceSub, Nat.reduceAdd, bindT, bindTs, optS_some, List.set_cons_succ, List.set_cons_zero, wipeP, mkTup_0, mkTup_1, mkTup_2, mkTup_3, mkTup_4, mkTup_5, mkTup_6, mkTup_7, mkTup_8, mkLst_0, mkLst_1, mkLst_2, mkLst_3, mkLst_4, mkLst_5, mkLst_6, mkLst_7, mkLst_8, mkLst_9, mkLst_10, mkLst_11, mkLst_12, mkLst_13, mkLst_14, mkLst_15, mkLst_16, binop, cmpop, blV, Option.map_some, isTy, bltop, Bool.not_true, Bool.not_false, item_0, item_1, item_2, item_3, item_c0, item_c1, Option.bind_some, List.getElem?_cons_zero, List.getElem?_cons_succ, if_true, if_false, Bool.false_eq_true, and_self, dat_int, dat_bl, dat_non, peq_int, peq_bl, peq_nonnon, Int.cast_ofNat_Int, Int.reduceEq, Bool.and_self, List.length_cons, List.length_nil, Int.reduceLT, Int.reduceLE, Int.reduceAdd, Int.reduceSub, Nat.reduceLT, Nat.reduceLeDiff, decide_true, decide_false, Bool.or_true, Bool.true_or, true_and, and_true, b__law_deed, e1, hn, e2, hw, ec, e3, e4, hw', x4]
        rfl
end K09

set_option Elab.async false
set_option linter.all false
set_option maxRecDepth 100000
/-! K09B: scripts with choices. -/
namespace K09
open PySem PP
/-! ### equal to itself -/
theorem peq_self : ∀ (n : Nat) (v : PV), small n v = true → peq v v = true
  | n, .non, _ => rfl
  | n, .bl b, _ => by rw [peq]; simp
  | n, .int i, _ => by rw [peq]; simp
  | n, .str s, _ => by rw [peq]; simp
  | 0, .tup xs, h => by simp [small] at h
  | 0, .lst xs, h => by simp [small] at h
  | n + 1, .tup xs, h => by
    rw [small, List.all_eq_true] at h
    rw [peq]
    induction xs with
    | nil => rfl
    | cons x xs ih => rw [peqL, peq_self n x (h x (List.mem_cons_self ..)), ih fun y hy => h y (List.mem_cons_of_mem _ hy)]; rfl
  | n + 1, .lst xs, h => by
    rw [small, List.all_eq_true] at h
    rw [peq]
    induction xs with
    | nil => rfl
    | cons x xs ih => rw [peqL, peq_self n x (h x (List.mem_cons_self ..)), ih fun y hy => h y (List.mem_cons_of_mem _ hy)]; rfl
  | n, .dic _, h => by cases n <;> simp [small] at h
  | n, .cup, h => by cases n <;> simp [small] at h
  | n, .scr _, h => by cases n <;> simp [small] at h
theorem dat_self {v : PV} (h : dat v = true) : peq v v = true := peq_self 60 v h
/-! ### items -/
inductive It where
  | deed (d : Dd)
  | ask (p o : Nat) (y n : List It)
mutual
def itV : It → PV
  | .deed d => deedV d
  | .ask p o y n => .tup [.str "ask", .int p, .int o, .tup (itVs y), .tup (itVs n)]
def itVs : List It → List PV
  | [] => []
  | x :: xs => itV x :: itVs xs
end
theorem itVs_eq : ∀ xs : List It, itVs xs = xs.map itV
  | [] => by rw [itVs]; rfl
  | x :: xs => by rw [itVs, itVs_eq xs]; rfl
theorem itV_ask (p o : Nat) (y n : List It) : itV (.ask p o y n) = .tup [.str "ask", .int p, .int o, .tup (y.map itV), .tup (n.map itV)] := by rw [itV, itVs_eq, itVs_eq]
theorem itV_deed (d : Dd) : itV (.deed d) = deedV d := by rw [itV]
def scV (its : List It) : PV := .tup (its.map itV)
/-- fitting, choices at most so deep -/
def IOk (named : Nat) : Nat → It → Prop
  | _, .deed d => DOk named d
  | 0, .ask _ _ _ _ => False
  | dp + 1, .ask p o y n => p < named ∧ o < named ∧ p ≠ o ∧ (∀ i ∈ y, IOk named dp i) ∧ ∀ i ∈ n, IOk named dp i
def cnt : Nat → It → Nat
  | _, .deed _ => 1
  | 0, .ask _ _ _ _ => 1
  | dp + 1, .ask _ _ y n => 1 + (y.map (cnt dp)).sum + (n.map (cnt dp)).sum
theorem iok_deed {named dp : Nat} {d : Dd} : IOk named dp (.deed d) ↔ DOk named d := by cases dp <;> exact Iff.rfl
theorem cnt_deed {dp : Nat} {d : Dd} : cnt dp (.deed d) = 1 := by cases dp <;> rfl
def cntL (dp : Nat) (its : List It) : Nat := (its.map (cnt dp)).sum
theorem cnt_pos (dp : Nat) (it : It) : 1 ≤ cnt dp it := by
  cases it <;> cases dp <;> simp only [cnt] <;> omega
theorem cntL_cons {dp : Nat} {it : It} {r : List It} : cntL dp (it :: r) = cnt dp it + cntL dp r := by unfold cntL; simp
theorem cntL_len {dp : Nat} : ∀ its : List It, its.length ≤ cntL dp its
  | [] => Nat.zero_le _
  | it :: r => by
    have := cnt_pos dp it
    have := cntL_len (dp := dp) r
    rw [cntL_cons, List.length_cons]
    omega
theorem small_it {named : Nat} : ∀ (dp : Nat) (it : It) (n : Nat), IOk named dp it → 2 * dp + 2 ≤ n → small n (itV it) = true
  | dp, .deed d, n + 2, h, _ => by rw [itV_deed]; exact small_deed (iok_deed.mp h) n
  | 0, .ask _ _ _ _, _, h, _ => h.elim
  | dp + 1, .ask p o y no, n + 2, h, hn => by
    obtain ⟨_, _, _, hy, hno⟩ := h
    have e : ∀ its : List It, (∀ i ∈ its, IOk named dp i) → small (n + 1) (.tup (its.map itV)) = true := fun its hi => by
      rw [small, List.all_map, List.all_eq_true]
      intro i hm
      exact small_it dp i n (hi i hm) (by omega)
    rw [itV_ask, small]
    simp [small_int, small_str ok_ask, e y hy, e no hno]
theorem small_its {named dp : Nat} {its : List It} (h : ∀ i ∈ its, IOk named dp i) {n : Nat} (hn : 2 * dp + 2 ≤ n) : (its.map itV).all (small n) = true := by
  rw [List.all_map, List.all_eq_true]
  intro i hi
  exact small_it dp i n (h i hi) hn
theorem item_it0 (it : It) (c : List PV) : ∃ s, item (itV it) (.int 0) c = some (.str s) ∧ dat (.str s) = true ∧ (s = "ask" ↔ ∃ p o y n, it = .ask p o y n) := by
  cases it with
  | deed d => exact ⟨headS d, by rw [itV_deed]; exact item_head d c, head_dat d, fun z => absurd z (by rw [head_ask d]; exact id), fun ⟨_, _, _, _, z⟩ => nomatch z⟩
  | ask p o y n => exact ⟨"ask", by rw [itV_ask]; rfl, ok_ask, fun _ => ⟨p, o, y, n, rfl⟩, fun _ => rfl⟩
/-! ### what an item does -/
def runL (f : List (Int × Int) → It → List (Int × Int) × List Dd) : List It → List (Int × Int) → List (Int × Int) × List Dd
  | [], ps => (ps, [])
  | it :: r, ps => ((runL f r (f ps it).1).1, (f ps it).2 ++ (runL f r (f ps it).1).2)
def stepI (n : Nat) : Nat → List (Int × Int) → It → List (Int × Int) × List Dd
  | _, ps, .deed d => (behP n ps d, [d])
  | 0, ps, .ask _ _ _ _ => (ps, [])
  | dp + 1, ps, .ask p o y no => runL (stepI n dp) (if kn ps p o then y else no) ps
abbrev runI (n dp : Nat) (its : List It) (ps : List (Int × Int)) := runL (stepI n dp) its ps
theorem stepI_com {named n : Nat} : ∀ (dp : Nat) (ps : List (Int × Int)) (it : It), Com named n ps → Com named n (stepI n dp ps it).1 := by
  have key : ∀ (f : List (Int × Int) → It → List (Int × Int) × List Dd), (∀ ps it, Com named n ps → Com named n (f ps it).1) → ∀ its ps, Com named n ps → Com named n (runL f its ps).1 := fun f hf its => by
    induction its with
    | nil => exact fun ps h => h
    | cons it r ih => exact fun ps h => ih _ (hf ps it h)
  intro dp
  induction dp with
  | zero => intro ps it h; cases it with
    | deed d => exact behP_com h d
    | ask => exact h
  | succ dp ih => intro ps it h; cases it with
    | deed d => exact behP_com h d
    | ask p o y no => exact key _ ih _ ps h
theorem runI_com {named n dp : Nat} : ∀ (its : List It) {ps : List (Int × Int)}, Com named n ps → Com named n (runI n dp its ps).1
  | [], _, h => h
  | it :: r, _, h => runI_com r (stepI_com dp _ it h)
/-- the deeds that were done fit -/
theorem stepI_ok {named n : Nat} : ∀ (dp : Nat) (ps : List (Int × Int)) (it : It), IOk named dp it → (∀ d ∈ (stepI n dp ps it).2, DOk named d) ∧ (stepI n dp ps it).1 = runP n ps (stepI n dp ps it).2 ∧ (stepI n dp ps it).2.length ≤ cnt dp it := by
  have app : ∀ (a b : List Dd) (ps : List (Int × Int)), runP n ps (a ++ b) = runP n (runP n ps a) b := fun a => by
    induction a with
    | nil => exact fun b ps => rfl
    | cons d a ih => exact fun b ps => ih b _
  have key : ∀ (dp : Nat), (∀ ps it, IOk named dp it → (∀ d ∈ (stepI n dp ps it).2, DOk named d) ∧ (stepI n dp ps it).1 = runP n ps (stepI n dp ps it).2 ∧ (stepI n dp ps it).2.length ≤ cnt dp it) → ∀ its ps, (∀ i ∈ its, IOk named dp i) → (∀ d ∈ (runI n dp its ps).2, DOk named d) ∧ (runI n dp its ps).1 = runP n ps (runI n dp its ps).2 ∧ (runI n dp its ps).2.length ≤ cntL dp its := fun dp hf its => by
    induction its with
    | nil => exact fun ps h => ⟨fun d hd => (nomatch hd), rfl, Nat.le_refl _⟩
    | cons it r ih =>
      intro ps h
      obtain ⟨a1, a2, a3⟩ := hf ps it (h it (List.mem_cons_self ..))
      obtain ⟨b1, b2, b3⟩ := ih (stepI n dp ps it).1 fun i hi => h i (List.mem_cons_of_mem _ hi)
      refine ⟨fun d hd => ?_, ?_, ?_⟩
      · rcases List.mem_append.mp hd with hd | hd
        · exact a1 d hd
        · exact b1 d hd
      · show (runL (stepI n dp) r (stepI n dp ps it).1).1 = runP n ps ((stepI n dp ps it).2 ++ (runL (stepI n dp) r (stepI n dp ps it).1).2)
        rw [app, ← a2]; exact b2
      · show ((stepI n dp ps it).2 ++ (runL (stepI n dp) r (stepI n dp ps it).1).2).length ≤ _
        rw [List.length_append, cntL_cons]
        exact Nat.add_le_add a3 b3
  intro dp
  induction dp with
  | zero => intro ps it h; cases it with
    | deed d => exact ⟨fun x hx => by rw [show (stepI n 0 ps (.deed d)).2 = [d] from rfl, List.mem_singleton] at hx; rw [hx]; exact h, rfl, Nat.le_refl _⟩
    | ask => exact h.elim
  | succ dp ih => intro ps it h; cases it with
    | deed d => exact ⟨fun x hx => by rw [show (stepI n (dp + 1) ps (.deed d)).2 = [d] from rfl, List.mem_singleton] at hx; rw [hx]; exact h, rfl, Nat.le_refl _⟩
    | ask p o y no =>
      obtain ⟨_, _, _, hy, hno⟩ := h
      obtain ⟨a1, a2, a3⟩ := key dp ih (if kn ps p o then y else no) ps (by split <;> assumption)
      refine ⟨a1, a2, Nat.le_trans a3 ?_⟩
      rw [cnt]
      unfold cntL
      split <;> omega
theorem runP_app (n : Nat) : ∀ (a b : List Dd) (ps : List (Int × Int)), runP n ps (a ++ b) = runP n (runP n ps a) b
  | [], _, _ => rfl
  | _ :: a, b, _ => runP_app n a b _
theorem runI_ok {named n dp : Nat} : ∀ (its : List It) (ps : List (Int × Int)), (∀ i ∈ its, IOk named dp i) → (∀ d ∈ (runI n dp its ps).2, DOk named d) ∧ (runI n dp its ps).1 = runP n ps (runI n dp its ps).2 ∧ (runI n dp its ps).2.length ≤ cntL dp its
  | [], ps, h => ⟨fun d hd => (nomatch hd), rfl, Nat.le_refl _⟩
  | it :: r, ps, h => by
    obtain ⟨a1, a2, a3⟩ := stepI_ok (n := n) dp ps it (h it (List.mem_cons_self ..))
    obtain ⟨b1, b2, b3⟩ := runI_ok (n := n) r (stepI n dp ps it).1 fun i hi => h i (List.mem_cons_of_mem _ hi)
    have eR : runI n dp (it :: r) ps = ((runI n dp r (stepI n dp ps it).1).1, (stepI n dp ps it).2 ++ (runI n dp r (stepI n dp ps it).1).2) := rfl
    rw [eR]
    refine ⟨fun d hd => ?_, ?_, ?_⟩
    · rcases List.mem_append.mp hd with hd | hd
      · exact a1 d hd
      · exact b1 d hd
    · rw [runP_app, ← a2]; exact b2
    · simp only [List.length_append]
      rw [cntL_cons]
      exact Nat.add_le_add a3 b3
end K09

set_option Elab.async false
set_option linter.all false
set_option maxRecDepth 100000
/-! K09C: scripts with choices are walked through. -/
namespace K09
open PySem PP
theorem item_4 {a b d e f : PV} {xs c : List PV} : item (.tup (a :: b :: d :: e :: f :: xs)) (.int 4) c = some f := item_tup (i := 4) rfl
/-! ### run_by -/
def RunS (k : Nat) (s : PV) (named n : Nat) (c : List PV) (dp : Nat) : Prop := ∀ (its : List It), (∀ i ∈ its, IOk named dp i) → ∀ (ps : List (Int × Int)), Com named n ps → 2 * dp + 2 ≤ 59 → ∃ j, j ≤ cntL dp its ∧ ∀ (rest F : List PV) (m : Nat) (s4 : PP.Slot), rest.all (small 59) = true → rest.length + cntL dp its ≤ 10000 → F.length + cntL dp its ≤ 10000 → ∃ s4',
    kW (callK P (k + 3)) (.cmp .ne (.var 3) (.lst [])) b_run_by_l0 (m + j) [.val (cmpV n ps), .val s, .val (.lst F), .val (.lst (its.map itV ++ rest)), s4] c = kW (callK P (k + 3)) (.cmp .ne (.var 3) (.lst [])) b_run_by_l0 m [.val (cmpV n (runI n dp its ps).1), .val s, .val (.lst (F ++ (runI n dp its ps).2.map deedV)), .val (.lst rest), s4'] c
theorem run_step (k : Nat) (s : PV) {named n : Nat} (c : List PV) (dp : Nat) (ihd : ∀ dp', dp = dp' + 1 → RunS k s named n c dp') : RunS k s named n c dp := by
  intro its
  induction its with
  | nil => exact fun _ ps _ _ => ⟨0, Nat.zero_le _, fun rest F m s4 _ _ _ => ⟨s4, by simp [runL]⟩⟩
  | cons it r ih =>
    intro hi ps hc hdp
    have hr : ∀ i ∈ r, IOk named dp i := fun i h => hi i (List.mem_cons_of_mem _ h)
    have h0 := hi it (List.mem_cons_self ..)
    obtain ⟨j2, hj2, hx⟩ := ih hr (stepI n dp ps it).1 (stepI_com _ _ _ hc) hdp
    have eR : runI n dp (it :: r) ps = ((runI n dp r (stepI n dp ps it).1).1, (stepI n dp ps it).2 ++ (runI n dp r (stepI n dp ps it).1).2) := rfl
    rw [eR]
    generalize runI n dp r (stepI n dp ps it).1 = RR at hx ⊢
    cases it with
    | deed d =>
      have hd : DOk named d := iok_deed.mp h0
      have e5 : stepI n dp ps (.deed d) = (behP n ps d, [d]) := by cases dp <;> rfl
      refine ⟨j2 + 1, by rw [cntL_cons, cnt_deed]; omega, fun rest F m s4 hrest hl1 hl2 => ?_⟩
      rw [cntL_cons, cnt_deed] at hl1 hl2
      obtain ⟨s4', e⟩ := hx rest (F ++ [deedV d]) m (.val (deedV d)) hrest (by omega) (by rw [List.length_append, List.length_singleton]; omega)
      refine ⟨s4', ?_⟩
      have e0 : dat (.lst (deedV d :: (r.map itV ++ rest))) = true := by
        show (small 59 (deedV d) && (r.map itV ++ rest).all (small 59)) = true
        rw [List.all_append, small_its hr (by omega), hrest, small_deed hd]; rfl
      have e1 : ∀ c, item (.lst (deedV d :: (r.map itV ++ rest))) (.int 0) c = some (deedV d) := fun c => item_lst (i := 0) rfl
      have e2 := f_behind hc k d hd c
      have e3 := mkLst_s (xs := F ++ [deedV d]) (by rw [List.length_append, List.length_singleton]; unfold LIM; omega)
      have e4 := head_ask d
      rw [e5] at e ⊢
      rw [← Nat.add_assoc, List.map_cons, itV_deed, List.cons_append, List.map_append, List.map_cons, List.map_nil, ← List.append_assoc F]
      generalize m + j2 = N at e ⊢
      refine Eq.trans ?_ e
      rw [k_w]
      generalize hG : kW (callK P (k + 3)) (.cmp .ne (.var 3) (.lst [])) b_run_by_l0 N = G
      have hG2 : ∀ env c, kW (callK P (k + 3)) (.cmp .ne (.var 3) (.lst [])) b_run_by_l0 N env c = G env c := fun env c => by rw [hG]
      rw [← hG]
      unfold b_run_by_l0
      simp -implicitDefEqProofs only [e_con, e_var, e_bor, e_bin, k_bin, k_bin2, e_cmp, k_cmp, k_cmp2, e_neg, k_neg, e_nt, k_nt, k_truth, k_optB, e_and, k_and, k_andT, k_andF, e_or, k_or, k_orT, k_orF, e_ite, k_iteT, k_iteF, e_chain, k_ch, k_ch2, k_ch3T, k_ch3F, e_tup, k_tup, e_lst, k_lst, e_ix, k_ix, k_ix2, e_sl, k_sl, k_sl2, k_sl3, e_call, k_call, e_blt, k_blt, e_mth, k_mth, k_mth2, e_isin, k_is, e_pick, k_pick, k_pick2, es_nil, es_cons, k_es, k_es2, o_none, o_some, k_o, c_none, c_some, i_seq, k_seqT, k_seqL, i_r1, k_r1, i_r2, k_r2, k_r3, i_zip, k_zip, k_zipT, k_zipL, i_enum, k_enum, s_asg, k_asg, s_own, k_own2, k_slotL, k_slotD, k_slotV, s_par, k_par, k_par2, s_frz, s_app, k_app, k_app2, s_ife, k_ifeT, k_ifeF, s_whl, k_w, k_wT, k_wF, k_wN, k_wR, s_ret, k_ret, s_exp, k_exp, s_setC, k_setC, k_cup0, k_cup1, s_ap, k_ap, k_ap2, k_ap3, s_rc, k_rc, ss_nil, ss_cons, k_ssN, k_ssR, finR_rt, finR_nx, pureR_some, varv_0, varv_s, borv_0, borv_0o, borv_s, truth, startP, List.map_cons, List.map_nil, List.replicate_succ, List.replicate_zero, List.cons_append, List.nil_append, Nat.reduceSub, Nat.reduceAdd, bindT, bindTs, optS_some, List.set_cons_succ, List.set_cons_zero, wipeP, mkTup_0, mkTup_1, mkTup_2, mkTup_3, mkTup_4, mkTup_5, mkTup_6, mkTup_7, mkTup_8, mkLst_0, mkLst_1, mkLst_2, mkLst_3, mkLst_4, mkLst_5, mkLst_6, mkLst_7, mkLst_8, mkLst_9, mkLst_10, mkLst_11, mkLst_12, mkLst_13, mkLst_14, mkLst_15, mkLst_16, binop, cmpop, blV, Option.map_some, isTy, bltop, Bool.not_true, Bool.not_false, item_0, item_1, item_2, item_3, item_c0, item_c1, Option.bind_some, List.getElem?_cons_zero, List.getElem?_cons_succ, if_true, if_false, Bool.false_eq_true, and_self, dat_int, dat_bl, dat_non, peq_int, peq_bl, peq_nonnon, Int.cast_ofNat_Int, Int.reduceEq, Bool.and_self, List.length_cons, List.length_nil, Int.reduceLT, Int.reduceLE, Int.reduceAdd, Int.reduceSub, Nat.reduceLT, Nat.reduceLeDiff, decide_true, decide_false, Bool.or_true, Bool.true_or, true_and, and_true, e0, dat_nil, peq_cons_nil, e1, slice, cut1, List.drop_succ_cons, List.drop_zero, item_head, head_dat, ok_ask, peq_str, e4, e2, e3]
    | ask p o y no =>
      cases dp with
      | zero => exact h0.elim
      | succ dp =>
        obtain ⟨hp1, hp2, hp3, hy, hno⟩ := h0
        have hsub : ∀ i ∈ (if kn ps p o then y else no), IOk named dp i := by split <;> assumption
        have e5 : stepI n (dp + 1) ps (.ask p o y no) = runI n dp (if kn ps p o then y else no) ps := rfl
        have hcn : cntL dp (if kn ps p o then y else no) + 1 ≤ cnt (dp + 1) (.ask p o y no) := by
          rw [cnt]
          unfold cntL
          split <;> omega
        obtain ⟨j1, hj1, hz⟩ := ihd dp rfl _ hsub ps hc (by omega)
        rw [e5] at hx ⊢
        have hSS := (runI_ok (n := n) _ ps hsub).2.2
        generalize runI n dp (if kn ps p o then y else no) ps = SS at hx hz hSS ⊢
        refine ⟨j2 + j1 + 1, by rw [cntL_cons]; omega, fun rest F m s4 hrest hl1 hl2 => ?_⟩
        rw [cntL_cons] at hl1 hl2
        have hrl := cntL_len (dp := dp + 1) r
        have hR : (r.map itV ++ rest).all (small 59) = true := by rw [List.all_append, small_its hr (by omega), hrest]; rfl
        generalize hsb : (if kn ps p o then y else no) = sub at hsub hcn hj1 hz hSS
        obtain ⟨s4a, ea⟩ := hz (r.map itV ++ rest) F (m + j2) (.val (itV (.ask p o y no))) hR (by rw [List.length_append, List.length_map]; omega) (by omega)
        obtain ⟨s4b, eb⟩ := hx rest (F ++ SS.2.map deedV) m s4a hrest (by omega) (by
          rw [List.length_append, List.length_map]; omega)
        refine ⟨s4b, ?_⟩
        rw [List.map_append, ← List.append_assoc F]
        refine Eq.trans ?_ (ea.trans eb)
        have e0 : dat (.lst (itV (.ask p o y no) :: (r.map itV ++ rest))) = true := by
          show (small 59 (itV (.ask p o y no)) && (r.map itV ++ rest).all (small 59)) = true
          rw [hR, small_it (named := named) (dp + 1) _ 59 (show IOk named (dp + 1) (.ask p o y no) from ⟨hp1, hp2, hp3, hy, hno⟩) (by omega)]; rfl
        have e1 : ∀ c, item (.lst (itV (.ask p o y no) :: (r.map itV ++ rest))) (.int 0) c = some (itV (.ask p o y no)) := fun c => item_lst (i := 0) rfl
        have e3 := mkLst_s (xs := sub.map itV ++ (r.map itV ++ rest)) (by have := cntL_len (dp := dp) sub; simp only [List.length_append, List.length_map]; unfold LIM; omega)
        have e6 := f_mm (k + 2) p o c
        have e7 := pin_prs (mm p o) ps
        have e9 : item (cmpV n ps) (.int 1) c = some (.tup (ps.map prV)) := rfl
        rw [show m + (j2 + j1 + 1) = (m + j2 + j1) + 1 by omega, List.map_cons, List.cons_append]
        generalize m + j2 + j1 = N at ea ⊢
        rw [k_w]
        generalize hG : kW (callK P (k + 3)) (.cmp .ne (.var 3) (.lst [])) b_run_by_l0 N = G
        rw [← hG]
        unfold b_run_by_l0
        rw [itV_ask] at e0 e1 ⊢
        unfold kn at hsb
        cases hk : decide (mm p o ∈ ps)
        · rw [hk] at e7 hsb
          obtain rfl : no = sub := hsb
          simp -implicitDefEqProofs only [e_con, e_var, e_bor, e_bin, k_bin, k_bin2, e_cmp, k_cmp, k_cmp2, e_neg, k_neg, e_nt, k_nt, k_truth, k_optB, e_and, k_and, k_andT, k_andF, e_or, k_or, k_orT, k_orF, e_ite, k_iteT, k_iteF, e_chain, k_ch, k_ch2, k_ch3T, k_ch3F, e_tup, k_tup, e_lst, k_lst, e_ix, k_ix, k_ix2, e_sl, k_sl, k_sl2, k_sl3, e_call, k_call, e_blt, k_blt, e_mth, k_mth, k_mth2, e_isin, k_is, e_pick, k_pick, k_pick2, es_nil, es_cons, k_es, k_es2, o_none, o_some, k_o, c_none, c_some, i_seq, k_seqT, k_seqL, i_r1, k_r1, i_r2, k_r2, k_r3, i_zip, k_zip, k_zipT, k_zipL, i_enum, k_enum, s_asg, k_asg, s_own, k_own2, k_slotL, k_slotD, k_slotV, s_par, k_par, k_par2, s_frz, s_app, k_app, k_app2, s_ife, k_ifeT, k_ifeF, s_whl, k_w, k_wT, k_wF, k_wN, k_wR, s_ret, k_ret, s_exp, k_exp, s_setC, k_setC, k_cup0, k_cup1, s_ap, k_ap, k_ap2, k_ap3, s_rc, k_rc, ss_nil, ss_cons, k_ssN, k_ssR, finR_rt, finR_nx, pureR_some, varv_0, varv_s, borv_0, borv_0o, borv_s, truth, startP, List.map_cons, List.map_nil, List.replicate_succ, List.replicate_zero, List.cons_append, List.nil_append, Nat.reduceSub, Nat.reduceAdd, bindT, bindTs, optS_some, List.set_cons_succ, List.set_cons_zero, wipeP, mkTup_0, mkTup_1, mkTup_2, mkTup_3, mkTup_4, mkTup_5, mkTup_6, mkTup_7, mkTup_8, mkLst_0, mkLst_1, mkLst_2, mkLst_3, mkLst_4, mkLst_5, mkLst_6, mkLst_7, mkLst_8, mkLst_9, mkLst_10, mkLst_11, mkLst_12, mkLst_13, mkLst_14, mkLst_15, mkLst_16, binop, cmpop, blV, Option.map_some, isTy, bltop, Bool.not_true, Bool.not_false, item_0, item_1, item_2, item_3, item_c0, item_c1, Option.bind_some, List.getElem?_cons_zero, List.getElem?_cons_succ, if_true, if_false, Bool.false_eq_true, and_self, dat_int, dat_bl, dat_non, peq_int, peq_bl, peq_nonnon, Int.cast_ofNat_Int, Int.reduceEq, Bool.and_self, List.length_cons, List.length_nil, Int.reduceLT, Int.reduceLE, Int.reduceAdd, Int.reduceSub, Nat.reduceLT, Nat.reduceLeDiff, decide_true, decide_false, Bool.or_true, Bool.true_or, true_and, and_true, e0, dat_nil, peq_cons_nil, e1, slice, cut1, List.drop_succ_cons, List.drop_zero, ok_ask, peq_str, e6, e7, e9, item_4, e3]
        · rw [hk] at e7 hsb
          obtain rfl : y = sub := hsb
          simp -implicitDefEqProofs only [e_con, e_var, e_bor, e_bin, k_bin, k_bin2, e_cmp, k_cmp, k_cmp2, e_neg, k_neg, e_nt, k_nt, k_truth, k_optB, e_and, k_and, k_andT, k_andF, e_or, k_or, k_orT, k_orF, e_ite, k_iteT, k_iteF, e_chain, k_ch, k_ch2, k_ch3T, k_ch3F, e_tup, k_tup, e_lst, k_lst, e_ix, k_ix, k_ix2, e_sl, k_sl, k_sl2, k_sl3, e_call, k_call, e_blt, k_blt, e_mth, k_mth, k_mth2, e_isin, k_is, e_pick, k_pick, k_pick2, es_nil, es_cons, k_es, k_es2, o_none, o_some, k_o, c_none, c_some, i_seq, k_seqT, k_seqL, i_r1, k_r1, i_r2, k_r2, k_r3, i_zip, k_zip, k_zipT, k_zipL, i_enum, k_enum, s_asg, k_asg, s_own, k_own2, k_slotL, k_slotD, k_slotV, s_par, k_par, k_par2, s_frz, s_app, k_app, k_app2, s_ife, k_ifeT, k_ifeF, s_whl, k_w, k_wT, k_wF, k_wN, k_wR, s_ret, k_ret, s_exp, k_exp, s_setC, k_setC, k_cup0, k_cup1, s_ap, k_ap, k_ap2, k_ap3, s_rc, k_rc, ss_nil, ss_cons, k_ssN, k_ssR, finR_rt, finR_nx, pureR_some, varv_0, varv_s, borv_0, borv_0o, borv_s, truth, startP, List.map_cons, List.map_nil, List.replicate_succ, List.replicate_zero, List.cons_append, List.nil_append, Nat.reduceSub, Nat.reduceAdd, bindT, bindTs, optS_some, List.set_cons_succ, List.set_cons_zero, wipeP, mkTup_0, mkTup_1, mkTup_2, mkTup_3, mkTup_4, mkTup_5, mkTup_6, mkTup_7, mkTup_8, mkLst_0, mkLst_1, mkLst_2, mkLst_3, mkLst_4, mkLst_5, mkLst_6, mkLst_7, mkLst_8, mkLst_9, mkLst_10, mkLst_11, mkLst_12, mkLst_13, mkLst_14, mkLst_15, mkLst_16, binop, cmpop, blV, Option.map_some, isTy, bltop, Bool.not_true, Bool.not_false, item_0, item_1, item_2, item_3, item_c0, item_c1, Option.bind_some, List.getElem?_cons_zero, List.getElem?_cons_succ, if_true, if_false, Bool.false_eq_true, and_self, dat_int, dat_bl, dat_non, peq_int, peq_bl, peq_nonnon, Int.cast_ofNat_Int, Int.reduceEq, Bool.and_self, List.length_cons, List.length_nil, Int.reduceLT, Int.reduceLE, Int.reduceAdd, Int.reduceSub, Nat.reduceLT, Nat.reduceLeDiff, decide_true, decide_false, Bool.or_true, Bool.true_or, true_and, and_true, e0, dat_nil, peq_cons_nil, e1, slice, cut1, List.drop_succ_cons, List.drop_zero, ok_ask, peq_str, e6, e7, e9, item_4, e3]
theorem run_all (k : Nat) (s : PV) (named n : Nat) (c : List PV) : ∀ dp, RunS k s named n c dp
  | 0 => run_step k s c 0 fun _ z => by omega
  | dp + 1 => run_step k s c (dp + 1) fun dp' z => by
    obtain rfl : dp = dp' := by omega
    exact run_all k s named n c dp
end K09

set_option Elab.async false
set_option linter.all false
set_option maxRecDepth 100000
/-! K09D: which items there are in a script. -/
namespace K09
open PySem PP
structure QE where
  its : List It
  dp : Nat
  d : Nat
def qV (q : QE) : PV := .tup [scV q.its, .int (q.d : Int)]
def QOk (named : Nat) (q : QE) : Prop := (∀ i ∈ q.its, IOk named q.dp i) ∧ q.d + q.dp ≤ 4
def kids (dp d : Nat) : It → List QE
  | .deed _ => []
  | .ask _ _ y n => [⟨y, dp - 1, d + 1⟩, ⟨n, dp - 1, d + 1⟩]
def qC (qs : List QE) : Nat := (qs.map fun q => cntL q.dp q.its).sum
def qM (qs : List QE) : Nat := (qs.map fun q => 2 * cntL q.dp q.its + 1).sum
theorem qC_app (a b : List QE) : qC (a ++ b) = qC a + qC b := by unfold qC; simp
theorem qM_app (a b : List QE) : qM (a ++ b) = qM a + qM b := by unfold qM; simp
def GF (F : List PV) : Prop := ∀ x ∈ F, ∃ (it : It) (d : Nat), x = .tup [itV it, .int (d : Int)] ∧ ((∃ p o y n, it = .ask p o y n) → d < 4)
section
variable {named : Nat}
theorem kids_ok {dp d : Nat} {it : It} (h : IOk named dp it) (hd : d + dp ≤ 4) : ∀ q ∈ kids dp d it, QOk named q := fun q hq => by
  cases it with
  | deed _ => exact nomatch hq
  | ask p o y n =>
    cases dp with
    | zero => exact h.elim
    | succ dp =>
      obtain ⟨_, _, _, hy, hn⟩ := h
      simp only [kids, List.mem_cons, List.not_mem_nil, or_false] at hq
      rcases hq with rfl | rfl
      · exact ⟨hy, by simp only; omega⟩
      · exact ⟨hn, by simp only; omega⟩
theorem kids_c {dp d : Nat} {it : It} (h : IOk named dp it) : qC (kids dp d it) + 1 ≤ cnt dp it ∧ qM (kids dp d it) ≤ 2 * cnt dp it := by
  cases it with
  | deed _ => rw [cnt_deed]; exact ⟨Nat.le_refl 1, Nat.zero_le _⟩
  | ask p o y n =>
    cases dp with
    | zero => exact h.elim
    | succ dp =>
      unfold kids qC qM cnt cntL
      simp
      omega
theorem kidsL_c {dp d : Nat} : ∀ {its : List It}, (∀ i ∈ its, IOk named dp i) → qC (its.flatMap (kids dp d)) + its.length ≤ cntL dp its ∧ qM (its.flatMap (kids dp d)) ≤ 2 * cntL dp its
  | [], _ => ⟨Nat.le_refl 0, Nat.zero_le _⟩
  | it :: r, h => by
    obtain ⟨h1, h2⟩ := kids_c (d := d) (h it (List.mem_cons_self ..))
    obtain ⟨h3, h4⟩ := kidsL_c (d := d) fun i hi => h i (List.mem_cons_of_mem _ hi)
    rw [List.flatMap_cons, qC_app, qM_app, cntL_cons, List.length_cons]
    omega
theorem small_q {q : QE} (h : QOk named q) : small 59 (qV q) = true := by
  show (small 58 (scV q.its) && (small 58 (.int (q.d : Int)) && true)) = true
  have : small 58 (scV q.its) = true := by
    show (q.its.map itV).all (small 57) = true
    exact small_its h.1 (by have := h.2; omega)
  rw [this, small_int]; rfl
theorem f_fits_choice_ask (k : Nat) {dp p o : Nat} {y n : List It} (h : IOk named dp (.ask p o y n)) (c : List PV) : callK P (k + 3) n_fits_choice [.int named, itV (.ask p o y n)] c = .ok (.bl true) c := by
  cases dp with
  | zero => exact h.elim
  | succ dp =>
    obtain ⟨h1, h2, h3, _, _⟩ := h
    refine call_ok rfl rfl ?_
    rw [itV_ask]
    have e1 : callK P (k + 2) n_is_tuple_of [.tup [.str "ask", .int p, .int o, .tup (y.map itV), .tup (n.map itV)], .int 5, .int 5] c = .ok (.bl true) c := f_is_tuple_of (k + 1) (.tup [.str "ask", .int p, .int o, .tup (y.map itV), .tup (n.map itV)]) 5 5 c rfl
    have e2 := f_are_two_named k named p o c h1 h2 h3
    simp -implicitDefEqProofs only [e_con, e_var, e_bor, e_bin, k_bin, k_bin2, e_cmp, k_cmp, k_cmp2, e_neg, k_neg, e_nt, k_nt, k_truth, k_optB, e_and, k_and, k_andT, k_andF, e_or, k_or, k_orT, k_orF, e_ite, k_iteT, k_iteF, e_chain, k_ch, k_ch2, k_ch3T, k_ch3F, e_tup, k_tup, e_lst, k_lst, e_ix, k_ix, k_ix2, e_sl, k_sl, k_sl2, k_sl3, e_call, k_call, e_blt, k_blt, e_mth, k_mth, k_mth2, e_isin, k_is, e_pick, k_pick, k_pick2, es_nil, es_cons, k_es, k_es2, o_none, o_some, k_o, c_none, c_some, i_seq, k_seqT, k_seqL, i_r1, k_r1, i_r2, k_r2, k_r3, i_zip, k_zip, k_zipT, k_zipL, i_enum, k_enum, s_asg, k_asg, s_own, k_own2, k_slotL, k_slotD, k_slotV, s_par, k_par, k_par2, s_frz, s_app, k_app, k_app2, s_ife, k_ifeT, k_ifeF, s_whl, k_w, k_wT, k_wF, k_wN, k_wR, s_ret, k_ret, s_exp, k_exp, s_setC, k_setC, k_cup0, k_cup1, s_ap, k_ap, k_ap2, k_ap3, s_rc, k_rc, ss_nil, ss_cons, k_ssN, k_ssR, finR_rt, finR_nx, pureR_some, varv_0, varv_s, borv_0, borv_0o, borv_s, truth, startP, List.map_cons, List.map_nil, List.replicate_succ, List.replicate_zero, List.cons_append, List.nil_append, Nat.reduceSub, Nat.reduceAdd, bindT, bindTs, optS_some, List.set_cons_succ, List.set_cons_zero, wipeP, mkTup_0, mkTup_1, mkTup_2, mkTup_3, mkTup_4, mkTup_5, mkTup_6, mkTup_7, mkTup_8, mkLst_0, mkLst_1, mkLst_2, mkLst_3, mkLst_4, mkLst_5, mkLst_6, mkLst_7, mkLst_8, mkLst_9, mkLst_10, mkLst_11, mkLst_12, mkLst_13, mkLst_14, mkLst_15, mkLst_16, binop, cmpop, blV, Option.map_some, isTy, bltop, Bool.not_true, Bool.not_false, item_0, item_1, item_2, item_3, item_c0, item_c1, Option.bind_some, List.getElem?_cons_zero, List.getElem?_cons_succ, if_true, if_false, Bool.false_eq_true, and_self, dat_int, dat_bl, dat_non, peq_int, peq_bl, peq_nonnon, Int.cast_ofNat_Int, Int.reduceEq, Bool.and_self, List.length_cons, List.length_nil, Int.reduceLT, Int.reduceLE, Int.reduceAdd, Int.reduceSub, Nat.reduceLT, Nat.reduceLeDiff, decide_true, decide_false, Bool.or_true, Bool.true_or, true_and, and_true, b_fits_choice, e1, ok_ask, peq_str, e2, item_4]
theorem items_for (k : Nat) (value : PV) (F : List PV) (q : QE) (hq : QOk named q) (rv : List PV) (hrv : rv.length + 2 * q.its.length ≤ 10000) (t6 : PP.Slot) (c : List PV) : ∃ s6, execS (callK P (k + 4)) b_items_in_f0 [.val (.int named), .val value, .val (.lst F), .val (.lst rv), .val (scV q.its), .val (.int (q.d : Int)), t6] c =
    .nx [.val (.int named), .val value, .val (.lst F), .val (.lst (rv ++ (q.its.flatMap (kids q.dp q.d)).map qV)), .val (scV q.its), .val (.int (q.d : Int)), s6] c := by
  have klen : ∀ pre : List It, (pre.flatMap (kids q.dp q.d)).length ≤ 2 * pre.length := fun pre => by
    induction pre with
    | nil => exact Nat.le_refl 0
    | cons it r ih =>
      rw [List.flatMap_cons, List.length_append, List.length_cons]
      have : (kids q.dp q.d it).length ≤ 2 := by cases it <;> simp [kids]
      omega
  obtain ⟨env', c', e, rfl, s6, rfl⟩ := fr_pre (C := callK P (k + 4)) (t := .name 6) (b := b_items_in_l0) (it := .seq (.var 4)) (φ := itV) (as := q.its) (c0 := c) (c := c)
    (I := fun pre env c' => c' = c ∧ ∃ s6, env = [.val (.int named), .val value, .val (.lst F), .val (.lst (rv ++ (pre.flatMap (kids q.dp q.d)).map qV)), .val (scV q.its), .val (.int (q.d : Int)), s6])
    (env := [.val (.int named), .val value, .val (.lst F), .val (.lst rv), .val (scV q.its), .val (.int (q.d : Int)), t6]) ⟨rfl, t6, by simp⟩ (by
      unfold scV
      simp -implicitDefEqProofs only [e_con, e_var, e_bor, e_bin, k_bin, k_bin2, e_cmp, k_cmp, k_cmp2, e_neg, k_neg, e_nt, k_nt, k_truth, k_optB, e_and, k_and, k_andT, k_andF, e_or, k_or, k_orT, k_orF, e_ite, k_iteT, k_iteF, e_chain, k_ch, k_ch2, k_ch3T, k_ch3F, e_tup, k_tup, e_lst, k_lst, e_ix, k_ix, k_ix2, e_sl, k_sl, k_sl2, k_sl3, e_call, k_call, e_blt, k_blt, e_mth, k_mth, k_mth2, e_isin, k_is, e_pick, k_pick, k_pick2, es_nil, es_cons, k_es, k_es2, o_none, o_some, k_o, c_none, c_some, i_seq, k_seqT, k_seqL, i_r1, k_r1, i_r2, k_r2, k_r3, i_zip, k_zip, k_zipT, k_zipL, i_enum, k_enum, s_asg, k_asg, s_own, k_own2, k_slotL, k_slotD, k_slotV, s_par, k_par, k_par2, s_frz, s_app, k_app, k_app2, s_ife, k_ifeT, k_ifeF, s_whl, k_w, k_wT, k_wF, k_wN, k_wR, s_ret, k_ret, s_exp, k_exp, s_setC, k_setC, k_cup0, k_cup1, s_ap, k_ap, k_ap2, k_ap3, s_rc, k_rc, ss_nil, ss_cons, k_ssN, k_ssR, finR_rt, finR_nx, pureR_some, varv_0, varv_s, borv_0, borv_0o, borv_s, truth, startP, List.map_cons, List.map_nil, List.replicate_succ, List.replicate_zero, List.cons_append, List.nil_append, Nat.reduceSub, Nat.reduceAdd, bindT, bindTs, optS_some, List.set_cons_succ, List.set_cons_zero, wipeP, mkTup_0, mkTup_1, mkTup_2, mkTup_3, mkTup_4, mkTup_5, mkTup_6, mkTup_7, mkTup_8, mkLst_0, mkLst_1, mkLst_2, mkLst_3, mkLst_4, mkLst_5, mkLst_6, mkLst_7, mkLst_8, mkLst_9, mkLst_10, mkLst_11, mkLst_12, mkLst_13, mkLst_14, mkLst_15, mkLst_16, binop, cmpop, blV, Option.map_some, isTy, bltop, Bool.not_true, Bool.not_false, item_0, item_1, item_2, item_3, item_c0, item_c1, Option.bind_some, List.getElem?_cons_zero, List.getElem?_cons_succ, if_true, if_false, Bool.false_eq_true, and_self, dat_int, dat_bl, dat_non, peq_int, peq_bl, peq_nonnon, Int.cast_ofNat_Int, Int.reduceEq, Bool.and_self, List.length_cons, List.length_nil, Int.reduceLT, Int.reduceLE, Int.reduceAdd, Int.reduceSub, Nat.reduceLT, Nat.reduceLeDiff, decide_true, decide_false, Bool.or_true, Bool.true_or, true_and, and_true]) fun pre x post hp env c' ⟨hc, s6, he⟩ => by
    subst hc he
    have hx : x ∈ q.its := by rw [hp]; exact List.mem_append.mpr (.inr (List.mem_cons_self ..))
    have hl : pre.length + 1 ≤ q.its.length := by rw [hp, List.length_append, List.length_cons]; omega
    have hk := klen pre
    refine ⟨_, rfl, [.val (.int named), .val value, .val (.lst F), .val (.lst (rv ++ ((pre ++ [x]).flatMap (kids q.dp q.d)).map qV)), .val (scV q.its), .val (.int (q.d : Int)), .val (itV x)], c', ?_, rfl, _, rfl⟩
    simp only [List.set_cons_succ, List.set_cons_zero]
    have h0 := hq.1 x hx
    cases x with
    | deed d =>
      have e1 := f_fits_choice (named := named) (k + 2) d c'
      have e2 := f_fits_deed k named d c' (iok_deed.mp h0)
      rw [List.flatMap_append, itV_deed]
      have e3 : List.flatMap (kids q.dp q.d) [It.deed d] = [] := rfl
      rw [e3, List.append_nil]
      simp -implicitDefEqProofs only [e_con, e_var, e_bor, e_bin, k_bin, k_bin2, e_cmp, k_cmp, k_cmp2, e_neg, k_neg, e_nt, k_nt, k_truth, k_optB, e_and, k_and, k_andT, k_andF, e_or, k_or, k_orT, k_orF, e_ite, k_iteT, k_iteF, e_chain, k_ch, k_ch2, k_ch3T, k_ch3F, e_tup, k_tup, e_lst, k_lst, e_ix, k_ix, k_ix2, e_sl, k_sl, k_sl2, k_sl3, e_call, k_call, e_blt, k_blt, e_mth, k_mth, k_mth2, e_isin, k_is, e_pick, k_pick, k_pick2, es_nil, es_cons, k_es, k_es2, o_none, o_some, k_o, c_none, c_some, i_seq, k_seqT, k_seqL, i_r1, k_r1, i_r2, k_r2, k_r3, i_zip, k_zip, k_zipT, k_zipL, i_enum, k_enum, s_asg, k_asg, s_own, k_own2, k_slotL, k_slotD, k_slotV, s_par, k_par, k_par2, s_frz, s_app, k_app, k_app2, s_ife, k_ifeT, k_ifeF, s_whl, k_w, k_wT, k_wF, k_wN, k_wR, s_ret, k_ret, s_exp, k_exp, s_setC, k_setC, k_cup0, k_cup1, s_ap, k_ap, k_ap2, k_ap3, s_rc, k_rc, ss_nil, ss_cons, k_ssN, k_ssR, finR_rt, finR_nx, pureR_some, varv_0, varv_s, borv_0, borv_0o, borv_s, truth, startP, List.map_cons, List.map_nil, List.replicate_succ, List.replicate_zero, List.cons_append, List.nil_append, Nat.reduceSub, Nat.reduceAdd, bindT, bindTs, optS_some, List.set_cons_succ, List.set_cons_zero, wipeP, mkTup_0, mkTup_1, mkTup_2, mkTup_3, mkTup_4, mkTup_5, mkTup_6, mkTup_7, mkTup_8, mkLst_0, mkLst_1, mkLst_2, mkLst_3, mkLst_4, mkLst_5, mkLst_6, mkLst_7, mkLst_8, mkLst_9, mkLst_10, mkLst_11, mkLst_12, mkLst_13, mkLst_14, mkLst_15, mkLst_16, binop, cmpop, blV, Option.map_some, isTy, bltop, Bool.not_true, Bool.not_false, item_0, item_1, item_2, item_3, item_c0, item_c1, Option.bind_some, List.getElem?_cons_zero, List.getElem?_cons_succ, if_true, if_false, Bool.false_eq_true, and_self, dat_int, dat_bl, dat_non, peq_int, peq_bl, peq_nonnon, Int.cast_ofNat_Int, Int.reduceEq, Bool.and_self, List.length_cons, List.length_nil, Int.reduceLT, Int.reduceLE, Int.reduceAdd, Int.reduceSub, Nat.reduceLT, Nat.reduceLeDiff, decide_true, decide_false, Bool.or_true, Bool.true_or, true_and, and_true, b_items_in_l0, e1, e2]
    | ask p o y n =>
      have e1 := f_fits_choice_ask (k + 1) h0 c'
      have e4 : List.flatMap (kids q.dp q.d) [It.ask p o y n] = [⟨y, q.dp - 1, q.d + 1⟩, ⟨n, q.dp - 1, q.d + 1⟩] := rfl
      have e5 : ([⟨y, q.dp - 1, q.d + 1⟩, ⟨n, q.dp - 1, q.d + 1⟩] : List QE).map qV = [.tup [.tup (y.map itV), .int ((q.d : Int) + 1)], .tup [.tup (n.map itV), .int ((q.d : Int) + 1)]] := rfl
      rw [List.flatMap_append, e4, List.map_append, e5]
      have e3 := mkLst_s (xs := rv ++ (pre.flatMap (kids q.dp q.d)).map qV ++ [.tup [.tup (y.map itV), .int ((q.d : Int) + 1)], .tup [.tup (n.map itV), .int ((q.d : Int) + 1)]]) (by simp only [List.length_append, List.length_map, List.length_cons, List.length_nil]; unfold LIM; omega)
      rw [itV_ask] at e1 ⊢
      rw [← List.append_assoc]
      simp -implicitDefEqProofs only [e_con, e_var, e_bor, e_bin, k_bin, k_bin2, e_cmp, k_cmp, k_cmp2, e_neg, k_neg, e_nt, k_nt, k_truth, k_optB, e_and, k_and, k_andT, k_andF, e_or, k_or, k_orT, k_orF, e_ite, k_iteT, k_iteF, e_chain, k_ch, k_ch2, k_ch3T, k_ch3F, e_tup, k_tup, e_lst, k_lst, e_ix, k_ix, k_ix2, e_sl, k_sl, k_sl2, k_sl3, e_call, k_call, e_blt, k_blt, e_mth, k_mth, k_mth2, e_isin, k_is, e_pick, k_pick, k_pick2, es_nil, es_cons, k_es, k_es2, o_none, o_some, k_o, c_none, c_some, i_seq, k_seqT, k_seqL, i_r1, k_r1, i_r2, k_r2, k_r3, i_zip, k_zip, k_zipT, k_zipL, i_enum, k_enum, s_asg, k_asg, s_own, k_own2, k_slotL, k_slotD, k_slotV, s_par, k_par, k_par2, s_frz, s_app, k_app, k_app2, s_ife, k_ifeT, k_ifeF, s_whl, k_w, k_wT, k_wF, k_wN, k_wR, s_ret, k_ret, s_exp, k_exp, s_setC, k_setC, k_cup0, k_cup1, s_ap, k_ap, k_ap2, k_ap3, s_rc, k_rc, ss_nil, ss_cons, k_ssN, k_ssR, finR_rt, finR_nx, pureR_some, varv_0, varv_s, borv_0, borv_0o, borv_s, truth, startP, List.map_cons, List.map_nil, List.replicate_succ, List.replicate_zero, List.cons_append, List.nil_append, Nat.reduceSub, Nat.reduceAdd, bindT, bindTs, optS_some, List.set_cons_succ, List.set_cons_zero, wipeP, mkTup_0, mkTup_1, mkTup_2, mkTup_3, mkTup_4, mkTup_5, mkTup_6, mkTup_7, mkTup_8, mkLst_0, mkLst_1, mkLst_2, mkLst_3, mkLst_4, mkLst_5, mkLst_6, mkLst_7, mkLst_8, mkLst_9, mkLst_10, mkLst_11, mkLst_12, mkLst_13, mkLst_14, mkLst_15, mkLst_16, binop, cmpop, blV, Option.map_some, isTy, bltop, Bool.not_true, Bool.not_false, item_0, item_1, item_2, item_3, item_c0, item_c1, Option.bind_some, List.getElem?_cons_zero, List.getElem?_cons_succ, if_true, if_false, Bool.false_eq_true, and_self, dat_int, dat_bl, dat_non, peq_int, peq_bl, peq_nonnon, Int.cast_ofNat_Int, Int.reduceEq, Bool.and_self, List.length_cons, List.length_nil, Int.reduceLT, Int.reduceLE, Int.reduceAdd, Int.reduceSub, Nat.reduceLT, Nat.reduceLeDiff, decide_true, decide_false, Bool.or_true, Bool.true_or, true_and, and_true, b_items_in_l0, e1, item_4, e3]
  exact ⟨s6, e⟩
theorem qM_len : ∀ qs : List QE, qs.length ≤ qM qs
  | [] => Nat.le_refl 0
  | q :: r => by
    have := qM_len r
    rw [show qM (q :: r) = (2 * cntL q.dp q.its + 1) + qM r by unfold qM; simp, List.length_cons]
    omega
theorem items_loop (k : Nat) (value : PV) (c : List PV) : ∀ (N : Nat) (qs : List QE), N ≤ 1000 → qM qs ≤ N → (∀ q ∈ qs, QOk named q) → ∀ (F : List PV) (m : Nat) (s4 s5 s6 : PP.Slot), F.length + qC qs ≤ 30 → GF F → ∃ F' s4' s5' s6',
    kW (callK P (k + 4)) (.cmp .ne (.var 3) (.lst [])) b_items_in_l1 (N + m + 1) [.val (.int named), .val value, .val (.lst F), .val (.lst (qs.map qV)), s4, s5, s6] c = .nx [.val (.int named), .val value, .val (.lst F'), .val (.lst []), s4', s5', s6'] c ∧ GF F' ∧ F'.length ≤ 30 := by
  intro N
  induction N with
  | zero =>
    intro qs _ hM _ F m s4 s5 s6 _ hF
    have : qs = [] := List.eq_nil_of_length_eq_zero (by have := qM_len qs; omega)
    subst this
    refine ⟨F, s4, s5, s6, ?_, hF, by omega⟩
    simp -implicitDefEqProofs only [e_con, e_var, e_bor, e_bin, k_bin, k_bin2, e_cmp, k_cmp, k_cmp2, e_neg, k_neg, e_nt, k_nt, k_truth, k_optB, e_and, k_and, k_andT, k_andF, e_or, k_or, k_orT, k_orF, e_ite, k_iteT, k_iteF, e_chain, k_ch, k_ch2, k_ch3T, k_ch3F, e_tup, k_tup, e_lst, k_lst, e_ix, k_ix, k_ix2, e_sl, k_sl, k_sl2, k_sl3, e_call, k_call, e_blt, k_blt, e_mth, k_mth, k_mth2, e_isin, k_is, e_pick, k_pick, k_pick2, es_nil, es_cons, k_es, k_es2, o_none, o_some, k_o, c_none, c_some, i_seq, k_seqT, k_seqL, i_r1, k_r1, i_r2, k_r2, k_r3, i_zip, k_zip, k_zipT, k_zipL, i_enum, k_enum, s_asg, k_asg, s_own, k_own2, k_slotL, k_slotD, k_slotV, s_par, k_par, k_par2, s_frz, s_app, k_app, k_app2, s_ife, k_ifeT, k_ifeF, s_whl, k_w, k_wT, k_wF, k_wN, k_wR, s_ret, k_ret, s_exp, k_exp, s_setC, k_setC, k_cup0, k_cup1, s_ap, k_ap, k_ap2, k_ap3, s_rc, k_rc, ss_nil, ss_cons, k_ssN, k_ssR, finR_rt, finR_nx, pureR_some, varv_0, varv_s, borv_0, borv_0o, borv_s, truth, startP, List.map_cons, List.map_nil, List.replicate_succ, List.replicate_zero, List.cons_append, List.nil_append, Nat.reduceSub, Nat.reduceAdd, bindT, bindTs, optS_some, List.set_cons_succ, List.set_cons_zero, wipeP, mkTup_0, mkTup_1, mkTup_2, mkTup_3, mkTup_4, mkTup_5, mkTup_6, mkTup_7, mkTup_8, mkLst_0, mkLst_1, mkLst_2, mkLst_3, mkLst_4, mkLst_5, mkLst_6, mkLst_7, mkLst_8, mkLst_9, mkLst_10, mkLst_11, mkLst_12, mkLst_13, mkLst_14, mkLst_15, mkLst_16, binop, cmpop, blV, Option.map_some, isTy, bltop, Bool.not_true, Bool.not_false, item_0, item_1, item_2, item_3, item_c0, item_c1, Option.bind_some, List.getElem?_cons_zero, List.getElem?_cons_succ, if_true, if_false, Bool.false_eq_true, and_self, dat_int, dat_bl, dat_non, peq_int, peq_bl, peq_nonnon, Int.cast_ofNat_Int, Int.reduceEq, Bool.and_self, List.length_cons, List.length_nil, Int.reduceLT, Int.reduceLE, Int.reduceAdd, Int.reduceSub, Nat.reduceLT, Nat.reduceLeDiff, decide_true, decide_false, Bool.or_true, Bool.true_or, true_and, and_true, dat_nil, peq_nil_nil]
  | succ N ih =>
    intro qs hN hM hQ F m s4 s5 s6 hC hF
    cases qs with
    | nil =>
      refine ⟨F, s4, s5, s6, ?_, hF, by omega⟩
      simp -implicitDefEqProofs only [e_con, e_var, e_bor, e_bin, k_bin, k_bin2, e_cmp, k_cmp, k_cmp2, e_neg, k_neg, e_nt, k_nt, k_truth, k_optB, e_and, k_and, k_andT, k_andF, e_or, k_or, k_orT, k_orF, e_ite, k_iteT, k_iteF, e_chain, k_ch, k_ch2, k_ch3T, k_ch3F, e_tup, k_tup, e_lst, k_lst, e_ix, k_ix, k_ix2, e_sl, k_sl, k_sl2, k_sl3, e_call, k_call, e_blt, k_blt, e_mth, k_mth, k_mth2, e_isin, k_is, e_pick, k_pick, k_pick2, es_nil, es_cons, k_es, k_es2, o_none, o_some, k_o, c_none, c_some, i_seq, k_seqT, k_seqL, i_r1, k_r1, i_r2, k_r2, k_r3, i_zip, k_zip, k_zipT, k_zipL, i_enum, k_enum, s_asg, k_asg, s_own, k_own2, k_slotL, k_slotD, k_slotV, s_par, k_par, k_par2, s_frz, s_app, k_app, k_app2, s_ife, k_ifeT, k_ifeF, s_whl, k_w, k_wT, k_wF, k_wN, k_wR, s_ret, k_ret, s_exp, k_exp, s_setC, k_setC, k_cup0, k_cup1, s_ap, k_ap, k_ap2, k_ap3, s_rc, k_rc, ss_nil, ss_cons, k_ssN, k_ssR, finR_rt, finR_nx, pureR_some, varv_0, varv_s, borv_0, borv_0o, borv_s, truth, startP, List.map_cons, List.map_nil, List.replicate_succ, List.replicate_zero, List.cons_append, List.nil_append, Nat.reduceSub, Nat.reduceAdd, bindT, bindTs, optS_some, List.set_cons_succ, List.set_cons_zero, wipeP, mkTup_0, mkTup_1, mkTup_2, mkTup_3, mkTup_4, mkTup_5, mkTup_6, mkTup_7, mkTup_8, mkLst_0, mkLst_1, mkLst_2, mkLst_3, mkLst_4, mkLst_5, mkLst_6, mkLst_7, mkLst_8, mkLst_9, mkLst_10, mkLst_11, mkLst_12, mkLst_13, mkLst_14, mkLst_15, mkLst_16, binop, cmpop, blV, Option.map_some, isTy, bltop, Bool.not_true, Bool.not_false, item_0, item_1, item_2, item_3, item_c0, item_c1, Option.bind_some, List.getElem?_cons_zero, List.getElem?_cons_succ, if_true, if_false, Bool.false_eq_true, and_self, dat_int, dat_bl, dat_non, peq_int, peq_bl, peq_nonnon, Int.cast_ofNat_Int, Int.reduceEq, Bool.and_self, List.length_cons, List.length_nil, Int.reduceLT, Int.reduceLE, Int.reduceAdd, Int.reduceSub, Nat.reduceLT, Nat.reduceLeDiff, decide_true, decide_false, Bool.or_true, Bool.true_or, true_and, and_true, dat_nil, peq_nil_nil]
    | cons q r =>
      have hq := hQ q (List.mem_cons_self ..)
      have e1 : qM (q :: r) = (2 * cntL q.dp q.its + 1) + qM r := by unfold qM; simp
      have e2 : qC (q :: r) = cntL q.dp q.its + qC r := by unfold qC; simp
      obtain ⟨hk1, hk2⟩ := kidsL_c (d := q.d) hq.1
      have hrl := qM_len r
      have hil := cntL_len (dp := q.dp) q.its
      have hF' : GF (F ++ q.its.map fun it => .tup [itV it, .int (q.d : Int)]) := fun x hx => by
        rcases List.mem_append.mp hx with hx | hx
        · exact hF x hx
        · obtain ⟨it, hit, rfl⟩ := List.mem_map.mp hx
          refine ⟨it, q.d, rfl, fun ⟨p, o, y, n, e⟩ => ?_⟩
          subst e
          have h0 := hq.1 _ hit
          have h2 := hq.2
          cases hd : q.dp with
          | zero => rw [hd] at h0; exact h0.elim
          | succ dp => omega
      obtain ⟨s6a, ef⟩ := items_for k value (F ++ q.its.map fun it => .tup [itV it, .int (q.d : Int)]) q hq (r.map qV) (by rw [List.length_map]; omega) s6 c
      obtain ⟨F', t4, t5, t6, eq_, hG⟩ := ih (r ++ q.its.flatMap (kids q.dp q.d)) (by omega) (by rw [qM_app]; omega) (fun z hz => by
        rcases List.mem_append.mp hz with hz | hz
        · exact hQ z (List.mem_cons_of_mem _ hz)
        · obtain ⟨it, hit, hz⟩ := List.mem_flatMap.mp hz
          exact kids_ok (hq.1 it hit) hq.2 z hz) (F ++ q.its.map fun it => .tup [itV it, .int (q.d : Int)]) m (.val (scV q.its)) (.val (.int (q.d : Int))) s6a (by
          rw [qC_app, List.length_append, List.length_map]; omega) hF'
      refine ⟨F', t4, t5, t6, ?_, hG⟩
      rw [List.map_append] at eq_
      refine Eq.trans ?_ eq_
      have e0 : dat (.lst (qV q :: r.map qV)) = true := by
        show (small 59 (qV q) && (r.map qV).all (small 59)) = true
        rw [small_q hq, Bool.true_and, List.all_map, List.all_eq_true]
        exact fun z hz => small_q (hQ z (List.mem_cons_of_mem _ hz))
      have e3 : ∀ c, item (.lst (qV q :: r.map qV)) (.int 0) c = some (qV q) := fun c => item_lst (i := 0) rfl
      have _e4 : bindT (.tup [.tup [.name 4, .name 5], .name 3]) (.tup [qV q, .lst (r.map qV)]) [.val (.int named), .val value, .val (.lst F), .val (.lst (qV q :: r.map qV)), s4, s5, s6] = some [.val (.int named), .val value, .val (.lst F), .val (.lst (r.map qV)), .val (scV q.its), .val (.int (q.d : Int)), s6] := rfl
      have e5 : evalE (callK P (k + 4)) b_items_in_c0 [.val (.int named), .val value, .val (.lst F), .val (.lst (r.map qV)), .val (scV q.its), .val (.int (q.d : Int)), s6] c = .ok (.lst (q.its.map fun it => .tup [itV it, .int (q.d : Int)])) c := by
        refine comp_map q.its itV _ ?_ (fun x hm => ⟨_, rfl, ?_⟩) (by unfold LIM; omega)
        · unfold scV
          simp -implicitDefEqProofs only [e_con, e_var, e_bor, e_bin, k_bin, k_bin2, e_cmp, k_cmp, k_cmp2, e_neg, k_neg, e_nt, k_nt, k_truth, k_optB, e_and, k_and, k_andT, k_andF, e_or, k_or, k_orT, k_orF, e_ite, k_iteT, k_iteF, e_chain, k_ch, k_ch2, k_ch3T, k_ch3F, e_tup, k_tup, e_lst, k_lst, e_ix, k_ix, k_ix2, e_sl, k_sl, k_sl2, k_sl3, e_call, k_call, e_blt, k_blt, e_mth, k_mth, k_mth2, e_isin, k_is, e_pick, k_pick, k_pick2, es_nil, es_cons, k_es, k_es2, o_none, o_some, k_o, c_none, c_some, i_seq, k_seqT, k_seqL, i_r1, k_r1, i_r2, k_r2, k_r3, i_zip, k_zip, k_zipT, k_zipL, i_enum, k_enum, s_asg, k_asg, s_own, k_own2, k_slotL, k_slotD, k_slotV, s_par, k_par, k_par2, s_frz, s_app, k_app, k_app2, s_ife, k_ifeT, k_ifeF, s_whl, k_w, k_wT, k_wF, k_wN, k_wR, s_ret, k_ret, s_exp, k_exp, s_setC, k_setC, k_cup0, k_cup1, s_ap, k_ap, k_ap2, k_ap3, s_rc, k_rc, ss_nil, ss_cons, k_ssN, k_ssR, finR_rt, finR_nx, pureR_some, varv_0, varv_s, borv_0, borv_0o, borv_s, truth, startP, List.map_cons, List.map_nil, List.replicate_succ, List.replicate_zero, List.cons_append, List.nil_append, Nat.reduceSub, Nat.reduceAdd, bindT, bindTs, optS_some, List.set_cons_succ, List.set_cons_zero, wipeP, mkTup_0, mkTup_1, mkTup_2, mkTup_3, mkTup_4, mkTup_5, mkTup_6, mkTup_7, mkTup_8, mkLst_0, mkLst_1, mkLst_2, mkLst_3, mkLst_4, mkLst_5, mkLst_6, mkLst_7, mkLst_8, mkLst_9, mkLst_10, mkLst_11, mkLst_12, mkLst_13, mkLst_14, mkLst_15, mkLst_16, binop, cmpop, blV, Option.map_some, isTy, bltop, Bool.not_true, Bool.not_false, item_0, item_1, item_2, item_3, item_c0, item_c1, Option.bind_some, List.getElem?_cons_zero, List.getElem?_cons_succ, if_true, if_false, Bool.false_eq_true, and_self, dat_int, dat_bl, dat_non, peq_int, peq_bl, peq_nonnon, Int.cast_ofNat_Int, Int.reduceEq, Bool.and_self, List.length_cons, List.length_nil, Int.reduceLT, Int.reduceLE, Int.reduceAdd, Int.reduceSub, Nat.reduceLT, Nat.reduceLeDiff, decide_true, decide_false, Bool.or_true, Bool.true_or, true_and, and_true]
        · simp -implicitDefEqProofs only [e_con, e_var, e_bor, e_bin, k_bin, k_bin2, e_cmp, k_cmp, k_cmp2, e_neg, k_neg, e_nt, k_nt, k_truth, k_optB, e_and, k_and, k_andT, k_andF, e_or, k_or, k_orT, k_orF, e_ite, k_iteT, k_iteF, e_chain, k_ch, k_ch2, k_ch3T, k_ch3F, e_tup, k_tup, e_lst, k_lst, e_ix, k_ix, k_ix2, e_sl, k_sl, k_sl2, k_sl3, e_call, k_call, e_blt, k_blt, e_mth, k_mth, k_mth2, e_isin, k_is, e_pick, k_pick, k_pick2, es_nil, es_cons, k_es, k_es2, o_none, o_some, k_o, c_none, c_some, i_seq, k_seqT, k_seqL, i_r1, k_r1, i_r2, k_r2, k_r3, i_zip, k_zip, k_zipT, k_zipL, i_enum, k_enum, s_asg, k_asg, s_own, k_own2, k_slotL, k_slotD, k_slotV, s_par, k_par, k_par2, s_frz, s_app, k_app, k_app2, s_ife, k_ifeT, k_ifeF, s_whl, k_w, k_wT, k_wF, k_wN, k_wR, s_ret, k_ret, s_exp, k_exp, s_setC, k_setC, k_cup0, k_cup1, s_ap, k_ap, k_ap2, k_ap3, s_rc, k_rc, ss_nil, ss_cons, k_ssN, k_ssR, finR_rt, finR_nx, pureR_some, varv_0, varv_s, borv_0, borv_0o, borv_s, truth, startP, List.map_cons, List.map_nil, List.replicate_succ, List.replicate_zero, List.cons_append, List.nil_append, Nat.reduceSub, Nat.reduceAdd, bindT, bindTs, optS_some, List.set_cons_succ, List.set_cons_zero, wipeP, mkTup_0, mkTup_1, mkTup_2, mkTup_3, mkTup_4, mkTup_5, mkTup_6, mkTup_7, mkTup_8, mkLst_0, mkLst_1, mkLst_2, mkLst_3, mkLst_4, mkLst_5, mkLst_6, mkLst_7, mkLst_8, mkLst_9, mkLst_10, mkLst_11, mkLst_12, mkLst_13, mkLst_14, mkLst_15, mkLst_16, binop, cmpop, blV, Option.map_some, isTy, bltop, Bool.not_true, Bool.not_false, item_0, item_1, item_2, item_3, item_c0, item_c1, Option.bind_some, List.getElem?_cons_zero, List.getElem?_cons_succ, if_true, if_false, Bool.false_eq_true, and_self, dat_int, dat_bl, dat_non, peq_int, peq_bl, peq_nonnon, Int.cast_ofNat_Int, Int.reduceEq, Bool.and_self, List.length_cons, List.length_nil, Int.reduceLT, Int.reduceLE, Int.reduceAdd, Int.reduceSub, Nat.reduceLT, Nat.reduceLeDiff, decide_true, decide_false, Bool.or_true, Bool.true_or, true_and, and_true]
      have e6 := mkLst_s (xs := F ++ q.its.map fun it => .tup [itV it, .int (q.d : Int)]) (by rw [List.length_append, List.length_map]; unfold LIM; omega)
      have e7 : ¬ (30 : Int) < (F ++ q.its.map fun it => PV.tup [itV it, .int (q.d : Int)]).length := by rw [List.length_append, List.length_map]; omega
      rw [show N + 1 + m + 1 = (N + m + 1) + 1 by omega, List.map_cons]
      generalize N + m + 1 = NN
      rw [k_w]
      generalize hfl : (F ++ q.its.map fun it => PV.tup [itV it, .int (q.d : Int)]) = FF at ef e6 e7 ⊢
      generalize hG' : kW (callK P (k + 4)) (.cmp .ne (.var 3) (.lst [])) b_items_in_l1 NN = G
      rw [← hG']
      unfold b_items_in_l1
      have eq1 : qV q = .tup [scV q.its, .int (q.d : Int)] := rfl
      rw [eq1] at e0 e3 ⊢
      simp -implicitDefEqProofs only [e_con, e_var, e_bor, e_bin, k_bin, k_bin2, e_cmp, k_cmp, k_cmp2, e_neg, k_neg, e_nt, k_nt, k_truth, k_optB, e_and, k_and, k_andT, k_andF, e_or, k_or, k_orT, k_orF, e_ite, k_iteT, k_iteF, e_chain, k_ch, k_ch2, k_ch3T, k_ch3F, e_tup, k_tup, e_lst, k_lst, e_ix, k_ix, k_ix2, e_sl, k_sl, k_sl2, k_sl3, e_call, k_call, e_blt, k_blt, e_mth, k_mth, k_mth2, e_isin, k_is, e_pick, k_pick, k_pick2, es_nil, es_cons, k_es, k_es2, o_none, o_some, k_o, c_none, c_some, i_seq, k_seqT, k_seqL, i_r1, k_r1, i_r2, k_r2, k_r3, i_zip, k_zip, k_zipT, k_zipL, i_enum, k_enum, s_asg, k_asg, s_own, k_own2, k_slotL, k_slotD, k_slotV, s_par, k_par, k_par2, s_frz, s_app, k_app, k_app2, s_ife, k_ifeT, k_ifeF, s_whl, k_w, k_wT, k_wF, k_wN, k_wR, s_ret, k_ret, s_exp, k_exp, s_setC, k_setC, k_cup0, k_cup1, s_ap, k_ap, k_ap2, k_ap3, s_rc, k_rc, ss_nil, ss_cons, k_ssN, k_ssR, finR_rt, finR_nx, pureR_some, varv_0, varv_s, borv_0, borv_0o, borv_s, truth, startP, List.map_cons, List.map_nil, List.replicate_succ, List.replicate_zero, List.cons_append, List.nil_append, Nat.reduceSub, Nat.reduceAdd, bindT, bindTs, optS_some, List.set_cons_succ, List.set_cons_zero, wipeP, mkTup_0, mkTup_1, mkTup_2, mkTup_3, mkTup_4, mkTup_5, mkTup_6, mkTup_7, mkTup_8, mkLst_0, mkLst_1, mkLst_2, mkLst_3, mkLst_4, mkLst_5, mkLst_6, mkLst_7, mkLst_8, mkLst_9, mkLst_10, mkLst_11, mkLst_12, mkLst_13, mkLst_14, mkLst_15, mkLst_16, binop, cmpop, blV, Option.map_some, isTy, bltop, Bool.not_true, Bool.not_false, item_0, item_1, item_2, item_3, item_c0, item_c1, Option.bind_some, List.getElem?_cons_zero, List.getElem?_cons_succ, if_true, if_false, Bool.false_eq_true, and_self, dat_int, dat_bl, dat_non, peq_int, peq_bl, peq_nonnon, Int.cast_ofNat_Int, Int.reduceEq, Bool.and_self, List.length_cons, List.length_nil, Int.reduceLT, Int.reduceLE, Int.reduceAdd, Int.reduceSub, Nat.reduceLT, Nat.reduceLeDiff, decide_true, decide_false, Bool.or_true, Bool.true_or, true_and, and_true, e0, dat_nil, peq_cons_nil, e3, slice, cut1, List.drop_succ_cons, List.drop_zero, e5, hfl, e6, e7, ef]
end
end K09

set_option Elab.async false
set_option linter.all false
set_option maxRecDepth 100000
/-! K09E: scripts done. -/
namespace K09
open PySem PP
/-- a script that fits -/
structure SOk (named : Nat) (its : List It) : Prop where
  ok : ∀ i ∈ its, IOk named 4 i
  few : cntL 4 its ≤ 30
section
variable {named n : Nat} {its : List It} {ps : List (Int × Int)}
theorem it_head (it : It) : ∃ s r, itV it = .tup (.str s :: r) ∧ dat (.str s) = true ∧ (s = "ask" ↔ ∃ p o y n, it = .ask p o y n) := by
  cases it with
  | deed d =>
    have h1 : ∃ r, deedV d = .tup (.str (headS d) :: r) := by cases d <;> exact ⟨_, rfl⟩
    obtain ⟨r, h1⟩ := h1
    exact ⟨headS d, r, by rw [itV_deed]; exact h1, head_dat d, fun z => absurd z (by rw [head_ask d]; exact id), fun ⟨_, _, _, _, z⟩ => nomatch z⟩
  | ask p o y n => exact ⟨"ask", _, by rw [itV_ask], ok_ask, fun _ => ⟨p, o, y, n, rfl⟩, fun _ => rfl⟩
theorem g_items_in (h : SOk named its) (k : Nat) (c : List PV) : ∃ F, callK P (k + 5) n_items_in [.int named, scV its] c = .ok (.lst F) c ∧ GF F ∧ F.length ≤ 30 := by
  have hw : WB = 999980 := rfl
  have hfew := h.few
  have hq : QOk named ⟨its, 4, 0⟩ := ⟨h.ok, Nat.le_refl 4⟩
  obtain ⟨F', s4', s5', s6', e, hG, hl⟩ := items_loop (named := named) k (scV its) c 61 [⟨its, 4, 0⟩] (by decide) (by unfold qM; simp; omega) (fun q hq' => by rw [List.mem_singleton] at hq'; rw [hq']; exact hq) [] (WB - 42) .no .no .no (by unfold qC; simp; omega) (fun x hx => nomatch hx)
  rw [show 61 + (WB - 42) + 1 = WB + 20 by omega] at e
  have e2 : execS (callK P (k + 4)) b_items_in_w0 [.val (.int named), .val (scV its), .val (.lst []), .val (.lst [.tup [scV its, .int 0]]), .no, .no, .no] c = .nx [.val (.int named), .val (scV its), .val (.lst F'), .val (.lst []), s4', s5', s6'] c := s_whl.trans e
  refine ⟨F', call_ok rfl rfl ?_, hG, hl⟩
  simp -implicitDefEqProofs only [e_con, e_var, e_bor, e_bin, k_bin, k_bin2, e_cmp, k_cmp, k_cmp2, e_neg, k_neg, e_nt, k_nt, k_truth, k_optB, e_and, k_and, k_andT, k_andF, e_or, k_or, k_orT, k_orF, e_ite, k_iteT, k_iteF, e_chain, k_ch, k_ch2, k_ch3T, k_ch3F, e_tup, k_tup, e_lst, k_lst, e_ix, k_ix, k_ix2, e_sl, k_sl, k_sl2, k_sl3, e_call, k_call, e_blt, k_blt, e_mth, k_mth, k_mth2, e_isin, k_is, e_pick, k_pick, k_pick2, es_nil, es_cons, k_es, k_es2, o_none, o_some, k_o, c_none, c_some, i_seq, k_seqT, k_seqL, i_r1, k_r1, i_r2, k_r2, k_r3, i_zip, k_zip, k_zipT, k_zipL, i_enum, k_enum, s_asg, k_asg, s_own, k_own2, k_slotL, k_slotD, k_slotV, s_par, k_par, k_par2, s_frz, s_app, k_app, k_app2, s_ife, k_ifeT, k_ifeF, s_whl, k_w, k_wT, k_wF, k_wN, k_wR, s_ret, k_ret, s_exp, k_exp, s_setC, k_setC, k_cup0, k_cup1, s_ap, k_ap, k_ap2, k_ap3, s_rc, k_rc, ss_nil, ss_cons, k_ssN, k_ssR, finR_rt, finR_nx, pureR_some, varv_0, varv_s, borv_0, borv_0o, borv_s, truth, startP, List.map_cons, List.map_nil, List.replicate_succ, List.replicate_zero, List.cons_append, List.nil_append, Nat.reduceSub, Nat.reduceAdd, bindT, bindTs, optS_some, List.set_cons_succ, List.set_cons_zero, wipeP, mkTup_0, mkTup_1, mkTup_2, mkTup_3, mkTup_4, mkTup_5, mkTup_6, mkTup_7, mkTup_8, mkLst_0, mkLst_1, mkLst_2, mkLst_3, mkLst_4, mkLst_5, mkLst_6, mkLst_7, mkLst_8, mkLst_9, mkLst_10, mkLst_11, mkLst_12, mkLst_13, mkLst_14, mkLst_15, mkLst_16, binop, cmpop, blV, Option.map_some, isTy, bltop, Bool.not_true, Bool.not_false, item_0, item_1, item_2, item_3, item_c0, item_c1, Option.bind_some, List.getElem?_cons_zero, List.getElem?_cons_succ, if_true, if_false, Bool.false_eq_true, and_self, dat_int, dat_bl, dat_non, peq_int, peq_bl, peq_nonnon, Int.cast_ofNat_Int, Int.reduceEq, Bool.and_self, List.length_cons, List.length_nil, Int.reduceLT, Int.reduceLE, Int.reduceAdd, Int.reduceSub, Nat.reduceLT, Nat.reduceLeDiff, decide_true, decide_false, Bool.or_true, Bool.true_or, true_and, and_true, b_items_in, e2]
/-- an item with its depth: is it a choice -/
def askB : PV → Bool
  | .tup (.tup (.str s :: _) :: _) => decide (s = "ask")
  | _ => false
theorem g_need_script (h : SOk named its) (k : Nat) (c : List PV) : callK P (k + 7) n_need_script [.int named, scV its] c = .ok .non c := by
  obtain ⟨F, e1, hG, hl⟩ := g_items_in h k c
  have e2 : evalE (callK P (k + 5)) b_fits_script_c0 [.val (.int named), .val (scV its), .val (.lst F), .no, .no] c = .ok (.lst ((F.filter askB).map fun _ => .bl true)) c := by
    refine comp_pure F id askB (fun _ => .bl true) ?_ (fun x hm => ?_) (by unfold LIM; omega)
    · simp -implicitDefEqProofs only [e_con, e_var, e_bor, e_bin, k_bin, k_bin2, e_cmp, k_cmp, k_cmp2, e_neg, k_neg, e_nt, k_nt, k_truth, k_optB, e_and, k_and, k_andT, k_andF, e_or, k_or, k_orT, k_orF, e_ite, k_iteT, k_iteF, e_chain, k_ch, k_ch2, k_ch3T, k_ch3F, e_tup, k_tup, e_lst, k_lst, e_ix, k_ix, k_ix2, e_sl, k_sl, k_sl2, k_sl3, e_call, k_call, e_blt, k_blt, e_mth, k_mth, k_mth2, e_isin, k_is, e_pick, k_pick, k_pick2, es_nil, es_cons, k_es, k_es2, o_none, o_some, k_o, c_none, c_some, i_seq, k_seqT, k_seqL, i_r1, k_r1, i_r2, k_r2, k_r3, i_zip, k_zip, k_zipT, k_zipL, i_enum, k_enum, s_asg, k_asg, s_own, k_own2, k_slotL, k_slotD, k_slotV, s_par, k_par, k_par2, s_frz, s_app, k_app, k_app2, s_ife, k_ifeT, k_ifeF, s_whl, k_w, k_wT, k_wF, k_wN, k_wR, s_ret, k_ret, s_exp, k_exp, s_setC, k_setC, k_cup0, k_cup1, s_ap, k_ap, k_ap2, k_ap3, s_rc, k_rc, ss_nil, ss_cons, k_ssN, k_ssR, finR_rt, finR_nx, pureR_some, varv_0, varv_s, borv_0, borv_0o, borv_s, truth, startP, List.map_cons, List.map_nil, List.replicate_succ, List.replicate_zero, List.cons_append, List.nil_append, Nat.reduceSub, Nat.reduceAdd, bindT, bindTs, optS_some, List.set_cons_succ, List.set_cons_zero, wipeP, mkTup_0, mkTup_1, mkTup_2, mkTup_3, mkTup_4, mkTup_5, mkTup_6, mkTup_7, mkTup_8, mkLst_0, mkLst_1, mkLst_2, mkLst_3, mkLst_4, mkLst_5, mkLst_6, mkLst_7, mkLst_8, mkLst_9, mkLst_10, mkLst_11, mkLst_12, mkLst_13, mkLst_14, mkLst_15, mkLst_16, binop, cmpop, blV, Option.map_some, isTy, bltop, Bool.not_true, Bool.not_false, item_0, item_1, item_2, item_3, item_c0, item_c1, Option.bind_some, List.getElem?_cons_zero, List.getElem?_cons_succ, if_true, if_false, Bool.false_eq_true, and_self, dat_int, dat_bl, dat_non, peq_int, peq_bl, peq_nonnon, Int.cast_ofNat_Int, Int.reduceEq, Bool.and_self, List.length_cons, List.length_nil, Int.reduceLT, Int.reduceLE, Int.reduceAdd, Int.reduceSub, Nat.reduceLT, Nat.reduceLeDiff, decide_true, decide_false, Bool.or_true, Bool.true_or, true_and, and_true, List.map_id]
    · obtain ⟨it, d, rfl, hd⟩ := hG x hm
      obtain ⟨s, r, e, ds, hs⟩ := it_head it
      rw [e]
      refine ⟨_, rfl, ?_, fun z => ?_⟩
      · simp -implicitDefEqProofs only [e_con, e_var, e_bor, e_bin, k_bin, k_bin2, e_cmp, k_cmp, k_cmp2, e_neg, k_neg, e_nt, k_nt, k_truth, k_optB, e_and, k_and, k_andT, k_andF, e_or, k_or, k_orT, k_orF, e_ite, k_iteT, k_iteF, e_chain, k_ch, k_ch2, k_ch3T, k_ch3F, e_tup, k_tup, e_lst, k_lst, e_ix, k_ix, k_ix2, e_sl, k_sl, k_sl2, k_sl3, e_call, k_call, e_blt, k_blt, e_mth, k_mth, k_mth2, e_isin, k_is, e_pick, k_pick, k_pick2, es_nil, es_cons, k_es, k_es2, o_none, o_some, k_o, c_none, c_some, i_seq, k_seqT, k_seqL, i_r1, k_r1, i_r2, k_r2, k_r3, i_zip, k_zip, k_zipT, k_zipL, i_enum, k_enum, s_asg, k_asg, s_own, k_own2, k_slotL, k_slotD, k_slotV, s_par, k_par, k_par2, s_frz, s_app, k_app, k_app2, s_ife, k_ifeT, k_ifeF, s_whl, k_w, k_wT, k_wF, k_wN, k_wR, s_ret, k_ret, s_exp, k_exp, s_setC, k_setC, k_cup0, k_cup1, s_ap, k_ap, k_ap2, k_ap3, s_rc, k_rc, ss_nil, ss_cons, k_ssN, k_ssR, finR_rt, finR_nx, pureR_some, varv_0, varv_s, borv_0, borv_0o, borv_s, truth, startP, List.map_cons, List.map_nil, List.replicate_succ, List.replicate_zero, List.cons_append, List.nil_append, Nat.reduceSub, Nat.reduceAdd, bindT, bindTs, optS_some, List.set_cons_succ, List.set_cons_zero, wipeP, mkTup_0, mkTup_1, mkTup_2, mkTup_3, mkTup_4, mkTup_5, mkTup_6, mkTup_7, mkTup_8, mkLst_0, mkLst_1, mkLst_2, mkLst_3, mkLst_4, mkLst_5, mkLst_6, mkLst_7, mkLst_8, mkLst_9, mkLst_10, mkLst_11, mkLst_12, mkLst_13, mkLst_14, mkLst_15, mkLst_16, binop, cmpop, blV, Option.map_some, isTy, bltop, Bool.not_true, Bool.not_false, item_0, item_1, item_2, item_3, item_c0, item_c1, Option.bind_some, List.getElem?_cons_zero, List.getElem?_cons_succ, if_true, if_false, Bool.false_eq_true, and_self, dat_int, dat_bl, dat_non, peq_int, peq_bl, peq_nonnon, Int.cast_ofNat_Int, Int.reduceEq, Bool.and_self, List.length_cons, List.length_nil, Int.reduceLT, Int.reduceLE, Int.reduceAdd, Int.reduceSub, Nat.reduceLT, Nat.reduceLeDiff, decide_true, decide_false, Bool.or_true, Bool.true_or, true_and, and_true, ds, ok_ask, peq_str]
        rfl
      · have hs' : s = "ask" := of_decide_eq_true (show decide (s = "ask") = true from z)
        have h4 := hd (hs.mp hs')
        have h5 : (d : Int) < 4 := by omega
        simp -implicitDefEqProofs only [e_con, e_var, e_bor, e_bin, k_bin, k_bin2, e_cmp, k_cmp, k_cmp2, e_neg, k_neg, e_nt, k_nt, k_truth, k_optB, e_and, k_and, k_andT, k_andF, e_or, k_or, k_orT, k_orF, e_ite, k_iteT, k_iteF, e_chain, k_ch, k_ch2, k_ch3T, k_ch3F, e_tup, k_tup, e_lst, k_lst, e_ix, k_ix, k_ix2, e_sl, k_sl, k_sl2, k_sl3, e_call, k_call, e_blt, k_blt, e_mth, k_mth, k_mth2, e_isin, k_is, e_pick, k_pick, k_pick2, es_nil, es_cons, k_es, k_es2, o_none, o_some, k_o, c_none, c_some, i_seq, k_seqT, k_seqL, i_r1, k_r1, i_r2, k_r2, k_r3, i_zip, k_zip, k_zipT, k_zipL, i_enum, k_enum, s_asg, k_asg, s_own, k_own2, k_slotL, k_slotD, k_slotV, s_par, k_par, k_par2, s_frz, s_app, k_app, k_app2, s_ife, k_ifeT, k_ifeF, s_whl, k_w, k_wT, k_wF, k_wN, k_wR, s_ret, k_ret, s_exp, k_exp, s_setC, k_setC, k_cup0, k_cup1, s_ap, k_ap, k_ap2, k_ap3, s_rc, k_rc, ss_nil, ss_cons, k_ssN, k_ssR, finR_rt, finR_nx, pureR_some, varv_0, varv_s, borv_0, borv_0o, borv_s, truth, startP, List.map_cons, List.map_nil, List.replicate_succ, List.replicate_zero, List.cons_append, List.nil_append, Nat.reduceSub, Nat.reduceAdd, bindT, bindTs, optS_some, List.set_cons_succ, List.set_cons_zero, wipeP, mkTup_0, mkTup_1, mkTup_2, mkTup_3, mkTup_4, mkTup_5, mkTup_6, mkTup_7, mkTup_8, mkLst_0, mkLst_1, mkLst_2, mkLst_3, mkLst_4, mkLst_5, mkLst_6, mkLst_7, mkLst_8, mkLst_9, mkLst_10, mkLst_11, mkLst_12, mkLst_13, mkLst_14, mkLst_15, mkLst_16, binop, cmpop, blV, Option.map_some, isTy, bltop, Bool.not_true, Bool.not_false, item_0, item_1, item_2, item_3, item_c0, item_c1, Option.bind_some, List.getElem?_cons_zero, List.getElem?_cons_succ, if_true, if_false, Bool.false_eq_true, and_self, dat_int, dat_bl, dat_non, peq_int, peq_bl, peq_nonnon, Int.cast_ofNat_Int, Int.reduceEq, Bool.and_self, List.length_cons, List.length_nil, Int.reduceLT, Int.reduceLE, Int.reduceAdd, Int.reduceSub, Nat.reduceLT, Nat.reduceLeDiff, decide_true, decide_false, Bool.or_true, Bool.true_or, true_and, and_true, h5]
  have e3 := all_map (fun _ : PV => true) (F.filter askB)
  have e4 : callK P (k + 6) n_fits_script [.int named, scV its] c = .ok (.bl true) c := by
    refine call_ok rfl rfl ?_
    have e6 : (F.filter askB).all (fun _ => true) = true := by simp
    unfold scV at e1 e2 ⊢
    simp -implicitDefEqProofs only [e_con, e_var, e_bor, e_bin, k_bin, k_bin2, e_cmp, k_cmp, k_cmp2, e_neg, k_neg, e_nt, k_nt, k_truth, k_optB, e_and, k_and, k_andT, k_andF, e_or, k_or, k_orT, k_orF, e_ite, k_iteT, k_iteF, e_chain, k_ch, k_ch2, k_ch3T, k_ch3F, e_tup, k_tup, e_lst, k_lst, e_ix, k_ix, k_ix2, e_sl, k_sl, k_sl2, k_sl3, e_call, k_call, e_blt, k_blt, e_mth, k_mth, k_mth2, e_isin, k_is, e_pick, k_pick, k_pick2, es_nil, es_cons, k_es, k_es2, o_none, o_some, k_o, c_none, c_some, i_seq, k_seqT, k_seqL, i_r1, k_r1, i_r2, k_r2, k_r3, i_zip, k_zip, k_zipT, k_zipL, i_enum, k_enum, s_asg, k_asg, s_own, k_own2, k_slotL, k_slotD, k_slotV, s_par, k_par, k_par2, s_frz, s_app, k_app, k_app2, s_ife, k_ifeT, k_ifeF, s_whl, k_w, k_wT, k_wF, k_wN, k_wR, s_ret, k_ret, s_exp, k_exp, s_setC, k_setC, k_cup0, k_cup1, s_ap, k_ap, k_ap2, k_ap3, s_rc, k_rc, ss_nil, ss_cons, k_ssN, k_ssR, finR_rt, finR_nx, pureR_some, varv_0, varv_s, borv_0, borv_0o, borv_s, truth, startP, List.map_cons, List.map_nil, List.replicate_succ, List.replicate_zero, List.cons_append, List.nil_append, Nat.reduceSub, Nat.reduceAdd, bindT, bindTs, optS_some, List.set_cons_succ, List.set_cons_zero, wipeP, mkTup_0, mkTup_1, mkTup_2, mkTup_3, mkTup_4, mkTup_5, mkTup_6, mkTup_7, mkTup_8, mkLst_0, mkLst_1, mkLst_2, mkLst_3, mkLst_4, mkLst_5, mkLst_6, mkLst_7, mkLst_8, mkLst_9, mkLst_10, mkLst_11, mkLst_12, mkLst_13, mkLst_14, mkLst_15, mkLst_16, binop, cmpop, blV, Option.map_some, isTy, bltop, Bool.not_true, Bool.not_false, item_0, item_1, item_2, item_3, item_c0, item_c1, Option.bind_some, List.getElem?_cons_zero, List.getElem?_cons_succ, if_true, if_false, Bool.false_eq_true, and_self, dat_int, dat_bl, dat_non, peq_int, peq_bl, peq_nonnon, Int.cast_ofNat_Int, Int.reduceEq, Bool.and_self, List.length_cons, List.length_nil, Int.reduceLT, Int.reduceLE, Int.reduceAdd, Int.reduceSub, Nat.reduceLT, Nat.reduceLeDiff, decide_true, decide_false, Bool.or_true, Bool.true_or, true_and, and_true, b_fits_script, e1, pis, e2, e3, e6]
  refine call_ok rfl rfl ?_
  simp -implicitDefEqProofs only [e_con, e_var, e_bor, e_bin, k_bin, k_bin2, e_cmp, k_cmp, k_cmp2, e_neg, k_neg, e_nt, k_nt, k_truth, k_optB, e_and, k_and, k_andT, k_andF, e_or, k_or, k_orT, k_orF, e_ite, k_iteT, k_iteF, e_chain, k_ch, k_ch2, k_ch3T, k_ch3F, e_tup, k_tup, e_lst, k_lst, e_ix, k_ix, k_ix2, e_sl, k_sl, k_sl2, k_sl3, e_call, k_call, e_blt, k_blt, e_mth, k_mth, k_mth2, e_isin, k_is, e_pick, k_pick, k_pick2, es_nil, es_cons, k_es, k_es2, o_none, o_some, k_o, c_none, c_some, i_seq, k_seqT, k_seqL, i_r1, k_r1, i_r2, k_r2, k_r3, i_zip, k_zip, k_zipT, k_zipL, i_enum, k_enum, s_asg, k_asg, s_own, k_own2, k_slotL, k_slotD, k_slotV, s_par, k_par, k_par2, s_frz, s_app, k_app, k_app2, s_ife, k_ifeT, k_ifeF, s_whl, k_w, k_wT, k_wF, k_wN, k_wR, s_ret, k_ret, s_exp, k_exp, s_setC, k_setC, k_cup0, k_cup1, s_ap, k_ap, k_ap2, k_ap3, s_rc, k_rc, ss_nil, ss_cons, k_ssN, k_ssR, finR_rt, finR_nx, pureR_some, varv_0, varv_s, borv_0, borv_0o, borv_s, truth, startP, List.map_cons, List.map_nil, List.replicate_succ, List.replicate_zero, List.cons_append, List.nil_append, Nat.reduceSub, Nat.reduceAdd, bindT, bindTs, optS_some, List.set_cons_succ, List.set_cons_zero, wipeP, mkTup_0, mkTup_1, mkTup_2, mkTup_3, mkTup_4, mkTup_5, mkTup_6, mkTup_7, mkTup_8, mkLst_0, mkLst_1, mkLst_2, mkLst_3, mkLst_4, mkLst_5, mkLst_6, mkLst_7, mkLst_8, mkLst_9, mkLst_10, mkLst_11, mkLst_12, mkLst_13, mkLst_14, mkLst_15, mkLst_16, binop, cmpop, blV, Option.map_some, isTy, bltop, Bool.not_true, Bool.not_false, item_0, item_1, item_2, item_3, item_c0, item_c1, Option.bind_some, List.getElem?_cons_zero, List.getElem?_cons_succ, if_true, if_false, Bool.false_eq_true, and_self, dat_int, dat_bl, dat_non, peq_int, peq_bl, peq_nonnon, Int.cast_ofNat_Int, Int.reduceEq, Bool.and_self, List.length_cons, List.length_nil, Int.reduceLT, Int.reduceLE, Int.reduceAdd, Int.reduceSub, Nat.reduceLT, Nat.reduceLeDiff, decide_true, decide_false, Bool.or_true, Bool.true_or, true_and, and_true, b_need_script, e4]
theorem g_need_three (hc : Com named n ps) (h : SOk named its) (k : Nat) (c : List PV) : callK P (k + 8) n_need_three [.int named, cmpV n ps, scV its] c = .ok .non c := by
  refine call_ok rfl rfl ?_
  have e1 := f_need_named (k + 5) named c hc.a hc.b
  have e2 := f_need_company hc (k + 2) c
  have e3 := g_need_script h k c
  simp -implicitDefEqProofs only [e_con, e_var, e_bor, e_bin, k_bin, k_bin2, e_cmp, k_cmp, k_cmp2, e_neg, k_neg, e_nt, k_nt, k_truth, k_optB, e_and, k_and, k_andT, k_andF, e_or, k_or, k_orT, k_orF, e_ite, k_iteT, k_iteF, e_chain, k_ch, k_ch2, k_ch3T, k_ch3F, e_tup, k_tup, e_lst, k_lst, e_ix, k_ix, k_ix2, e_sl, k_sl, k_sl2, k_sl3, e_call, k_call, e_blt, k_blt, e_mth, k_mth, k_mth2, e_isin, k_is, e_pick, k_pick, k_pick2, es_nil, es_cons, k_es, k_es2, o_none, o_some, k_o, c_none, c_some, i_seq, k_seqT, k_seqL, i_r1, k_r1, i_r2, k_r2, k_r3, i_zip, k_zip, k_zipT, k_zipL, i_enum, k_enum, s_asg, k_asg, s_own, k_own2, k_slotL, k_slotD, k_slotV, s_par, k_par, k_par2, s_frz, s_app, k_app, k_app2, s_ife, k_ifeT, k_ifeF, s_whl, k_w, k_wT, k_wF, k_wN, k_wR, s_ret, k_ret, s_exp, k_exp, s_setC, k_setC, k_cup0, k_cup1, s_ap, k_ap, k_ap2, k_ap3, s_rc, k_rc, ss_nil, ss_cons, k_ssN, k_ssR, finR_rt, finR_nx, pureR_some, varv_0, varv_s, borv_0, borv_0o, borv_s, truth, startP, List.map_cons, List.map_nil, List.replicate_succ, List.replicate_zero, List.cons_append, List.nil_append, Nat.reduceSub, Nat.reduceAdd, bindT, bindTs, optS_some, List.set_cons_succ, List.set_cons_zero, wipeP, mkTup_0, mkTup_1, mkTup_2, mkTup_3, mkTup_4, mkTup_5, mkTup_6, mkTup_7, mkTup_8, mkLst_0, mkLst_1, mkLst_2, mkLst_3, mkLst_4, mkLst_5, mkLst_6, mkLst_7, mkLst_8, mkLst_9, mkLst_10, mkLst_11, mkLst_12, mkLst_13, mkLst_14, mkLst_15, mkLst_16, binop, cmpop, blV, Option.map_some, isTy, bltop, Bool.not_true, Bool.not_false, item_0, item_1, item_2, item_3, item_c0, item_c1, Option.bind_some, List.getElem?_cons_zero, List.getElem?_cons_succ, if_true, if_false, Bool.false_eq_true, and_self, dat_int, dat_bl, dat_non, peq_int, peq_bl, peq_nonnon, Int.cast_ofNat_Int, Int.reduceEq, Bool.and_self, List.length_cons, List.length_nil, Int.reduceLT, Int.reduceLE, Int.reduceAdd, Int.reduceSub, Nat.reduceLT, Nat.reduceLeDiff, decide_true, decide_false, Bool.or_true, Bool.true_or, true_and, and_true, b_need_three, e1, e2, e3]
theorem g_run_by (hc : Com named n ps) (h : ∀ i ∈ its, IOk named 4 i) (hf : cntL 4 its ≤ 1000) (k : Nat) (c : List PV) :
    callK P (k + 4) n_run_by [cmpV n ps, scV its] c = .ok (.tup [cmpV n (runI n 4 its ps).1, .lst ((runI n 4 its ps).2.map deedV)]) c := by
  have hw : WB = 999980 := rfl
  obtain ⟨j, hj, hx⟩ := run_all k (scV its) named n c 4 its h ps hc (by decide)
  obtain ⟨s4', e⟩ := hx [] [] (WB + 20 - j) .no rfl (by simp; omega) (by simp; omega)
  rw [show WB + 20 - j + j = (WB + 20) by omega, List.append_nil, List.nil_append, show WB + 20 - j = (WB + 19 - j) + 1 by omega] at e
  have e3 : kW (callK P (k + 3)) (.cmp .ne (.var 3) (.lst [])) b_run_by_l0 ((WB + 19 - j) + 1) [.val (cmpV n (runI n 4 its ps).1), .val (scV its), .val (.lst ((runI n 4 its ps).2.map deedV)), .val (.lst []), s4'] c = .nx [.val (cmpV n (runI n 4 its ps).1), .val (scV its), .val (.lst ((runI n 4 its ps).2.map deedV)), .val (.lst []), s4'] c := by
    simp -implicitDefEqProofs only [e_con, e_var, e_bor, e_bin, k_bin, k_bin2, e_cmp, k_cmp, k_cmp2, e_neg, k_neg, e_nt, k_nt, k_truth, k_optB, e_and, k_and, k_andT, k_andF, e_or, k_or, k_orT, k_orF, e_ite, k_iteT, k_iteF, e_chain, k_ch, k_ch2, k_ch3T, k_ch3F, e_tup, k_tup, e_lst, k_lst, e_ix, k_ix, k_ix2, e_sl, k_sl, k_sl2, k_sl3, e_call, k_call, e_blt, k_blt, e_mth, k_mth, k_mth2, e_isin, k_is, e_pick, k_pick, k_pick2, es_nil, es_cons, k_es, k_es2, o_none, o_some, k_o, c_none, c_some, i_seq, k_seqT, k_seqL, i_r1, k_r1, i_r2, k_r2, k_r3, i_zip, k_zip, k_zipT, k_zipL, i_enum, k_enum, s_asg, k_asg, s_own, k_own2, k_slotL, k_slotD, k_slotV, s_par, k_par, k_par2, s_frz, s_app, k_app, k_app2, s_ife, k_ifeT, k_ifeF, s_whl, k_w, k_wT, k_wF, k_wN, k_wR, s_ret, k_ret, s_exp, k_exp, s_setC, k_setC, k_cup0, k_cup1, s_ap, k_ap, k_ap2, k_ap3, s_rc, k_rc, ss_nil, ss_cons, k_ssN, k_ssR, finR_rt, finR_nx, pureR_some, varv_0, varv_s, borv_0, borv_0o, borv_s, truth, startP, List.map_cons, List.map_nil, List.replicate_succ, List.replicate_zero, List.cons_append, List.nil_append, Nat.reduceSub, Nat.reduceAdd, bindT, bindTs, optS_some, List.set_cons_succ, List.set_cons_zero, wipeP, mkTup_0, mkTup_1, mkTup_2, mkTup_3, mkTup_4, mkTup_5, mkTup_6, mkTup_7, mkTup_8, mkLst_0, mkLst_1, mkLst_2, mkLst_3, mkLst_4, mkLst_5, mkLst_6, mkLst_7, mkLst_8, mkLst_9, mkLst_10, mkLst_11, mkLst_12, mkLst_13, mkLst_14, mkLst_15, mkLst_16, binop, cmpop, blV, Option.map_some, isTy, bltop, Bool.not_true, Bool.not_false, item_0, item_1, item_2, item_3, item_c0, item_c1, Option.bind_some, List.getElem?_cons_zero, List.getElem?_cons_succ, if_true, if_false, Bool.false_eq_true, and_self, dat_int, dat_bl, dat_non, peq_int, peq_bl, peq_nonnon, Int.cast_ofNat_Int, Int.reduceEq, Bool.and_self, List.length_cons, List.length_nil, Int.reduceLT, Int.reduceLE, Int.reduceAdd, Int.reduceSub, Nat.reduceLT, Nat.reduceLeDiff, decide_true, decide_false, Bool.or_true, Bool.true_or, true_and, and_true, dat_nil, peq_nil_nil]
  rw [e3] at e
  have e2 : execS (callK P (k + 3)) b_run_by_w0 [.val (cmpV n ps), .val (scV its), .val (.lst []), .val (.lst (its.map itV)), .no] c = .nx [.val (cmpV n (runI n 4 its ps).1), .val (scV its), .val (.lst ((runI n 4 its ps).2.map deedV)), .val (.lst []), s4'] c := s_whl.trans e
  have e4 : bltop .list [scV its] = some (.lst (its.map itV)) := rfl
  refine call_ok rfl rfl ?_
  unfold b_run_by
  generalize hC : (Sm.ret (FN := Nat) (Ex.tup [.var 0, .var 2])) = st
  unfold scV at e2 ⊢
  simp -implicitDefEqProofs only [e_con, e_var, e_bor, e_bin, k_bin, k_bin2, e_cmp, k_cmp, k_cmp2, e_neg, k_neg, e_nt, k_nt, k_truth, k_optB, e_and, k_and, k_andT, k_andF, e_or, k_or, k_orT, k_orF, e_ite, k_iteT, k_iteF, e_chain, k_ch, k_ch2, k_ch3T, k_ch3F, e_tup, k_tup, e_lst, k_lst, e_ix, k_ix, k_ix2, e_sl, k_sl, k_sl2, k_sl3, e_call, k_call, e_blt, k_blt, e_mth, k_mth, k_mth2, e_isin, k_is, e_pick, k_pick, k_pick2, es_nil, es_cons, k_es, k_es2, o_none, o_some, k_o, c_none, c_some, i_seq, k_seqT, k_seqL, i_r1, k_r1, i_r2, k_r2, k_r3, i_zip, k_zip, k_zipT, k_zipL, i_enum, k_enum, s_asg, k_asg, s_own, k_own2, k_slotL, k_slotD, k_slotV, s_par, k_par, k_par2, s_frz, s_app, k_app, k_app2, s_ife, k_ifeT, k_ifeF, s_whl, k_w, k_wT, k_wF, k_wN, k_wR, s_ret, k_ret, s_exp, k_exp, s_setC, k_setC, k_cup0, k_cup1, s_ap, k_ap, k_ap2, k_ap3, s_rc, k_rc, ss_nil, ss_cons, k_ssN, k_ssR, finR_rt, finR_nx, pureR_some, varv_0, varv_s, borv_0, borv_0o, borv_s, truth, startP, List.map_cons, List.map_nil, List.replicate_succ, List.replicate_zero, List.cons_append, List.nil_append, Nat.reduceSub, Nat.reduceAdd, bindT, bindTs, optS_some, List.set_cons_succ, List.set_cons_zero, wipeP, mkTup_0, mkTup_1, mkTup_2, mkTup_3, mkTup_4, mkTup_5, mkTup_6, mkTup_7, mkTup_8, mkLst_0, mkLst_1, mkLst_2, mkLst_3, mkLst_4, mkLst_5, mkLst_6, mkLst_7, mkLst_8, mkLst_9, mkLst_10, mkLst_11, mkLst_12, mkLst_13, mkLst_14, mkLst_15, mkLst_16, binop, cmpop, blV, Option.map_some, isTy, bltop, Bool.not_true, Bool.not_false, item_0, item_1, item_2, item_3, item_c0, item_c1, Option.bind_some, List.getElem?_cons_zero, List.getElem?_cons_succ, if_true, if_false, Bool.false_eq_true, and_self, dat_int, dat_bl, dat_non, peq_int, peq_bl, peq_nonnon, Int.cast_ofNat_Int, Int.reduceEq, Bool.and_self, List.length_cons, List.length_nil, Int.reduceLT, Int.reduceLE, Int.reduceAdd, Int.reduceSub, Nat.reduceLT, Nat.reduceLeDiff, decide_true, decide_false, Bool.or_true, Bool.true_or, true_and, and_true, e2, ← hC]
theorem g_done (hc : Com named n ps) (h : SOk named its) (k : Nat) (c : List PV) : callK P (k + 9) n_done [.int named, cmpV n ps, scV its] c = .ok (cmpV n (runI n 4 its ps).1) c := by
  refine call_ok rfl rfl ?_
  have e1 := g_need_three hc h k c
  have e2 := g_run_by hc h.ok (by have := h.few; omega) (k + 4) c
  simp -implicitDefEqProofs only [e_con, e_var, e_bor, e_bin, k_bin, k_bin2, e_cmp, k_cmp, k_cmp2, e_neg, k_neg, e_nt, k_nt, k_truth, k_optB, e_and, k_and, k_andT, k_andF, e_or, k_or, k_orT, k_orF, e_ite, k_iteT, k_iteF, e_chain, k_ch, k_ch2, k_ch3T, k_ch3F, e_tup, k_tup, e_lst, k_lst, e_ix, k_ix, k_ix2, e_sl, k_sl, k_sl2, k_sl3, e_call, k_call, e_blt, k_blt, e_mth, k_mth, k_mth2, e_isin, k_is, e_pick, k_pick, k_pick2, es_nil, es_cons, k_es, k_es2, o_none, o_some, k_o, c_none, c_some, i_seq, k_seqT, k_seqL, i_r1, k_r1, i_r2, k_r2, k_r3, i_zip, k_zip, k_zipT, k_zipL, i_enum, k_enum, s_asg, k_asg, s_own, k_own2, k_slotL, k_slotD, k_slotV, s_par, k_par, k_par2, s_frz, s_app, k_app, k_app2, s_ife, k_ifeT, k_ifeF, s_whl, k_w, k_wT, k_wF, k_wN, k_wR, s_ret, k_ret, s_exp, k_exp, s_setC, k_setC, k_cup0, k_cup1, s_ap, k_ap, k_ap2, k_ap3, s_rc, k_rc, ss_nil, ss_cons, k_ssN, k_ssR, finR_rt, finR_nx, pureR_some, varv_0, varv_s, borv_0, borv_0o, borv_s, truth, startP, List.map_cons, List.map_nil, List.replicate_succ, List.replicate_zero, List.cons_append, List.nil_append, Nat.reduceSub, Nat.reduceAdd, bindT, bindTs, optS_some, List.set_cons_succ, List.set_cons_zero, wipeP, mkTup_0, mkTup_1, mkTup_2, mkTup_3, mkTup_4, mkTup_5, mkTup_6, mkTup_7, mkTup_8, mkLst_0, mkLst_1, mkLst_2, mkLst_3, mkLst_4, mkLst_5, mkLst_6, mkLst_7, mkLst_8, mkLst_9, mkLst_10, mkLst_11, mkLst_12, mkLst_13, mkLst_14, mkLst_15, mkLst_16, binop, cmpop, blV, Option.map_some, isTy, bltop, Bool.not_true, Bool.not_false, item_0, item_1, item_2, item_3, item_c0, item_c1, Option.bind_some, List.getElem?_cons_zero, List.getElem?_cons_succ, if_true, if_false, Bool.false_eq_true, and_self, dat_int, dat_bl, dat_non, peq_int, peq_bl, peq_nonnon, Int.cast_ofNat_Int, Int.reduceEq, Bool.and_self, List.length_cons, List.length_nil, Int.reduceLT, Int.reduceLE, Int.reduceAdd, Int.reduceSub, Nat.reduceLT, Nat.reduceLeDiff, decide_true, decide_false, Bool.or_true, Bool.true_or, true_and, and_true, b_done, e1, e2]
theorem g_deeds_done (hc : Com named n ps) (h : SOk named its) (k : Nat) (c : List PV) : callK P (k + 9) n_deeds_done [.int named, cmpV n ps, scV its] c = .ok (.lst ((runI n 4 its ps).2.map deedV)) c := by
  refine call_ok rfl rfl ?_
  have e1 := f_need_named (k + 6) named c hc.a hc.b
  have e2 := f_need_company hc (k + 3) c
  have e3 := g_need_script h (k + 1) c
  have e4 := g_run_by hc h.ok (by have := h.few; omega) (k + 4) c
  simp -implicitDefEqProofs only [e_con, e_var, e_bor, e_bin, k_bin, k_bin2, e_cmp, k_cmp, k_cmp2, e_neg, k_neg, e_nt, k_nt, k_truth, k_optB, e_and, k_and, k_andT, k_andF, e_or, k_or, k_orT, k_orF, e_ite, k_iteT, k_iteF, e_chain, k_ch, k_ch2, k_ch3T, k_ch3F, e_tup, k_tup, e_lst, k_lst, e_ix, k_ix, k_ix2, e_sl, k_sl, k_sl2, k_sl3, e_call, k_call, e_blt, k_blt, e_mth, k_mth, k_mth2, e_isin, k_is, e_pick, k_pick, k_pick2, es_nil, es_cons, k_es, k_es2, o_none, o_some, k_o, c_none, c_some, i_seq, k_seqT, k_seqL, i_r1, k_r1, i_r2, k_r2, k_r3, i_zip, k_zip, k_zipT, k_zipL, i_enum, k_enum, s_asg, k_asg, s_own, k_own2, k_slotL, k_slotD, k_slotV, s_par, k_par, k_par2, s_frz, s_app, k_app, k_app2, s_ife, k_ifeT, k_ifeF, s_whl, k_w, k_wT, k_wF, k_wN, k_wR, s_ret, k_ret, s_exp, k_exp, s_setC, k_setC, k_cup0, k_cup1, s_ap, k_ap, k_ap2, k_ap3, s_rc, k_rc, ss_nil, ss_cons, k_ssN, k_ssR, finR_rt, finR_nx, pureR_some, varv_0, varv_s, borv_0, borv_0o, borv_s, truth, startP, List.map_cons, List.map_nil, List.replicate_succ, List.replicate_zero, List.cons_append, List.nil_append, Nat.reduceSub, Nat.reduceAdd, bindT, bindTs, optS_some, List.set_cons_succ, List.set_cons_zero, wipeP, mkTup_0, mkTup_1, mkTup_2, mkTup_3, mkTup_4, mkTup_5, mkTup_6, mkTup_7, mkTup_8, mkLst_0, mkLst_1, mkLst_2, mkLst_3, mkLst_4, mkLst_5, mkLst_6, mkLst_7, mkLst_8, mkLst_9, mkLst_10, mkLst_11, mkLst_12, mkLst_13, mkLst_14, mkLst_15, mkLst_16, binop, cmpop, blV, Option.map_some, isTy, bltop, Bool.not_true, Bool.not_false, item_0, item_1, item_2, item_3, item_c0, item_c1, Option.bind_some, List.getElem?_cons_zero, List.getElem?_cons_succ, if_true, if_false, Bool.false_eq_true, and_self, dat_int, dat_bl, dat_non, peq_int, peq_bl, peq_nonnon, Int.cast_ofNat_Int, Int.reduceEq, Bool.and_self, List.length_cons, List.length_nil, Int.reduceLT, Int.reduceLE, Int.reduceAdd, Int.reduceSub, Nat.reduceLT, Nat.reduceLeDiff, decide_true, decide_false, Bool.or_true, Bool.true_or, true_and, and_true, b_deeds_done, e1, e2, e3, e4]
end
end K09

set_option Elab.async false
set_option linter.all false
set_option maxRecDepth 100000
/-! K09F: the law's own ways through scripts. -/
namespace K09
open PySem PP
theorem runL_snoc (f : List (Int × Int) → It → List (Int × Int) × List Dd) (x : It) : ∀ (pre : List It) (ps : List (Int × Int)), runL f (pre ++ [x]) ps = ((f (runL f pre ps).1 x).1, (runL f pre ps).2 ++ (f (runL f pre ps).1 x).2)
  | [], ps => by
    show ((runL f [] (f ps x).1).1, (f ps x).2 ++ (runL f [] (f ps x).1).2) = _
    simp [runL]
  | it :: r, ps => by
    show ((runL f (r ++ [x]) (f ps it).1).1, (f ps it).2 ++ (runL f (r ++ [x]) (f ps it).1).2) = _
    rw [runL_snoc f x r]
    simp [runL]
theorem runI_one (n dp : Nat) (x : It) (ps : List (Int × Int)) : runI n dp [x] ps = stepI n dp ps x := by
  show ((runL (stepI n dp) [] (stepI n dp ps x).1).1, (stepI n dp ps x).2 ++ (runL (stepI n dp) [] (stepI n dp ps x).1).2) = _
  simp [runL]
theorem item_last {xs : List PV} {x : PV} {c : List PV} : item (.lst (xs ++ [x])) (.int (-1)) c = some x := by
  unfold item
  simp only
  have : ixP (xs ++ [x]).length (-1) = some xs.length := by
    unfold ixP
    rw [if_neg (by decide), if_pos (by rw [List.length_append, List.length_singleton]; omega), List.length_append, List.length_singleton]
    congr 1
    omega
  rw [this, Option.bind_some]
  simp
section
variable {named n : Nat} {its : List It} {ps : List (Int × Int)}
/-- the companies that come, item by item -/
def lineP (n : Nat) : List It → List (Int × Int) → List (List (Int × Int))
  | [], ps => [ps]
  | x :: r, ps => ps :: lineP n r (stepI n 4 ps x).1
theorem lineP_last (n : Nat) : ∀ (its : List It) (ps : List (Int × Int)), ∃ front, lineP n its ps = front ++ [(runI n 4 its ps).1] ∧ front.length = its.length
  | [], ps => ⟨[], rfl, rfl⟩
  | x :: r, ps => by
    obtain ⟨f, e, hl⟩ := lineP_last n r (stepI n 4 ps x).1
    refine ⟨ps :: f, ?_, by rw [List.length_cons, List.length_cons, hl]⟩
    show ps :: lineP n r (stepI n 4 ps x).1 = _
    rw [e]; rfl
theorem lineP_snoc (n : Nat) (x : It) : ∀ (pre : List It) (ps : List (Int × Int)), lineP n (pre ++ [x]) ps = lineP n pre ps ++ [(runI n 4 (pre ++ [x]) ps).1]
  | [], ps => by
    show [ps, (stepI n 4 ps x).1] = [ps] ++ [(runI n 4 [x] ps).1]
    rw [runI_one]; rfl
  | y :: r, ps => by
    show ps :: lineP n (r ++ [x]) (stepI n 4 ps y).1 = (ps :: lineP n r (stepI n 4 ps y).1) ++ _
    rw [lineP_snoc n x r]; rfl
theorem cntL_mem {dp : Nat} : ∀ {its : List It} {x : It}, x ∈ its → cnt dp x ≤ cntL dp its
  | [], _, h => nomatch h
  | y :: r, x, h => by
    rw [cntL_cons]
    rcases List.mem_cons.mp h with rfl | h
    · omega
    · have := cntL_mem (dp := dp) h; omega
theorem scV_one (x : It) : scV [x] = .tup [itV x] := rfl
theorem runI_snoc (n dp : Nat) (pre : List It) (x : It) (ps : List (Int × Int)) : runI n dp (pre ++ [x]) ps = ((stepI n dp (runI n dp pre ps).1 x).1, (runI n dp pre ps).2 ++ (stepI n dp (runI n dp pre ps).1 x).2) := runL_snoc _ x pre ps
theorem g_run_on (hc : Com named n ps) (h : SOk named its) (k : Nat) (c : List PV) : callK P (k + 5) n_run_on [cmpV n ps, scV its] c = .ok (.lst ((lineP n its ps).map (cmpV n))) c := by
  have hil := cntL_len (dp := 4) its
  have hfew := h.few
  obtain ⟨env', c', e, rfl, s3, rfl⟩ := fr_pre (C := callK P (k + 4)) (t := .name 3) (b := b_run_on_l0) (it := .seq (.var 1)) (φ := itV) (as := its) (c0 := c) (c := c)
    (I := fun pre env c' => c' = c ∧ ∃ s3, env = [.val (cmpV n ps), .val (scV its), .val (.lst ((lineP n pre ps).map (cmpV n))), s3])
    (env := [.val (cmpV n ps), .val (scV its), .val (.lst [cmpV n ps]), .no]) ⟨rfl, .no, rfl⟩ (by
      unfold scV
      simp -implicitDefEqProofs only [e_con, e_var, e_bor, e_bin, k_bin, k_bin2, e_cmp, k_cmp, k_cmp2, e_neg, k_neg, e_nt, k_nt, k_truth, k_optB, e_and, k_and, k_andT, k_andF, e_or, k_or, k_orT, k_orF, e_ite, k_iteT, k_iteF, e_chain, k_ch, k_ch2, k_ch3T, k_ch3F, e_tup, k_tup, e_lst, k_lst, e_ix, k_ix, k_ix2, e_sl, k_sl, k_sl2, k_sl3, e_call, k_call, e_blt, k_blt, e_mth, k_mth, k_mth2, e_isin, k_is, e_pick, k_pick, k_pick2, es_nil, es_cons, k_es, k_es2, o_none, o_some, k_o, c_none, c_some, i_seq, k_seqT, k_seqL, i_r1, k_r1, i_r2, k_r2, k_r3, i_zip, k_zip, k_zipT, k_zipL, i_enum, k_enum, s_asg, k_asg, s_own, k_own2, k_slotL, k_slotD, k_slotV, s_par, k_par, k_par2, s_frz, s_app, k_app, k_app2, s_ife, k_ifeT, k_ifeF, s_whl, k_w, k_wT, k_wF, k_wN, k_wR, s_ret, k_ret, s_exp, k_exp, s_setC, k_setC, k_cup0, k_cup1, s_ap, k_ap, k_ap2, k_ap3, s_rc, k_rc, ss_nil, ss_cons, k_ssN, k_ssR, finR_rt, finR_nx, pureR_some, varv_0, varv_s, borv_0, borv_0o, borv_s, truth, startP, List.map_cons, List.map_nil, List.replicate_succ, List.replicate_zero, List.cons_append, List.nil_append, Nat.reduceSub, Nat.reduceAdd, bindT, bindTs, optS_some, List.set_cons_succ, List.set_cons_zero, wipeP, mkTup_0, mkTup_1, mkTup_2, mkTup_3, mkTup_4, mkTup_5, mkTup_6, mkTup_7, mkTup_8, mkLst_0, mkLst_1, mkLst_2, mkLst_3, mkLst_4, mkLst_5, mkLst_6, mkLst_7, mkLst_8, mkLst_9, mkLst_10, mkLst_11, mkLst_12, mkLst_13, mkLst_14, mkLst_15, mkLst_16, binop, cmpop, blV, Option.map_some, isTy, bltop, Bool.not_true, Bool.not_false, item_0, item_1, item_2, item_3, item_c0, item_c1, Option.bind_some, List.getElem?_cons_zero, List.getElem?_cons_succ, if_true, if_false, Bool.false_eq_true, and_self, dat_int, dat_bl, dat_non, peq_int, peq_bl, peq_nonnon, Int.cast_ofNat_Int, Int.reduceEq, Bool.and_self, List.length_cons, List.length_nil, Int.reduceLT, Int.reduceLE, Int.reduceAdd, Int.reduceSub, Nat.reduceLT, Nat.reduceLeDiff, decide_true, decide_false, Bool.or_true, Bool.true_or, true_and, and_true]) fun pre x post hp env c' ⟨hc', s3, he⟩ => by
    subst hc' he
    have hx : x ∈ its := by rw [hp]; exact List.mem_append.mpr (.inr (List.mem_cons_self ..))
    have hl : pre.length + 1 ≤ its.length := by rw [hp, List.length_append, List.length_cons]; omega
    obtain ⟨front, ef, hfl⟩ := lineP_last n pre ps
    have hcom := runI_com (n := n) (dp := 4) pre hc
    have e1 := g_run_by (n := n) hcom (its := [x]) (fun i hi => by rw [List.mem_singleton] at hi; rw [hi]; exact h.ok x hx) (by
      have := cntL_mem (dp := 4) hx
      rw [cntL_cons, show cntL 4 [] = 0 from rfl]; omega) k c'
    rw [runI_one, scV_one] at e1
    refine ⟨_, rfl, [.val (cmpV n ps), .val (scV its), .val (.lst ((lineP n (pre ++ [x]) ps).map (cmpV n))), .val (itV x)], c', ?_, rfl, _, rfl⟩
    simp only [List.set_cons_succ, List.set_cons_zero]
    rw [lineP_snoc, runI_snoc, ef, List.map_append, List.map_append, List.map_cons, List.map_nil, List.map_cons, List.map_nil]
    have e3 := mkLst_s (xs := front.map (cmpV n) ++ [cmpV n (runI n 4 pre ps).1] ++ [cmpV n (stepI n 4 (runI n 4 pre ps).1 x).1]) (by simp only [List.length_append, List.length_map, List.length_cons, List.length_nil]; unfold LIM; omega)
    simp -implicitDefEqProofs only [e_con, e_var, e_bor, e_bin, k_bin, k_bin2, e_cmp, k_cmp, k_cmp2, e_neg, k_neg, e_nt, k_nt, k_truth, k_optB, e_and, k_and, k_andT, k_andF, e_or, k_or, k_orT, k_orF, e_ite, k_iteT, k_iteF, e_chain, k_ch, k_ch2, k_ch3T, k_ch3F, e_tup, k_tup, e_lst, k_lst, e_ix, k_ix, k_ix2, e_sl, k_sl, k_sl2, k_sl3, e_call, k_call, e_blt, k_blt, e_mth, k_mth, k_mth2, e_isin, k_is, e_pick, k_pick, k_pick2, es_nil, es_cons, k_es, k_es2, o_none, o_some, k_o, c_none, c_some, i_seq, k_seqT, k_seqL, i_r1, k_r1, i_r2, k_r2, k_r3, i_zip, k_zip, k_zipT, k_zipL, i_enum, k_enum, s_asg, k_asg, s_own, k_own2, k_slotL, k_slotD, k_slotV, s_par, k_par, k_par2, s_frz, s_app, k_app, k_app2, s_ife, k_ifeT, k_ifeF, s_whl, k_w, k_wT, k_wF, k_wN, k_wR, s_ret, k_ret, s_exp, k_exp, s_setC, k_setC, k_cup0, k_cup1, s_ap, k_ap, k_ap2, k_ap3, s_rc, k_rc, ss_nil, ss_cons, k_ssN, k_ssR, finR_rt, finR_nx, pureR_some, varv_0, varv_s, borv_0, borv_0o, borv_s, truth, startP, List.map_cons, List.map_nil, List.replicate_succ, List.replicate_zero, List.cons_append, List.nil_append, Nat.reduceSub, Nat.reduceAdd, bindT, bindTs, optS_some, List.set_cons_succ, List.set_cons_zero, wipeP, mkTup_0, mkTup_1, mkTup_2, mkTup_3, mkTup_4, mkTup_5, mkTup_6, mkTup_7, mkTup_8, mkLst_0, mkLst_1, mkLst_2, mkLst_3, mkLst_4, mkLst_5, mkLst_6, mkLst_7, mkLst_8, mkLst_9, mkLst_10, mkLst_11, mkLst_12, mkLst_13, mkLst_14, mkLst_15, mkLst_16, binop, cmpop, blV, Option.map_some, isTy, bltop, Bool.not_true, Bool.not_false, item_0, item_1, item_2, item_3, item_c0, item_c1, Option.bind_some, List.getElem?_cons_zero, List.getElem?_cons_succ, if_true, if_false, Bool.false_eq_true, and_self, dat_int, dat_bl, dat_non, peq_int, peq_bl, peq_nonnon, Int.cast_ofNat_Int, Int.reduceEq, Bool.and_self, List.length_cons, List.length_nil, Int.reduceLT, Int.reduceLE, Int.reduceAdd, Int.reduceSub, Nat.reduceLT, Nat.reduceLeDiff, decide_true, decide_false, Bool.or_true, Bool.true_or, true_and, and_true, b_run_on_l0, item_last, e1, e3, List.map_append]
  refine call_ok rfl rfl ?_
  have e2 : execS (callK P (k + 4)) b_run_on_f0 [.val (cmpV n ps), .val (scV its), .val (.lst [cmpV n ps]), .no] c' = .nx [.val (cmpV n ps), .val (scV its), .val (.lst ((lineP n its ps).map (cmpV n))), s3] c' := e
  simp -implicitDefEqProofs only [e_con, e_var, e_bor, e_bin, k_bin, k_bin2, e_cmp, k_cmp, k_cmp2, e_neg, k_neg, e_nt, k_nt, k_truth, k_optB, e_and, k_and, k_andT, k_andF, e_or, k_or, k_orT, k_orF, e_ite, k_iteT, k_iteF, e_chain, k_ch, k_ch2, k_ch3T, k_ch3F, e_tup, k_tup, e_lst, k_lst, e_ix, k_ix, k_ix2, e_sl, k_sl, k_sl2, k_sl3, e_call, k_call, e_blt, k_blt, e_mth, k_mth, k_mth2, e_isin, k_is, e_pick, k_pick, k_pick2, es_nil, es_cons, k_es, k_es2, o_none, o_some, k_o, c_none, c_some, i_seq, k_seqT, k_seqL, i_r1, k_r1, i_r2, k_r2, k_r3, i_zip, k_zip, k_zipT, k_zipL, i_enum, k_enum, s_asg, k_asg, s_own, k_own2, k_slotL, k_slotD, k_slotV, s_par, k_par, k_par2, s_frz, s_app, k_app, k_app2, s_ife, k_ifeT, k_ifeF, s_whl, k_w, k_wT, k_wF, k_wN, k_wR, s_ret, k_ret, s_exp, k_exp, s_setC, k_setC, k_cup0, k_cup1, s_ap, k_ap, k_ap2, k_ap3, s_rc, k_rc, ss_nil, ss_cons, k_ssN, k_ssR, finR_rt, finR_nx, pureR_some, varv_0, varv_s, borv_0, borv_0o, borv_s, truth, startP, List.map_cons, List.map_nil, List.replicate_succ, List.replicate_zero, List.cons_append, List.nil_append, Nat.reduceSub, Nat.reduceAdd, bindT, bindTs, optS_some, List.set_cons_succ, List.set_cons_zero, wipeP, mkTup_0, mkTup_1, mkTup_2, mkTup_3, mkTup_4, mkTup_5, mkTup_6, mkTup_7, mkTup_8, mkLst_0, mkLst_1, mkLst_2, mkLst_3, mkLst_4, mkLst_5, mkLst_6, mkLst_7, mkLst_8, mkLst_9, mkLst_10, mkLst_11, mkLst_12, mkLst_13, mkLst_14, mkLst_15, mkLst_16, binop, cmpop, blV, Option.map_some, isTy, bltop, Bool.not_true, Bool.not_false, item_0, item_1, item_2, item_3, item_c0, item_c1, Option.bind_some, List.getElem?_cons_zero, List.getElem?_cons_succ, if_true, if_false, Bool.false_eq_true, and_self, dat_int, dat_bl, dat_non, peq_int, peq_bl, peq_nonnon, Int.cast_ofNat_Int, Int.reduceEq, Bool.and_self, List.length_cons, List.length_nil, Int.reduceLT, Int.reduceLE, Int.reduceAdd, Int.reduceSub, Nat.reduceLT, Nat.reduceLeDiff, decide_true, decide_false, Bool.or_true, Bool.true_or, true_and, and_true, b_run_on, e2]
theorem g_done_on (hc : Com named n ps) (h : SOk named its) (k : Nat) (c : List PV) : callK P (k + 9) n_done_on [.int named, cmpV n ps, scV its] c = .ok (.lst ((lineP n its ps).map (cmpV n))) c := by
  refine call_ok rfl rfl ?_
  have e1 := g_need_three hc h k c
  have e2 := g_run_on hc h (k + 3) c
  simp -implicitDefEqProofs only [e_con, e_var, e_bor, e_bin, k_bin, k_bin2, e_cmp, k_cmp, k_cmp2, e_neg, k_neg, e_nt, k_nt, k_truth, k_optB, e_and, k_and, k_andT, k_andF, e_or, k_or, k_orT, k_orF, e_ite, k_iteT, k_iteF, e_chain, k_ch, k_ch2, k_ch3T, k_ch3F, e_tup, k_tup, e_lst, k_lst, e_ix, k_ix, k_ix2, e_sl, k_sl, k_sl2, k_sl3, e_call, k_call, e_blt, k_blt, e_mth, k_mth, k_mth2, e_isin, k_is, e_pick, k_pick, k_pick2, es_nil, es_cons, k_es, k_es2, o_none, o_some, k_o, c_none, c_some, i_seq, k_seqT, k_seqL, i_r1, k_r1, i_r2, k_r2, k_r3, i_zip, k_zip, k_zipT, k_zipL, i_enum, k_enum, s_asg, k_asg, s_own, k_own2, k_slotL, k_slotD, k_slotV, s_par, k_par, k_par2, s_frz, s_app, k_app, k_app2, s_ife, k_ifeT, k_ifeF, s_whl, k_w, k_wT, k_wF, k_wN, k_wR, s_ret, k_ret, s_exp, k_exp, s_setC, k_setC, k_cup0, k_cup1, s_ap, k_ap, k_ap2, k_ap3, s_rc, k_rc, ss_nil, ss_cons, k_ssN, k_ssR, finR_rt, finR_nx, pureR_some, varv_0, varv_s, borv_0, borv_0o, borv_s, truth, startP, List.map_cons, List.map_nil, List.replicate_succ, List.replicate_zero, List.cons_append, List.nil_append, Nat.reduceSub, Nat.reduceAdd, bindT, bindTs, optS_some, List.set_cons_succ, List.set_cons_zero, wipeP, mkTup_0, mkTup_1, mkTup_2, mkTup_3, mkTup_4, mkTup_5, mkTup_6, mkTup_7, mkTup_8, mkLst_0, mkLst_1, mkLst_2, mkLst_3, mkLst_4, mkLst_5, mkLst_6, mkLst_7, mkLst_8, mkLst_9, mkLst_10, mkLst_11, mkLst_12, mkLst_13, mkLst_14, mkLst_15, mkLst_16, binop, cmpop, blV, Option.map_some, isTy, bltop, Bool.not_true, Bool.not_false, item_0, item_1, item_2, item_3, item_c0, item_c1, Option.bind_some, List.getElem?_cons_zero, List.getElem?_cons_succ, if_true, if_false, Bool.false_eq_true, and_self, dat_int, dat_bl, dat_non, peq_int, peq_bl, peq_nonnon, Int.cast_ofNat_Int, Int.reduceEq, Bool.and_self, List.length_cons, List.length_nil, Int.reduceLT, Int.reduceLE, Int.reduceAdd, Int.reduceSub, Nat.reduceLT, Nat.reduceLeDiff, decide_true, decide_false, Bool.or_true, Bool.true_or, true_and, and_true, b_done_on, e1, e2]
end
def DoneS (named n dp : Nat) : Prop := ∀ (its : List It) (ps : List (Int × Int)), Com named n ps → (∀ i ∈ its, IOk named dp i) → ∀ (k : Nat) (c : List PV), callK P (k + 4 + dp) n__law_done [cmpV n ps, scV its] c = .ok (cmpV n (runI n dp its ps).1) c
theorem done_step (named n dp : Nat) (ihd : ∀ dp', dp = dp' + 1 → DoneS named n dp') : DoneS named n dp := by
  intro its ps hc h k c
  obtain ⟨env', c', e, rfl, s2, rfl⟩ := fr_pre (C := callK P (k + 3 + dp)) (t := .name 2) (b := b__law_done_l0) (it := .seq (.var 1)) (φ := itV) (as := its) (c0 := c) (c := c)
    (I := fun pre env c' => c' = c ∧ ∃ s2, env = [.val (cmpV n (runI n dp pre ps).1), .val (scV its), s2])
    (env := [.val (cmpV n ps), .val (scV its), .no]) ⟨rfl, .no, rfl⟩ (by
      unfold scV
      simp -implicitDefEqProofs only [e_con, e_var, e_bor, e_bin, k_bin, k_bin2, e_cmp, k_cmp, k_cmp2, e_neg, k_neg, e_nt, k_nt, k_truth, k_optB, e_and, k_and, k_andT, k_andF, e_or, k_or, k_orT, k_orF, e_ite, k_iteT, k_iteF, e_chain, k_ch, k_ch2, k_ch3T, k_ch3F, e_tup, k_tup, e_lst, k_lst, e_ix, k_ix, k_ix2, e_sl, k_sl, k_sl2, k_sl3, e_call, k_call, e_blt, k_blt, e_mth, k_mth, k_mth2, e_isin, k_is, e_pick, k_pick, k_pick2, es_nil, es_cons, k_es, k_es2, o_none, o_some, k_o, c_none, c_some, i_seq, k_seqT, k_seqL, i_r1, k_r1, i_r2, k_r2, k_r3, i_zip, k_zip, k_zipT, k_zipL, i_enum, k_enum, s_asg, k_asg, s_own, k_own2, k_slotL, k_slotD, k_slotV, s_par, k_par, k_par2, s_frz, s_app, k_app, k_app2, s_ife, k_ifeT, k_ifeF, s_whl, k_w, k_wT, k_wF, k_wN, k_wR, s_ret, k_ret, s_exp, k_exp, s_setC, k_setC, k_cup0, k_cup1, s_ap, k_ap, k_ap2, k_ap3, s_rc, k_rc, ss_nil, ss_cons, k_ssN, k_ssR, finR_rt, finR_nx, pureR_some, varv_0, varv_s, borv_0, borv_0o, borv_s, truth, startP, List.map_cons, List.map_nil, List.replicate_succ, List.replicate_zero, List.cons_append, List.nil_append, Nat.reduceSub, Nat.reduceAdd, bindT, bindTs, optS_some, List.set_cons_succ, List.set_cons_zero, wipeP, mkTup_0, mkTup_1, mkTup_2, mkTup_3, mkTup_4, mkTup_5, mkTup_6, mkTup_7, mkTup_8, mkLst_0, mkLst_1, mkLst_2, mkLst_3, mkLst_4, mkLst_5, mkLst_6, mkLst_7, mkLst_8, mkLst_9, mkLst_10, mkLst_11, mkLst_12, mkLst_13, mkLst_14, mkLst_15, mkLst_16, binop, cmpop, blV, Option.map_some, isTy, bltop, Bool.not_true, Bool.not_false, item_0, item_1, item_2, item_3, item_c0, item_c1, Option.bind_some, List.getElem?_cons_zero, List.getElem?_cons_succ, if_true, if_false, Bool.false_eq_true, and_self, dat_int, dat_bl, dat_non, peq_int, peq_bl, peq_nonnon, Int.cast_ofNat_Int, Int.reduceEq, Bool.and_self, List.length_cons, List.length_nil, Int.reduceLT, Int.reduceLE, Int.reduceAdd, Int.reduceSub, Nat.reduceLT, Nat.reduceLeDiff, decide_true, decide_false, Bool.or_true, Bool.true_or, true_and, and_true]) fun pre x post hp env c' ⟨hc', s2, he⟩ => by
    subst hc' he
    have hx : x ∈ its := by rw [hp]; exact List.mem_append.mpr (.inr (List.mem_cons_self ..))
    have h0 := h x hx
    have hcom := runI_com (n := n) (dp := dp) pre hc
    refine ⟨_, rfl, [.val (cmpV n (runI n dp (pre ++ [x]) ps).1), .val (scV its), .val (itV x)], c', ?_, rfl, _, rfl⟩
    simp only [List.set_cons_succ, List.set_cons_zero]
    rw [runI_snoc]
    generalize runI n dp pre ps = RR at hcom ⊢
    cases x with
    | deed d =>
      have e1 : callK P (k + 3 + dp) n__law_behind [cmpV n RR.1, deedV d] c' = .ok (cmpV n (behP n RR.1 d)) c' := by
        rw [show k + 3 + dp = (k + dp) + 3 by omega]
        exact f__law_behind hcom (k + dp) d (iok_deed.mp h0) c'
      have e2 : stepI n dp RR.1 (.deed d) = (behP n RR.1 d, [d]) := by cases dp <;> rfl
      have e3 := head_ask d
      rw [itV_deed, e2]
      simp -implicitDefEqProofs only [e_con, e_var, e_bor, e_bin, k_bin, k_bin2, e_cmp, k_cmp, k_cmp2, e_neg, k_neg, e_nt, k_nt, k_truth, k_optB, e_and, k_and, k_andT, k_andF, e_or, k_or, k_orT, k_orF, e_ite, k_iteT, k_iteF, e_chain, k_ch, k_ch2, k_ch3T, k_ch3F, e_tup, k_tup, e_lst, k_lst, e_ix, k_ix, k_ix2, e_sl, k_sl, k_sl2, k_sl3, e_call, k_call, e_blt, k_blt, e_mth, k_mth, k_mth2, e_isin, k_is, e_pick, k_pick, k_pick2, es_nil, es_cons, k_es, k_es2, o_none, o_some, k_o, c_none, c_some, i_seq, k_seqT, k_seqL, i_r1, k_r1, i_r2, k_r2, k_r3, i_zip, k_zip, k_zipT, k_zipL, i_enum, k_enum, s_asg, k_asg, s_own, k_own2, k_slotL, k_slotD, k_slotV, s_par, k_par, k_par2, s_frz, s_app, k_app, k_app2, s_ife, k_ifeT, k_ifeF, s_whl, k_w, k_wT, k_wF, k_wN, k_wR, s_ret, k_ret, s_exp, k_exp, s_setC, k_setC, k_cup0, k_cup1, s_ap, k_ap, k_ap2, k_ap3, s_rc, k_rc, ss_nil, ss_cons, k_ssN, k_ssR, finR_rt, finR_nx, pureR_some, varv_0, varv_s, borv_0, borv_0o, borv_s, truth, startP, List.map_cons, List.map_nil, List.replicate_succ, List.replicate_zero, List.cons_append, List.nil_append, Nat.reduceSub, Nat.reduceAdd, bindT, bindTs, optS_some, List.set_cons_succ, List.set_cons_zero, wipeP, mkTup_0, mkTup_1, mkTup_2, mkTup_3, mkTup_4, mkTup_5, mkTup_6, mkTup_7, mkTup_8, mkLst_0, mkLst_1, mkLst_2, mkLst_3, mkLst_4, mkLst_5, mkLst_6, mkLst_7, mkLst_8, mkLst_9, mkLst_10, mkLst_11, mkLst_12, mkLst_13, mkLst_14, mkLst_15, mkLst_16, binop, cmpop, blV, Option.map_some, isTy, bltop, Bool.not_true, Bool.not_false, item_0, item_1, item_2, item_3, item_c0, item_c1, Option.bind_some, List.getElem?_cons_zero, List.getElem?_cons_succ, if_true, if_false, Bool.false_eq_true, and_self, dat_int, dat_bl, dat_non, peq_int, peq_bl, peq_nonnon, Int.cast_ofNat_Int, Int.reduceEq, Bool.and_self, List.length_cons, List.length_nil, Int.reduceLT, Int.reduceLE, Int.reduceAdd, Int.reduceSub, Nat.reduceLT, Nat.reduceLeDiff, decide_true, decide_false, Bool.or_true, Bool.true_or, true_and, and_true, b__law_done_l0, item_head, head_dat, ok_ask, peq_str, e3, e1]
    | ask p o y no =>
      cases dp with
      | zero => exact h0.elim
      | succ dp =>
        obtain ⟨h1, h2, h3, hy, hno⟩ := h0
        have e2 : stepI n (dp + 1) RR.1 (.ask p o y no) = runI n dp (if kn RR.1 p o then y else no) RR.1 := rfl
        have e1 : callK P (k + 3 + (dp + 1)) n__law_knows [cmpV n RR.1, .int p, .int o] c' = .ok (.bl (kn RR.1 p o)) c' := by
          rw [show k + 3 + (dp + 1) = (k + dp + 2) + 2 by omega]
          exact f__law_knows (k + dp + 2) p o c'
        rw [itV_ask, e2]
        cases hk : kn RR.1 p o
        · rw [hk] at e1
          have e4 := ihd dp rfl no RR.1 hcom hno k c'
          rw [show k + 4 + dp = k + 3 + (dp + 1) by omega] at e4
          unfold scV at e4 ⊢
          simp -implicitDefEqProofs only [e_con, e_var, e_bor, e_bin, k_bin, k_bin2, e_cmp, k_cmp, k_cmp2, e_neg, k_neg, e_nt, k_nt, k_truth, k_optB, e_and, k_and, k_andT, k_andF, e_or, k_or, k_orT, k_orF, e_ite, k_iteT, k_iteF, e_chain, k_ch, k_ch2, k_ch3T, k_ch3F, e_tup, k_tup, e_lst, k_lst, e_ix, k_ix, k_ix2, e_sl, k_sl, k_sl2, k_sl3, e_call, k_call, e_blt, k_blt, e_mth, k_mth, k_mth2, e_isin, k_is, e_pick, k_pick, k_pick2, es_nil, es_cons, k_es, k_es2, o_none, o_some, k_o, c_none, c_some, i_seq, k_seqT, k_seqL, i_r1, k_r1, i_r2, k_r2, k_r3, i_zip, k_zip, k_zipT, k_zipL, i_enum, k_enum, s_asg, k_asg, s_own, k_own2, k_slotL, k_slotD, k_slotV, s_par, k_par, k_par2, s_frz, s_app, k_app, k_app2, s_ife, k_ifeT, k_ifeF, s_whl, k_w, k_wT, k_wF, k_wN, k_wR, s_ret, k_ret, s_exp, k_exp, s_setC, k_setC, k_cup0, k_cup1, s_ap, k_ap, k_ap2, k_ap3, s_rc, k_rc, ss_nil, ss_cons, k_ssN, k_ssR, finR_rt, finR_nx, pureR_some, varv_0, varv_s, borv_0, borv_0o, borv_s, truth, startP, List.map_cons, List.map_nil, List.replicate_succ, List.replicate_zero, List.cons_append, List.nil_append, Nat.reduceSub, Nat.reduceAdd, bindT, bindTs, optS_some, List.set_cons_succ, List.set_cons_zero, wipeP, mkTup_0, mkTup_1, mkTup_2, mkTup_3, mkTup_4, mkTup_5, mkTup_6, mkTup_7, mkTup_8, mkLst_0, mkLst_1, mkLst_2, mkLst_3, mkLst_4, mkLst_5, mkLst_6, mkLst_7, mkLst_8, mkLst_9, mkLst_10, mkLst_11, mkLst_12, mkLst_13, mkLst_14, mkLst_15, mkLst_16, binop, cmpop, blV, Option.map_some, isTy, bltop, Bool.not_true, Bool.not_false, item_0, item_1, item_2, item_3, item_c0, item_c1, Option.bind_some, List.getElem?_cons_zero, List.getElem?_cons_succ, if_true, if_false, Bool.false_eq_true, and_self, dat_int, dat_bl, dat_non, peq_int, peq_bl, peq_nonnon, Int.cast_ofNat_Int, Int.reduceEq, Bool.and_self, List.length_cons, List.length_nil, Int.reduceLT, Int.reduceLE, Int.reduceAdd, Int.reduceSub, Nat.reduceLT, Nat.reduceLeDiff, decide_true, decide_false, Bool.or_true, Bool.true_or, true_and, and_true, b__law_done_l0, ok_ask, peq_str, e1, item_4, e4]
        · rw [hk] at e1
          have e4 := ihd dp rfl y RR.1 hcom hy k c'
          rw [show k + 4 + dp = k + 3 + (dp + 1) by omega] at e4
          unfold scV at e4 ⊢
          simp -implicitDefEqProofs only [e_con, e_var, e_bor, e_bin, k_bin, k_bin2, e_cmp, k_cmp, k_cmp2, e_neg, k_neg, e_nt, k_nt, k_truth, k_optB, e_and, k_and, k_andT, k_andF, e_or, k_or, k_orT, k_orF, e_ite, k_iteT, k_iteF, e_chain, k_ch, k_ch2, k_ch3T, k_ch3F, e_tup, k_tup, e_lst, k_lst, e_ix, k_ix, k_ix2, e_sl, k_sl, k_sl2, k_sl3, e_call, k_call, e_blt, k_blt, e_mth, k_mth, k_mth2, e_isin, k_is, e_pick, k_pick, k_pick2, es_nil, es_cons, k_es, k_es2, o_none, o_some, k_o, c_none, c_some, i_seq, k_seqT, k_seqL, i_r1, k_r1, i_r2, k_r2, k_r3, i_zip, k_zip, k_zipT, k_zipL, i_enum, k_enum, s_asg, k_asg, s_own, k_own2, k_slotL, k_slotD, k_slotV, s_par, k_par, k_par2, s_frz, s_app, k_app, k_app2, s_ife, k_ifeT, k_ifeF, s_whl, k_w, k_wT, k_wF, k_wN, k_wR, s_ret, k_ret, s_exp, k_exp, s_setC, k_setC, k_cup0, k_cup1, s_ap, k_ap, k_ap2, k_ap3, s_rc, k_rc, ss_nil, ss_cons, k_ssN, k_ssR, finR_rt, finR_nx, pureR_some, varv_0, varv_s, borv_0, borv_0o, borv_s, truth, startP, List.map_cons, List.map_nil, List.replicate_succ, List.replicate_zero, List.cons_append, List.nil_append, Nat.reduceSub, Nat.reduceAdd, bindT, bindTs, optS_some, List.set_cons_succ, List.set_cons_zero, wipeP, mkTup_0, mkTup_1, mkTup_2, mkTup_3, mkTup_4, mkTup_5, mkTup_6, mkTup_7, mkTup_8, mkLst_0, mkLst_1, mkLst_2, mkLst_3, mkLst_4, mkLst_5, mkLst_6, mkLst_7, mkLst_8, mkLst_9, mkLst_10, mkLst_11, mkLst_12, mkLst_13, mkLst_14, mkLst_15, mkLst_16, binop, cmpop, blV, Option.map_some, isTy, bltop, Bool.not_true, Bool.not_false, item_0, item_1, item_2, item_3, item_c0, item_c1, Option.bind_some, List.getElem?_cons_zero, List.getElem?_cons_succ, if_true, if_false, Bool.false_eq_true, and_self, dat_int, dat_bl, dat_non, peq_int, peq_bl, peq_nonnon, Int.cast_ofNat_Int, Int.reduceEq, Bool.and_self, List.length_cons, List.length_nil, Int.reduceLT, Int.reduceLE, Int.reduceAdd, Int.reduceSub, Nat.reduceLT, Nat.reduceLeDiff, decide_true, decide_false, Bool.or_true, Bool.true_or, true_and, and_true, b__law_done_l0, ok_ask, peq_str, e1, item_4, e4]
  rw [show k + 4 + dp = (k + 3 + dp) + 1 by omega]
  refine call_ok rfl rfl ?_
  have e2 : execS (callK P (k + 3 + dp)) b__law_done_f0 [.val (cmpV n ps), .val (scV its), .no] c' = .nx [.val (cmpV n (runI n dp its ps).1), .val (scV its), s2] c' := e
  simp -implicitDefEqProofs only [e_con, e_var, e_bor, e_bin, k_bin, k_bin2, e_cmp, k_cmp, k_cmp2, e_neg, k_neg, e_nt, k_nt, k_truth, k_optB, e_and, k_and, k_andT, k_andF, e_or, k_or, k_orT, k_orF, e_ite, k_iteT, k_iteF, e_chain, k_ch, k_ch2, k_ch3T, k_ch3F, e_tup, k_tup, e_lst, k_lst, e_ix, k_ix, k_ix2, e_sl, k_sl, k_sl2, k_sl3, e_call, k_call, e_blt, k_blt, e_mth, k_mth, k_mth2, e_isin, k_is, e_pick, k_pick, k_pick2, es_nil, es_cons, k_es, k_es2, o_none, o_some, k_o, c_none, c_some, i_seq, k_seqT, k_seqL, i_r1, k_r1, i_r2, k_r2, k_r3, i_zip, k_zip, k_zipT, k_zipL, i_enum, k_enum, s_asg, k_asg, s_own, k_own2, k_slotL, k_slotD, k_slotV, s_par, k_par, k_par2, s_frz, s_app, k_app, k_app2, s_ife, k_ifeT, k_ifeF, s_whl, k_w, k_wT, k_wF, k_wN, k_wR, s_ret, k_ret, s_exp, k_exp, s_setC, k_setC, k_cup0, k_cup1, s_ap, k_ap, k_ap2, k_ap3, s_rc, k_rc, ss_nil, ss_cons, k_ssN, k_ssR, finR_rt, finR_nx, pureR_some, varv_0, varv_s, borv_0, borv_0o, borv_s, truth, startP, List.map_cons, List.map_nil, List.replicate_succ, List.replicate_zero, List.cons_append, List.nil_append, Nat.reduceSub, Nat.reduceAdd, bindT, bindTs, optS_some, List.set_cons_succ, List.set_cons_zero, wipeP, mkTup_0, mkTup_1, mkTup_2, mkTup_3, mkTup_4, mkTup_5, mkTup_6, mkTup_7, mkTup_8, mkLst_0, mkLst_1, mkLst_2, mkLst_3, mkLst_4, mkLst_5, mkLst_6, mkLst_7, mkLst_8, mkLst_9, mkLst_10, mkLst_11, mkLst_12, mkLst_13, mkLst_14, mkLst_15, mkLst_16, binop, cmpop, blV, Option.map_some, isTy, bltop, Bool.not_true, Bool.not_false, item_0, item_1, item_2, item_3, item_c0, item_c1, Option.bind_some, List.getElem?_cons_zero, List.getElem?_cons_succ, if_true, if_false, Bool.false_eq_true, and_self, dat_int, dat_bl, dat_non, peq_int, peq_bl, peq_nonnon, Int.cast_ofNat_Int, Int.reduceEq, Bool.and_self, List.length_cons, List.length_nil, Int.reduceLT, Int.reduceLE, Int.reduceAdd, Int.reduceSub, Nat.reduceLT, Nat.reduceLeDiff, decide_true, decide_false, Bool.or_true, Bool.true_or, true_and, and_true, b__law_done, e2]
theorem done_all (named n : Nat) : ∀ dp, DoneS named n dp
  | 0 => done_step named n 0 fun _ z => by omega
  | dp + 1 => done_step named n (dp + 1) fun dp' z => by
    obtain rfl : dp = dp' := by omega
    exact done_all named n dp
/-! ### _law_deeds -/
def DeedsS (named n dp : Nat) : Prop := ∀ (its : List It) (ps : List (Int × Int)), Com named n ps → (∀ i ∈ its, IOk named dp i) → cntL dp its ≤ 1000 → ∀ (k : Nat) (c : List PV), callK P (k + 4 + dp) n__law_deeds [cmpV n ps, scV its] c = .ok (.lst ((runI n dp its ps).2.map deedV)) c
theorem own_loop {named n : Nat} (k : Nat) (scr F it : PV) (ds : List Dd) (h : ∀ d ∈ ds, DOk named d) (ps : List (Int × Int)) (hc : Com named n ps) (s5 : PP.Slot) (c : List PV) : ∃ s5', execS (callK P (k + 3)) b__law_deeds_f0 [.val (cmpV n ps), .val scr, .val F, .val it, .val (.lst (ds.map deedV)), s5] c = .nx [.val (cmpV n (runP n ps ds)), .val scr, .val F, .val it, .val (.lst (ds.map deedV)), s5'] c := by
  obtain ⟨env', c', e, rfl, s, rfl⟩ := fr_pre (C := callK P (k + 3)) (t := .name 5) (b := b__law_deeds_l0) (it := .seq (.var 4)) (φ := deedV) (as := ds) (c0 := c) (c := c)
    (I := fun pre env c' => c' = c ∧ ∃ s, env = [.val (cmpV n (runP n ps pre)), .val scr, .val F, .val it, .val (.lst (ds.map deedV)), s])
    (env := [.val (cmpV n ps), .val scr, .val F, .val it, .val (.lst (ds.map deedV)), s5]) ⟨rfl, s5, rfl⟩ (by simp -implicitDefEqProofs only [e_con, e_var, e_bor, e_bin, k_bin, k_bin2, e_cmp, k_cmp, k_cmp2, e_neg, k_neg, e_nt, k_nt, k_truth, k_optB, e_and, k_and, k_andT, k_andF, e_or, k_or, k_orT, k_orF, e_ite, k_iteT, k_iteF, e_chain, k_ch, k_ch2, k_ch3T, k_ch3F, e_tup, k_tup, e_lst, k_lst, e_ix, k_ix, k_ix2, e_sl, k_sl, k_sl2, k_sl3, e_call, k_call, e_blt, k_blt, e_mth, k_mth, k_mth2, e_isin, k_is, e_pick, k_pick, k_pick2, es_nil, es_cons, k_es, k_es2, o_none, o_some, k_o, c_none, c_some, i_seq, k_seqT, k_seqL, i_r1, k_r1, i_r2, k_r2, k_r3, i_zip, k_zip, k_zipT, k_zipL, i_enum, k_enum, s_asg, k_asg, s_own, k_own2, k_slotL, k_slotD, k_slotV, s_par, k_par, k_par2, s_frz, s_app, k_app, k_app2, s_ife, k_ifeT, k_ifeF, s_whl, k_w, k_wT, k_wF, k_wN, k_wR, s_ret, k_ret, s_exp, k_exp, s_setC, k_setC, k_cup0, k_cup1, s_ap, k_ap, k_ap2, k_ap3, s_rc, k_rc, ss_nil, ss_cons, k_ssN, k_ssR, finR_rt, finR_nx, pureR_some, varv_0, varv_s, borv_0, borv_0o, borv_s, truth, startP, List.map_cons, List.map_nil, List.replicate_succ, List.replicate_zero, List.cons_append, List.nil_append, Nat.reduceSub, Nat.reduceAdd, bindT, bindTs, optS_some, List.set_cons_succ, List.set_cons_zero, wipeP, mkTup_0, mkTup_1, mkTup_2, mkTup_3, mkTup_4, mkTup_5, mkTup_6, mkTup_7, mkTup_8, mkLst_0, mkLst_1, mkLst_2, mkLst_3, mkLst_4, mkLst_5, mkLst_6, mkLst_7, mkLst_8, mkLst_9, mkLst_10, mkLst_11, mkLst_12, mkLst_13, mkLst_14, mkLst_15, mkLst_16, binop, cmpop, blV, Option.map_some, isTy, bltop, Bool.not_true, Bool.not_false, item_0, item_1, item_2, item_3, item_c0, item_c1, Option.bind_some, List.getElem?_cons_zero, List.getElem?_cons_succ, if_true, if_false, Bool.false_eq_true, and_self, dat_int, dat_bl, dat_non, peq_int, peq_bl, peq_nonnon, Int.cast_ofNat_Int, Int.reduceEq, Bool.and_self, List.length_cons, List.length_nil, Int.reduceLT, Int.reduceLE, Int.reduceAdd, Int.reduceSub, Nat.reduceLT, Nat.reduceLeDiff, decide_true, decide_false, Bool.or_true, Bool.true_or, true_and, and_true]) fun pre x post hp env c' ⟨hc', s, he⟩ => by
    subst hc' he
    have hx : x ∈ ds := by rw [hp]; exact List.mem_append.mpr (.inr (List.mem_cons_self ..))
    have e1 := f__law_behind (n := n) (run_com (ds := pre) hc) k x (h x hx) c'
    refine ⟨_, rfl, [.val (cmpV n (runP n ps (pre ++ [x]))), .val scr, .val F, .val it, .val (.lst (ds.map deedV)), .val (deedV x)], c', ?_, rfl, _, rfl⟩
    simp only [List.set_cons_succ, List.set_cons_zero]
    have e2 : runP n ps (pre ++ [x]) = behP n (runP n ps pre) x := runP_app n pre [x] ps
    rw [e2]
    simp -implicitDefEqProofs only [e_con, e_var, e_bor, e_bin, k_bin, k_bin2, e_cmp, k_cmp, k_cmp2, e_neg, k_neg, e_nt, k_nt, k_truth, k_optB, e_and, k_and, k_andT, k_andF, e_or, k_or, k_orT, k_orF, e_ite, k_iteT, k_iteF, e_chain, k_ch, k_ch2, k_ch3T, k_ch3F, e_tup, k_tup, e_lst, k_lst, e_ix, k_ix, k_ix2, e_sl, k_sl, k_sl2, k_sl3, e_call, k_call, e_blt, k_blt, e_mth, k_mth, k_mth2, e_isin, k_is, e_pick, k_pick, k_pick2, es_nil, es_cons, k_es, k_es2, o_none, o_some, k_o, c_none, c_some, i_seq, k_seqT, k_seqL, i_r1, k_r1, i_r2, k_r2, k_r3, i_zip, k_zip, k_zipT, k_zipL, i_enum, k_enum, s_asg, k_asg, s_own, k_own2, k_slotL, k_slotD, k_slotV, s_par, k_par, k_par2, s_frz, s_app, k_app, k_app2, s_ife, k_ifeT, k_ifeF, s_whl, k_w, k_wT, k_wF, k_wN, k_wR, s_ret, k_ret, s_exp, k_exp, s_setC, k_setC, k_cup0, k_cup1, s_ap, k_ap, k_ap2, k_ap3, s_rc, k_rc, ss_nil, ss_cons, k_ssN, k_ssR, finR_rt, finR_nx, pureR_some, varv_0, varv_s, borv_0, borv_0o, borv_s, truth, startP, List.map_cons, List.map_nil, List.replicate_succ, List.replicate_zero, List.cons_append, List.nil_append, Nat.reduceSub, Nat.reduceAdd, bindT, bindTs, optS_some, List.set_cons_succ, List.set_cons_zero, wipeP, mkTup_0, mkTup_1, mkTup_2, mkTup_3, mkTup_4, mkTup_5, mkTup_6, mkTup_7, mkTup_8, mkLst_0, mkLst_1, mkLst_2, mkLst_3, mkLst_4, mkLst_5, mkLst_6, mkLst_7, mkLst_8, mkLst_9, mkLst_10, mkLst_11, mkLst_12, mkLst_13, mkLst_14, mkLst_15, mkLst_16, binop, cmpop, blV, Option.map_some, isTy, bltop, Bool.not_true, Bool.not_false, item_0, item_1, item_2, item_3, item_c0, item_c1, Option.bind_some, List.getElem?_cons_zero, List.getElem?_cons_succ, if_true, if_false, Bool.false_eq_true, and_self, dat_int, dat_bl, dat_non, peq_int, peq_bl, peq_nonnon, Int.cast_ofNat_Int, Int.reduceEq, Bool.and_self, List.length_cons, List.length_nil, Int.reduceLT, Int.reduceLE, Int.reduceAdd, Int.reduceSub, Nat.reduceLT, Nat.reduceLeDiff, decide_true, decide_false, Bool.or_true, Bool.true_or, true_and, and_true, b__law_deeds_l0, e1]
  exact ⟨s, e⟩
theorem deeds_step (named n dp : Nat) (ihd : ∀ dp', dp = dp' + 1 → DeedsS named n dp') : DeedsS named n dp := by
  intro its ps hc h hcn k c
  obtain ⟨env', c', e, rfl, s3, s4, s5, rfl⟩ := fr_pre (C := callK P (k + 3 + dp)) (t := .name 3) (b := b__law_deeds_l1) (it := .seq (.var 1)) (φ := itV) (as := its) (c0 := c) (c := c)
    (I := fun pre env c' => c' = c ∧ ∃ s3 s4 s5, env = [.val (cmpV n (runI n dp pre ps).1), .val (scV its), .val (.lst ((runI n dp pre ps).2.map deedV)), s3, s4, s5])
    (env := [.val (cmpV n ps), .val (scV its), .val (.lst []), .no, .no, .no]) ⟨rfl, .no, .no, .no, rfl⟩ (by
      unfold scV
      simp -implicitDefEqProofs only [e_con, e_var, e_bor, e_bin, k_bin, k_bin2, e_cmp, k_cmp, k_cmp2, e_neg, k_neg, e_nt, k_nt, k_truth, k_optB, e_and, k_and, k_andT, k_andF, e_or, k_or, k_orT, k_orF, e_ite, k_iteT, k_iteF, e_chain, k_ch, k_ch2, k_ch3T, k_ch3F, e_tup, k_tup, e_lst, k_lst, e_ix, k_ix, k_ix2, e_sl, k_sl, k_sl2, k_sl3, e_call, k_call, e_blt, k_blt, e_mth, k_mth, k_mth2, e_isin, k_is, e_pick, k_pick, k_pick2, es_nil, es_cons, k_es, k_es2, o_none, o_some, k_o, c_none, c_some, i_seq, k_seqT, k_seqL, i_r1, k_r1, i_r2, k_r2, k_r3, i_zip, k_zip, k_zipT, k_zipL, i_enum, k_enum, s_asg, k_asg, s_own, k_own2, k_slotL, k_slotD, k_slotV, s_par, k_par, k_par2, s_frz, s_app, k_app, k_app2, s_ife, k_ifeT, k_ifeF, s_whl, k_w, k_wT, k_wF, k_wN, k_wR, s_ret, k_ret, s_exp, k_exp, s_setC, k_setC, k_cup0, k_cup1, s_ap, k_ap, k_ap2, k_ap3, s_rc, k_rc, ss_nil, ss_cons, k_ssN, k_ssR, finR_rt, finR_nx, pureR_some, varv_0, varv_s, borv_0, borv_0o, borv_s, truth, startP, List.map_cons, List.map_nil, List.replicate_succ, List.replicate_zero, List.cons_append, List.nil_append, Nat.reduceSub, Nat.reduceAdd, bindT, bindTs, optS_some, List.set_cons_succ, List.set_cons_zero, wipeP, mkTup_0, mkTup_1, mkTup_2, mkTup_3, mkTup_4, mkTup_5, mkTup_6, mkTup_7, mkTup_8, mkLst_0, mkLst_1, mkLst_2, mkLst_3, mkLst_4, mkLst_5, mkLst_6, mkLst_7, mkLst_8, mkLst_9, mkLst_10, mkLst_11, mkLst_12, mkLst_13, mkLst_14, mkLst_15, mkLst_16, binop, cmpop, blV, Option.map_some, isTy, bltop, Bool.not_true, Bool.not_false, item_0, item_1, item_2, item_3, item_c0, item_c1, Option.bind_some, List.getElem?_cons_zero, List.getElem?_cons_succ, if_true, if_false, Bool.false_eq_true, and_self, dat_int, dat_bl, dat_non, peq_int, peq_bl, peq_nonnon, Int.cast_ofNat_Int, Int.reduceEq, Bool.and_self, List.length_cons, List.length_nil, Int.reduceLT, Int.reduceLE, Int.reduceAdd, Int.reduceSub, Nat.reduceLT, Nat.reduceLeDiff, decide_true, decide_false, Bool.or_true, Bool.true_or, true_and, and_true]) fun pre x post hp env c' ⟨hc', s3, s4, s5, he⟩ => by
    subst hc' he
    have hx : x ∈ its := by rw [hp]; exact List.mem_append.mpr (.inr (List.mem_cons_self ..))
    have h0 := h x hx
    have hcom := runI_com (n := n) (dp := dp) pre hc
    have hpre : ∀ i ∈ pre, IOk named dp i := fun i hi => h i (by rw [hp]; exact List.mem_append.mpr (.inl hi))
    have hl := (runI_ok (n := n) pre ps hpre).2.2
    have hs := stepI_ok (n := n) dp (runI n dp pre ps).1 x h0
    have hcl : cntL dp pre + cnt dp x ≤ 1000 := by
      have : cntL dp its = cntL dp pre + (cnt dp x + cntL dp post) := by rw [hp]; unfold cntL; simp
      omega
    rw [runI_snoc]
    generalize runI n dp pre ps = RR at hcom hl hs ⊢
    have e9 := mkLst_s (xs := RR.2.map deedV ++ (stepI n dp RR.1 x).2.map deedV) (by have := hs.2.2; simp only [List.length_append, List.length_map]; unfold LIM; omega)
    obtain ⟨s5', e8⟩ := own_loop (named := named) (k + dp) (scV its) (.lst (RR.2.map deedV)) (itV x) (stepI n dp RR.1 x).2 hs.1 RR.1 hcom s5 c'
    rw [← hs.2.1, show k + dp + 3 = k + 3 + dp by omega] at e8
    refine ⟨_, rfl, [.val (cmpV n (stepI n dp RR.1 x).1), .val (scV its), .val (.lst ((RR.2 ++ (stepI n dp RR.1 x).2).map deedV)), .val (itV x), .val (.lst ((stepI n dp RR.1 x).2.map deedV)), s5'], c', ?_, rfl, _, _, _, rfl⟩
    simp only [List.set_cons_succ, List.set_cons_zero]
    cases x with
    | deed d =>
      have e2 : stepI n dp RR.1 (.deed d) = (behP n RR.1 d, [d]) := by cases dp <;> rfl
      have e3 := head_ask d
      rw [itV_deed] at e8 ⊢
      rw [e2] at e8 e9 ⊢
      simp only [List.map_cons, List.map_nil] at e8 e9
      simp -implicitDefEqProofs only [e_con, e_var, e_bor, e_bin, k_bin, k_bin2, e_cmp, k_cmp, k_cmp2, e_neg, k_neg, e_nt, k_nt, k_truth, k_optB, e_and, k_and, k_andT, k_andF, e_or, k_or, k_orT, k_orF, e_ite, k_iteT, k_iteF, e_chain, k_ch, k_ch2, k_ch3T, k_ch3F, e_tup, k_tup, e_lst, k_lst, e_ix, k_ix, k_ix2, e_sl, k_sl, k_sl2, k_sl3, e_call, k_call, e_blt, k_blt, e_mth, k_mth, k_mth2, e_isin, k_is, e_pick, k_pick, k_pick2, es_nil, es_cons, k_es, k_es2, o_none, o_some, k_o, c_none, c_some, i_seq, k_seqT, k_seqL, i_r1, k_r1, i_r2, k_r2, k_r3, i_zip, k_zip, k_zipT, k_zipL, i_enum, k_enum, s_asg, k_asg, s_own, k_own2, k_slotL, k_slotD, k_slotV, s_par, k_par, k_par2, s_frz, s_app, k_app, k_app2, s_ife, k_ifeT, k_ifeF, s_whl, k_w, k_wT, k_wF, k_wN, k_wR, s_ret, k_ret, s_exp, k_exp, s_setC, k_setC, k_cup0, k_cup1, s_ap, k_ap, k_ap2, k_ap3, s_rc, k_rc, ss_nil, ss_cons, k_ssN, k_ssR, finR_rt, finR_nx, pureR_some, varv_0, varv_s, borv_0, borv_0o, borv_s, truth, startP, List.map_cons, List.map_nil, List.replicate_succ, List.replicate_zero, List.cons_append, List.nil_append, Nat.reduceSub, Nat.reduceAdd, bindT, bindTs, optS_some, List.set_cons_succ, List.set_cons_zero, wipeP, mkTup_0, mkTup_1, mkTup_2, mkTup_3, mkTup_4, mkTup_5, mkTup_6, mkTup_7, mkTup_8, mkLst_0, mkLst_1, mkLst_2, mkLst_3, mkLst_4, mkLst_5, mkLst_6, mkLst_7, mkLst_8, mkLst_9, mkLst_10, mkLst_11, mkLst_12, mkLst_13, mkLst_14, mkLst_15, mkLst_16, binop, cmpop, blV, Option.map_some, isTy, bltop, Bool.not_true, Bool.not_false, item_0, item_1, item_2, item_3, item_c0, item_c1, Option.bind_some, List.getElem?_cons_zero, List.getElem?_cons_succ, if_true, if_false, Bool.false_eq_true, and_self, dat_int, dat_bl, dat_non, peq_int, peq_bl, peq_nonnon, Int.cast_ofNat_Int, Int.reduceEq, Bool.and_self, List.length_cons, List.length_nil, Int.reduceLT, Int.reduceLE, Int.reduceAdd, Int.reduceSub, Nat.reduceLT, Nat.reduceLeDiff, decide_true, decide_false, Bool.or_true, Bool.true_or, true_and, and_true, b__law_deeds_l1, item_head, head_dat, ok_ask, peq_str, e3, e8, e9, List.map_append]
    | ask p o y no =>
      cases dp with
      | zero => exact h0.elim
      | succ dp =>
        obtain ⟨h1, h2, h3, hy, hno⟩ := h0
        have e2 : stepI n (dp + 1) RR.1 (.ask p o y no) = runI n dp (if kn RR.1 p o then y else no) RR.1 := rfl
        have e1 : callK P (k + 3 + (dp + 1)) n__law_knows [cmpV n RR.1, .int p, .int o] c' = .ok (.bl (kn RR.1 p o)) c' := by
          rw [show k + 3 + (dp + 1) = (k + dp + 2) + 2 by omega]
          exact f__law_knows (k + dp + 2) p o c'
        have hc1 : cntL dp y ≤ 1000 ∧ cntL dp no ≤ 1000 := by
          rw [cnt] at hcl
          unfold cntL at hcl ⊢
          omega
        rw [itV_ask] at e8 ⊢
        rw [e2] at e8 e9 ⊢
        cases hk : kn RR.1 p o
        · rw [hk] at e1 e8 e9
          have e4 := ihd dp rfl no RR.1 hcom hno hc1.2 k c'
          rw [show k + 4 + dp = k + 3 + (dp + 1) by omega] at e4
          unfold scV at e4 e8 ⊢
          simp only [Bool.false_eq_true, if_false] at e8 e9
          simp -implicitDefEqProofs only [e_con, e_var, e_bor, e_bin, k_bin, k_bin2, e_cmp, k_cmp, k_cmp2, e_neg, k_neg, e_nt, k_nt, k_truth, k_optB, e_and, k_and, k_andT, k_andF, e_or, k_or, k_orT, k_orF, e_ite, k_iteT, k_iteF, e_chain, k_ch, k_ch2, k_ch3T, k_ch3F, e_tup, k_tup, e_lst, k_lst, e_ix, k_ix, k_ix2, e_sl, k_sl, k_sl2, k_sl3, e_call, k_call, e_blt, k_blt, e_mth, k_mth, k_mth2, e_isin, k_is, e_pick, k_pick, k_pick2, es_nil, es_cons, k_es, k_es2, o_none, o_some, k_o, c_none, c_some, i_seq, k_seqT, k_seqL, i_r1, k_r1, i_r2, k_r2, k_r3, i_zip, k_zip, k_zipT, k_zipL, i_enum, k_enum, s_asg, k_asg, s_own, k_own2, k_slotL, k_slotD, k_slotV, s_par, k_par, k_par2, s_frz, s_app, k_app, k_app2, s_ife, k_ifeT, k_ifeF, s_whl, k_w, k_wT, k_wF, k_wN, k_wR, s_ret, k_ret, s_exp, k_exp, s_setC, k_setC, k_cup0, k_cup1, s_ap, k_ap, k_ap2, k_ap3, s_rc, k_rc, ss_nil, ss_cons, k_ssN, k_ssR, finR_rt, finR_nx, pureR_some, varv_0, varv_s, borv_0, borv_0o, borv_s, truth, startP, List.map_cons, List.map_nil, List.replicate_succ, List.replicate_zero, List.cons_append, List.nil_append, Nat.reduceSub, Nat.reduceAdd, bindT, bindTs, optS_some, List.set_cons_succ, List.set_cons_zero, wipeP, mkTup_0, mkTup_1, mkTup_2, mkTup_3, mkTup_4, mkTup_5, mkTup_6, mkTup_7, mkTup_8, mkLst_0, mkLst_1, mkLst_2, mkLst_3, mkLst_4, mkLst_5, mkLst_6, mkLst_7, mkLst_8, mkLst_9, mkLst_10, mkLst_11, mkLst_12, mkLst_13, mkLst_14, mkLst_15, mkLst_16, binop, cmpop, blV, Option.map_some, isTy, bltop, Bool.not_true, Bool.not_false, item_0, item_1, item_2, item_3, item_c0, item_c1, Option.bind_some, List.getElem?_cons_zero, List.getElem?_cons_succ, if_true, if_false, Bool.false_eq_true, and_self, dat_int, dat_bl, dat_non, peq_int, peq_bl, peq_nonnon, Int.cast_ofNat_Int, Int.reduceEq, Bool.and_self, List.length_cons, List.length_nil, Int.reduceLT, Int.reduceLE, Int.reduceAdd, Int.reduceSub, Nat.reduceLT, Nat.reduceLeDiff, decide_true, decide_false, Bool.or_true, Bool.true_or, true_and, and_true, b__law_deeds_l1, ok_ask, peq_str, e1, item_4, e4, e8, e9, List.map_append]
        · rw [hk] at e1 e8 e9
          have e4 := ihd dp rfl y RR.1 hcom hy hc1.1 k c'
          rw [show k + 4 + dp = k + 3 + (dp + 1) by omega] at e4
          unfold scV at e4 e8 ⊢
          simp only [if_true] at e8 e9
          simp -implicitDefEqProofs only [e_con, e_var, e_bor, e_bin, k_bin, k_bin2, e_cmp, k_cmp, k_cmp2, e_neg, k_neg, e_nt, k_nt, k_truth, k_optB, e_and, k_and, k_andT, k_andF, e_or, k_or, k_orT, k_orF, e_ite, k_iteT, k_iteF, e_chain, k_ch, k_ch2, k_ch3T, k_ch3F, e_tup, k_tup, e_lst, k_lst, e_ix, k_ix, k_ix2, e_sl, k_sl, k_sl2, k_sl3, e_call, k_call, e_blt, k_blt, e_mth, k_mth, k_mth2, e_isin, k_is, e_pick, k_pick, k_pick2, es_nil, es_cons, k_es, k_es2, o_none, o_some, k_o, c_none, c_some, i_seq, k_seqT, k_seqL, i_r1, k_r1, i_r2, k_r2, k_r3, i_zip, k_zip, k_zipT, k_zipL, i_enum, k_enum, s_asg, k_asg, s_own, k_own2, k_slotL, k_slotD, k_slotV, s_par, k_par, k_par2, s_frz, s_app, k_app, k_app2, s_ife, k_ifeT, k_ifeF, s_whl, k_w, k_wT, k_wF, k_wN, k_wR, s_ret, k_ret, s_exp, k_exp, s_setC, k_setC, k_cup0, k_cup1, s_ap, k_ap, k_ap2, k_ap3, s_rc, k_rc, ss_nil, ss_cons, k_ssN, k_ssR, finR_rt, finR_nx, pureR_some, varv_0, varv_s, borv_0, borv_0o, borv_s, truth, startP, List.map_cons, List.map_nil, List.replicate_succ, List.replicate_zero, List.cons_append, List.nil_append, Nat.reduceSub, Nat.reduceAdd, bindT, bindTs, optS_some, List.set_cons_succ, List.set_cons_zero, wipeP, mkTup_0, mkTup_1, mkTup_2, mkTup_3, mkTup_4, mkTup_5, mkTup_6, mkTup_7, mkTup_8, mkLst_0, mkLst_1, mkLst_2, mkLst_3, mkLst_4, mkLst_5, mkLst_6, mkLst_7, mkLst_8, mkLst_9, mkLst_10, mkLst_11, mkLst_12, mkLst_13, mkLst_14, mkLst_15, mkLst_16, binop, cmpop, blV, Option.map_some, isTy, bltop, Bool.not_true, Bool.not_false, item_0, item_1, item_2, item_3, item_c0, item_c1, Option.bind_some, List.getElem?_cons_zero, List.getElem?_cons_succ, if_true, if_false, Bool.false_eq_true, and_self, dat_int, dat_bl, dat_non, peq_int, peq_bl, peq_nonnon, Int.cast_ofNat_Int, Int.reduceEq, Bool.and_self, List.length_cons, List.length_nil, Int.reduceLT, Int.reduceLE, Int.reduceAdd, Int.reduceSub, Nat.reduceLT, Nat.reduceLeDiff, decide_true, decide_false, Bool.or_true, Bool.true_or, true_and, and_true, b__law_deeds_l1, ok_ask, peq_str, e1, item_4, e4, e8, e9, List.map_append]
  rw [show k + 4 + dp = (k + 3 + dp) + 1 by omega]
  refine call_ok rfl rfl ?_
  have e2 : execS (callK P (k + 3 + dp)) b__law_deeds_f1 [.val (cmpV n ps), .val (scV its), .val (.lst []), .no, .no, .no] c' = .nx [.val (cmpV n (runI n dp its ps).1), .val (scV its), .val (.lst ((runI n dp its ps).2.map deedV)), s3, s4, s5] c' := e
  simp -implicitDefEqProofs only [e_con, e_var, e_bor, e_bin, k_bin, k_bin2, e_cmp, k_cmp, k_cmp2, e_neg, k_neg, e_nt, k_nt, k_truth, k_optB, e_and, k_and, k_andT, k_andF, e_or, k_or, k_orT, k_orF, e_ite, k_iteT, k_iteF, e_chain, k_ch, k_ch2, k_ch3T, k_ch3F, e_tup, k_tup, e_lst, k_lst, e_ix, k_ix, k_ix2, e_sl, k_sl, k_sl2, k_sl3, e_call, k_call, e_blt, k_blt, e_mth, k_mth, k_mth2, e_isin, k_is, e_pick, k_pick, k_pick2, es_nil, es_cons, k_es, k_es2, o_none, o_some, k_o, c_none, c_some, i_seq, k_seqT, k_seqL, i_r1, k_r1, i_r2, k_r2, k_r3, i_zip, k_zip, k_zipT, k_zipL, i_enum, k_enum, s_asg, k_asg, s_own, k_own2, k_slotL, k_slotD, k_slotV, s_par, k_par, k_par2, s_frz, s_app, k_app, k_app2, s_ife, k_ifeT, k_ifeF, s_whl, k_w, k_wT, k_wF, k_wN, k_wR, s_ret, k_ret, s_exp, k_exp, s_setC, k_setC, k_cup0, k_cup1, s_ap, k_ap, k_ap2, k_ap3, s_rc, k_rc, ss_nil, ss_cons, k_ssN, k_ssR, finR_rt, finR_nx, pureR_some, varv_0, varv_s, borv_0, borv_0o, borv_s, truth, startP, List.map_cons, List.map_nil, List.replicate_succ, List.replicate_zero, List.cons_append, List.nil_append, Nat.reduceSub, Nat.reduceAdd, bindT, bindTs, optS_some, List.set_cons_succ, List.set_cons_zero, wipeP, mkTup_0, mkTup_1, mkTup_2, mkTup_3, mkTup_4, mkTup_5, mkTup_6, mkTup_7, mkTup_8, mkLst_0, mkLst_1, mkLst_2, mkLst_3, mkLst_4, mkLst_5, mkLst_6, mkLst_7, mkLst_8, mkLst_9, mkLst_10, mkLst_11, mkLst_12, mkLst_13, mkLst_14, mkLst_15, mkLst_16, binop, cmpop, blV, Option.map_some, isTy, bltop, Bool.not_true, Bool.not_false, item_0, item_1, item_2, item_3, item_c0, item_c1, Option.bind_some, List.getElem?_cons_zero, List.getElem?_cons_succ, if_true, if_false, Bool.false_eq_true, and_self, dat_int, dat_bl, dat_non, peq_int, peq_bl, peq_nonnon, Int.cast_ofNat_Int, Int.reduceEq, Bool.and_self, List.length_cons, List.length_nil, Int.reduceLT, Int.reduceLE, Int.reduceAdd, Int.reduceSub, Nat.reduceLT, Nat.reduceLeDiff, decide_true, decide_false, Bool.or_true, Bool.true_or, true_and, and_true, b__law_deeds, e2]
theorem deeds_all (named n : Nat) : ∀ dp, DeedsS named n dp
  | 0 => deeds_step named n 0 fun _ z => by omega
  | dp + 1 => deeds_step named n (dp + 1) fun dp' z => by
    obtain rfl : dp = dp' := by omega
    exact deeds_all named n dp
end K09

set_option Elab.async false
set_option linter.all false
set_option maxRecDepth 100000
/-! K09G: scripts drawn. -/
namespace K09
open PySem PP
/-! ### _law_count -/
def CountS (named dp : Nat) : Prop := ∀ (its : List It), (∀ i ∈ its, IOk named dp i) → ∀ (k : Nat) (c : List PV), callK P (k + 1 + dp) n__law_count [scV its] c = .ok (.int (cntL dp its : Nat)) c
theorem cntL_snoc {dp : Nat} {pre : List It} {x : It} : cntL dp (pre ++ [x]) = cntL dp pre + cnt dp x := by unfold cntL; simp
theorem count_step (named dp : Nat) (ihd : ∀ dp', dp = dp' + 1 → CountS named dp') : CountS named dp := by
  intro its h k c
  obtain ⟨env', c', e, rfl, s2, rfl⟩ := fr_pre (C := callK P (k + dp)) (t := .name 2) (b := b__law_count_l0) (it := .seq (.var 0)) (φ := itV) (as := its) (c0 := c) (c := c)
    (I := fun pre env c' => c' = c ∧ ∃ s2, env = [.val (scV its), .val (.int (cntL dp pre : Nat)), s2])
    (env := [.val (scV its), .val (.int 0), .no]) ⟨rfl, .no, rfl⟩ (by
      unfold scV
      simp -implicitDefEqProofs only [e_con, e_var, e_bor, e_bin, k_bin, k_bin2, e_cmp, k_cmp, k_cmp2, e_neg, k_neg, e_nt, k_nt, k_truth, k_optB, e_and, k_and, k_andT, k_andF, e_or, k_or, k_orT, k_orF, e_ite, k_iteT, k_iteF, e_chain, k_ch, k_ch2, k_ch3T, k_ch3F, e_tup, k_tup, e_lst, k_lst, e_ix, k_ix, k_ix2, e_sl, k_sl, k_sl2, k_sl3, e_call, k_call, e_blt, k_blt, e_mth, k_mth, k_mth2, e_isin, k_is, e_pick, k_pick, k_pick2, es_nil, es_cons, k_es, k_es2, o_none, o_some, k_o, c_none, c_some, i_seq, k_seqT, k_seqL, i_r1, k_r1, i_r2, k_r2, k_r3, i_zip, k_zip, k_zipT, k_zipL, i_enum, k_enum, s_asg, k_asg, s_own, k_own2, k_slotL, k_slotD, k_slotV, s_par, k_par, k_par2, s_frz, s_app, k_app, k_app2, s_ife, k_ifeT, k_ifeF, s_whl, k_w, k_wT, k_wF, k_wN, k_wR, s_ret, k_ret, s_exp, k_exp, s_setC, k_setC, k_cup0, k_cup1, s_ap, k_ap, k_ap2, k_ap3, s_rc, k_rc, ss_nil, ss_cons, k_ssN, k_ssR, finR_rt, finR_nx, pureR_some, varv_0, varv_s, borv_0, borv_0o, borv_s, truth, startP, List.map_cons, List.map_nil, List.replicate_succ, List.replicate_zero, List.cons_append, List.nil_append, Nat.reduceSub, Nat.reduceAdd, bindT, bindTs, optS_some, List.set_cons_succ, List.set_cons_zero, wipeP, mkTup_0, mkTup_1, mkTup_2, mkTup_3, mkTup_4, mkTup_5, mkTup_6, mkTup_7, mkTup_8, mkLst_0, mkLst_1, mkLst_2, mkLst_3, mkLst_4, mkLst_5, mkLst_6, mkLst_7, mkLst_8, mkLst_9, mkLst_10, mkLst_11, mkLst_12, mkLst_13, mkLst_14, mkLst_15, mkLst_16, binop, cmpop, blV, Option.map_some, isTy, bltop, Bool.not_true, Bool.not_false, item_0, item_1, item_2, item_3, item_c0, item_c1, Option.bind_some, List.getElem?_cons_zero, List.getElem?_cons_succ, if_true, if_false, Bool.false_eq_true, and_self, dat_int, dat_bl, dat_non, peq_int, peq_bl, peq_nonnon, Int.cast_ofNat_Int, Int.reduceEq, Bool.and_self, List.length_cons, List.length_nil, Int.reduceLT, Int.reduceLE, Int.reduceAdd, Int.reduceSub, Nat.reduceLT, Nat.reduceLeDiff, decide_true, decide_false, Bool.or_true, Bool.true_or, true_and, and_true]) fun pre x post hp env c' ⟨hc', s2, he⟩ => by
    subst hc' he
    have hx : x ∈ its := by rw [hp]; exact List.mem_append.mpr (.inr (List.mem_cons_self ..))
    have h0 := h x hx
    refine ⟨_, rfl, [.val (scV its), .val (.int (cntL dp (pre ++ [x]) : Nat)), .val (itV x)], c', ?_, rfl, _, rfl⟩
    simp only [List.set_cons_succ, List.set_cons_zero]
    rw [cntL_snoc]
    cases x with
    | deed d =>
      have e3 := head_ask d
      have e4 : (((cntL dp pre + 1 : Nat)) : Int) = (cntL dp pre : Int) + 1 + 0 := by omega
      rw [itV_deed, cnt_deed, e4]
      simp -implicitDefEqProofs only [e_con, e_var, e_bor, e_bin, k_bin, k_bin2, e_cmp, k_cmp, k_cmp2, e_neg, k_neg, e_nt, k_nt, k_truth, k_optB, e_and, k_and, k_andT, k_andF, e_or, k_or, k_orT, k_orF, e_ite, k_iteT, k_iteF, e_chain, k_ch, k_ch2, k_ch3T, k_ch3F, e_tup, k_tup, e_lst, k_lst, e_ix, k_ix, k_ix2, e_sl, k_sl, k_sl2, k_sl3, e_call, k_call, e_blt, k_blt, e_mth, k_mth, k_mth2, e_isin, k_is, e_pick, k_pick, k_pick2, es_nil, es_cons, k_es, k_es2, o_none, o_some, k_o, c_none, c_some, i_seq, k_seqT, k_seqL, i_r1, k_r1, i_r2, k_r2, k_r3, i_zip, k_zip, k_zipT, k_zipL, i_enum, k_enum, s_asg, k_asg, s_own, k_own2, k_slotL, k_slotD, k_slotV, s_par, k_par, k_par2, s_frz, s_app, k_app, k_app2, s_ife, k_ifeT, k_ifeF, s_whl, k_w, k_wT, k_wF, k_wN, k_wR, s_ret, k_ret, s_exp, k_exp, s_setC, k_setC, k_cup0, k_cup1, s_ap, k_ap, k_ap2, k_ap3, s_rc, k_rc, ss_nil, ss_cons, k_ssN, k_ssR, finR_rt, finR_nx, pureR_some, varv_0, varv_s, borv_0, borv_0o, borv_s, truth, startP, List.map_cons, List.map_nil, List.replicate_succ, List.replicate_zero, List.cons_append, List.nil_append, Nat.reduceSub, Nat.reduceAdd, bindT, bindTs, optS_some, List.set_cons_succ, List.set_cons_zero, wipeP, mkTup_0, mkTup_1, mkTup_2, mkTup_3, mkTup_4, mkTup_5, mkTup_6, mkTup_7, mkTup_8, mkLst_0, mkLst_1, mkLst_2, mkLst_3, mkLst_4, mkLst_5, mkLst_6, mkLst_7, mkLst_8, mkLst_9, mkLst_10, mkLst_11, mkLst_12, mkLst_13, mkLst_14, mkLst_15, mkLst_16, binop, cmpop, blV, Option.map_some, isTy, bltop, Bool.not_true, Bool.not_false, item_0, item_1, item_2, item_3, item_c0, item_c1, Option.bind_some, List.getElem?_cons_zero, List.getElem?_cons_succ, if_true, if_false, Bool.false_eq_true, and_self, dat_int, dat_bl, dat_non, peq_int, peq_bl, peq_nonnon, Int.cast_ofNat_Int, Int.reduceEq, Bool.and_self, List.length_cons, List.length_nil, Int.reduceLT, Int.reduceLE, Int.reduceAdd, Int.reduceSub, Nat.reduceLT, Nat.reduceLeDiff, decide_true, decide_false, Bool.or_true, Bool.true_or, true_and, and_true, b__law_count_l0, item_head, head_dat, ok_ask, peq_str, e3]
    | ask p o y no =>
      cases dp with
      | zero => exact h0.elim
      | succ dp =>
        obtain ⟨h1, h2, h3, hy, hno⟩ := h0
        have e1 := ihd dp rfl y hy k c'
        have e2 := ihd dp rfl no hno k c'
        rw [show k + 1 + dp = k + (dp + 1) by omega] at e1 e2
        have e4 : (((cntL (dp + 1) pre + cnt (dp + 1) (.ask p o y no) : Nat)) : Int) = (cntL (dp + 1) pre : Int) + 1 + ((cntL dp y : Nat) + (cntL dp no : Nat)) := by
          rw [cnt]
          unfold cntL
          omega
        rw [itV_ask, e4]
        unfold scV at e1 e2 ⊢
        simp -implicitDefEqProofs only [e_con, e_var, e_bor, e_bin, k_bin, k_bin2, e_cmp, k_cmp, k_cmp2, e_neg, k_neg, e_nt, k_nt, k_truth, k_optB, e_and, k_and, k_andT, k_andF, e_or, k_or, k_orT, k_orF, e_ite, k_iteT, k_iteF, e_chain, k_ch, k_ch2, k_ch3T, k_ch3F, e_tup, k_tup, e_lst, k_lst, e_ix, k_ix, k_ix2, e_sl, k_sl, k_sl2, k_sl3, e_call, k_call, e_blt, k_blt, e_mth, k_mth, k_mth2, e_isin, k_is, e_pick, k_pick, k_pick2, es_nil, es_cons, k_es, k_es2, o_none, o_some, k_o, c_none, c_some, i_seq, k_seqT, k_seqL, i_r1, k_r1, i_r2, k_r2, k_r3, i_zip, k_zip, k_zipT, k_zipL, i_enum, k_enum, s_asg, k_asg, s_own, k_own2, k_slotL, k_slotD, k_slotV, s_par, k_par, k_par2, s_frz, s_app, k_app, k_app2, s_ife, k_ifeT, k_ifeF, s_whl, k_w, k_wT, k_wF, k_wN, k_wR, s_ret, k_ret, s_exp, k_exp, s_setC, k_setC, k_cup0, k_cup1, s_ap, k_ap, k_ap2, k_ap3, s_rc, k_rc, ss_nil, ss_cons, k_ssN, k_ssR, finR_rt, finR_nx, pureR_some, varv_0, varv_s, borv_0, borv_0o, borv_s, truth, startP, List.map_cons, List.map_nil, List.replicate_succ, List.replicate_zero, List.cons_append, List.nil_append, Nat.reduceSub, Nat.reduceAdd, bindT, bindTs, optS_some, List.set_cons_succ, List.set_cons_zero, wipeP, mkTup_0, mkTup_1, mkTup_2, mkTup_3, mkTup_4, mkTup_5, mkTup_6, mkTup_7, mkTup_8, mkLst_0, mkLst_1, mkLst_2, mkLst_3, mkLst_4, mkLst_5, mkLst_6, mkLst_7, mkLst_8, mkLst_9, mkLst_10, mkLst_11, mkLst_12, mkLst_13, mkLst_14, mkLst_15, mkLst_16, binop, cmpop, blV, Option.map_some, isTy, bltop, Bool.not_true, Bool.not_false, item_0, item_1, item_2, item_3, item_c0, item_c1, Option.bind_some, List.getElem?_cons_zero, List.getElem?_cons_succ, if_true, if_false, Bool.false_eq_true, and_self, dat_int, dat_bl, dat_non, peq_int, peq_bl, peq_nonnon, Int.cast_ofNat_Int, Int.reduceEq, Bool.and_self, List.length_cons, List.length_nil, Int.reduceLT, Int.reduceLE, Int.reduceAdd, Int.reduceSub, Nat.reduceLT, Nat.reduceLeDiff, decide_true, decide_false, Bool.or_true, Bool.true_or, true_and, and_true, b__law_count_l0, ok_ask, peq_str, item_4, e1, e2]
  rw [show k + 1 + dp = (k + dp) + 1 by omega]
  refine call_ok rfl rfl ?_
  have e2 : execS (callK P (k + dp)) b__law_count_f0 [.val (scV its), .val (.int 0), .no] c' = .nx [.val (scV its), .val (.int (cntL dp its : Nat)), s2] c' := e
  simp -implicitDefEqProofs only [e_con, e_var, e_bor, e_bin, k_bin, k_bin2, e_cmp, k_cmp, k_cmp2, e_neg, k_neg, e_nt, k_nt, k_truth, k_optB, e_and, k_and, k_andT, k_andF, e_or, k_or, k_orT, k_orF, e_ite, k_iteT, k_iteF, e_chain, k_ch, k_ch2, k_ch3T, k_ch3F, e_tup, k_tup, e_lst, k_lst, e_ix, k_ix, k_ix2, e_sl, k_sl, k_sl2, k_sl3, e_call, k_call, e_blt, k_blt, e_mth, k_mth, k_mth2, e_isin, k_is, e_pick, k_pick, k_pick2, es_nil, es_cons, k_es, k_es2, o_none, o_some, k_o, c_none, c_some, i_seq, k_seqT, k_seqL, i_r1, k_r1, i_r2, k_r2, k_r3, i_zip, k_zip, k_zipT, k_zipL, i_enum, k_enum, s_asg, k_asg, s_own, k_own2, k_slotL, k_slotD, k_slotV, s_par, k_par, k_par2, s_frz, s_app, k_app, k_app2, s_ife, k_ifeT, k_ifeF, s_whl, k_w, k_wT, k_wF, k_wN, k_wR, s_ret, k_ret, s_exp, k_exp, s_setC, k_setC, k_cup0, k_cup1, s_ap, k_ap, k_ap2, k_ap3, s_rc, k_rc, ss_nil, ss_cons, k_ssN, k_ssR, finR_rt, finR_nx, pureR_some, varv_0, varv_s, borv_0, borv_0o, borv_s, truth, startP, List.map_cons, List.map_nil, List.replicate_succ, List.replicate_zero, List.cons_append, List.nil_append, Nat.reduceSub, Nat.reduceAdd, bindT, bindTs, optS_some, List.set_cons_succ, List.set_cons_zero, wipeP, mkTup_0, mkTup_1, mkTup_2, mkTup_3, mkTup_4, mkTup_5, mkTup_6, mkTup_7, mkTup_8, mkLst_0, mkLst_1, mkLst_2, mkLst_3, mkLst_4, mkLst_5, mkLst_6, mkLst_7, mkLst_8, mkLst_9, mkLst_10, mkLst_11, mkLst_12, mkLst_13, mkLst_14, mkLst_15, mkLst_16, binop, cmpop, blV, Option.map_some, isTy, bltop, Bool.not_true, Bool.not_false, item_0, item_1, item_2, item_3, item_c0, item_c1, Option.bind_some, List.getElem?_cons_zero, List.getElem?_cons_succ, if_true, if_false, Bool.false_eq_true, and_self, dat_int, dat_bl, dat_non, peq_int, peq_bl, peq_nonnon, Int.cast_ofNat_Int, Int.reduceEq, Bool.and_self, List.length_cons, List.length_nil, Int.reduceLT, Int.reduceLE, Int.reduceAdd, Int.reduceSub, Nat.reduceLT, Nat.reduceLeDiff, decide_true, decide_false, Bool.or_true, Bool.true_or, true_and, and_true, b__law_count, e2]
theorem count_all (named : Nat) : ∀ dp, CountS named dp
  | 0 => count_step named 0 fun _ z => by omega
  | dp + 1 => count_step named (dp + 1) fun dp' z => by
    obtain rfl : dp = dp' := by omega
    exact count_all named dp
theorem iok_up {named : Nat} : ∀ (dp : Nat) (it : It), IOk named dp it → IOk named (dp + 1) it ∧ cnt (dp + 1) it = cnt dp it := by
  intro dp
  induction dp with
  | zero => intro it h; cases it with
    | deed d => exact ⟨iok_deed.mpr (iok_deed.mp h), rfl⟩
    | ask => exact h.elim
  | succ dp ih => intro it h; cases it with
    | deed d => exact ⟨iok_deed.mpr (iok_deed.mp h), rfl⟩
    | ask p o y no =>
      obtain ⟨h1, h2, h3, hy, hno⟩ := h
      have e : ∀ its : List It, (∀ i ∈ its, IOk named dp i) → its.map (cnt (dp + 1)) = its.map (cnt dp) := fun its hi => List.map_congr_left fun i hm => (ih i (hi i hm)).2
      refine ⟨⟨h1, h2, h3, fun i hi => (ih i (hy i hi)).1, fun i hi => (ih i (hno i hi)).1⟩, ?_⟩
      rw [cnt, cnt, e y hy, e no hno]
/-! ### _law_items -/
def ItemsS (named deep : Nat) : Prop := ∀ (most k : Nat) (c : List PV), most ≤ 100 → Cup c → ∃ its c', callK P (k + 4 + deep) n__law_items [.cup, .int named, .int most, .int deep] c = .ok (scV its) c' ∧ Cup c' ∧ (∀ i ∈ its, IOk named deep i) ∧ its.length ≤ most
theorem some_other (k named p : Nat) (h2 : named ≤ 3) (hn : 2 ≤ named) (C : Nat → List PV → List PV → R PV) (e : Ex Nat) (env : PP.Env) (c : List PV) (hc : Cup c) (he : evalE C e env c = .ok (.lst (((List.range named).filter fun (j : Nat) => !decide ((j : Int) = p)).map fun (j : Nat) => PV.int (j : Int))) c) :
    ∃ o c', callK P (k + 2) n__law_some [.cup, .lst (((List.range named).filter fun (j : Nat) => !decide ((j : Int) = p)).map fun (j : Nat) => PV.int (j : Int))] c = .ok (.int (o : Nat)) c' ∧ Cup c' ∧ o < named ∧ p ≠ o := by
  have hlen : (((List.range named).filter fun (j : Nat) => !decide ((j : Int) = p)).map fun (j : Nat) => PV.int (j : Int)).length ≤ 3 := by
    rw [List.length_map]
    exact Nat.le_trans (List.length_filter_le _ _) (by rw [List.length_range]; exact h2)
  have hne : (((List.range named).filter fun (j : Nat) => !decide ((j : Int) = p)).map fun (j : Nat) => PV.int (j : Int)) ≠ [] := by
    intro z
    rw [List.map_eq_nil_iff, List.filter_eq_nil_iff] at z
    have hq : ∃ q, q < named ∧ q ≠ p := by
      by_cases h0 : p = 0
      · exact ⟨1, by omega, by omega⟩
      · exact ⟨0, by omega, by omega⟩
    obtain ⟨q, hq1, hq2⟩ := hq
    have := z q (List.mem_range.mpr hq1)
    simp at this
    omega
  obtain ⟨x, c3, e3, hc3, hx⟩ := f__law_some k _ c hc hne (by omega)
  obtain ⟨o, ho, rfl⟩ := List.mem_map.mp hx
  rw [List.mem_filter, List.mem_range] at ho
  refine ⟨o, c3, e3, hc3, ho.1, fun z => ?_⟩
  have := ho.2
  subst z
  simp at this
theorem items_step (named deep : Nat) (n1 : 1 ≤ named) (n2 : named ≤ 3) (ihd : ∀ d', deep = d' + 1 → ItemsS named d') : ItemsS named deep := by
  intro most k c hm hc
  obtain ⟨t, c1, e1, hc1, t1, t2⟩ := f__law_roll (k + 2 + deep) ((most : Int) + 1) c hc (by omega) (by omega)
  obtain ⟨t, rfl⟩ := Int.eq_ofNat_of_zero_le t1
  rw [show k + 2 + deep + 1 = k + 3 + deep by omega] at e1
  have okT := okR_s (i := t) (by omega) (by omega)
  obtain ⟨env', c', e, hc', acc, s5, s6, s7, s9, s10, rfl, hacc, hl⟩ := fr_count (C := callK P (k + 3 + deep)) (t := .name 5) (b := b__law_items_l0) (it := .range1 (.call n__law_roll [.var 0, .bin .add (.var 2) (.con (.int 1))])) (xs := rng 0 (t : Int)) (c0 := c) (c := c1)
    (I := fun m env c => Cup c ∧ ∃ acc s5 s6 s7 s9 s10, env = [.val .cup, .val (.int named), .val (.int most), .val (.int deep), .val (scV acc), s5, s6, s7, .no, s9, s10] ∧ (∀ i ∈ acc, IOk named deep i) ∧ acc.length + m ≤ most)
    (env := [.val .cup, .val (.int named), .val (.int most), .val (.int deep), .val (.tup []), .no, .no, .no, .no, .no, .no]) ⟨hc1, [], .no, .no, .no, .no, .no, rfl, (fun i hi => nomatch hi), by rw [rng_len]; simp; omega⟩ (by
      simp -implicitDefEqProofs only [e_con, e_var, e_bor, e_bin, k_bin, k_bin2, e_cmp, k_cmp, k_cmp2, e_neg, k_neg, e_nt, k_nt, k_truth, k_optB, e_and, k_and, k_andT, k_andF, e_or, k_or, k_orT, k_orF, e_ite, k_iteT, k_iteF, e_chain, k_ch, k_ch2, k_ch3T, k_ch3F, e_tup, k_tup, e_lst, k_lst, e_ix, k_ix, k_ix2, e_sl, k_sl, k_sl2, k_sl3, e_call, k_call, e_blt, k_blt, e_mth, k_mth, k_mth2, e_isin, k_is, e_pick, k_pick, k_pick2, es_nil, es_cons, k_es, k_es2, o_none, o_some, k_o, c_none, c_some, i_seq, k_seqT, k_seqL, i_r1, k_r1, i_r2, k_r2, k_r3, i_zip, k_zip, k_zipT, k_zipL, i_enum, k_enum, s_asg, k_asg, s_own, k_own2, k_slotL, k_slotD, k_slotV, s_par, k_par, k_par2, s_frz, s_app, k_app, k_app2, s_ife, k_ifeT, k_ifeF, s_whl, k_w, k_wT, k_wF, k_wN, k_wR, s_ret, k_ret, s_exp, k_exp, s_setC, k_setC, k_cup0, k_cup1, s_ap, k_ap, k_ap2, k_ap3, s_rc, k_rc, ss_nil, ss_cons, k_ssN, k_ssR, finR_rt, finR_nx, pureR_some, varv_0, varv_s, borv_0, borv_0o, borv_s, truth, startP, List.map_cons, List.map_nil, List.replicate_succ, List.replicate_zero, List.cons_append, List.nil_append, Nat.reduceSub, Nat.reduceAdd, bindT, bindTs, optS_some, List.set_cons_succ, List.set_cons_zero, wipeP, mkTup_0, mkTup_1, mkTup_2, mkTup_3, mkTup_4, mkTup_5, mkTup_6, mkTup_7, mkTup_8, mkLst_0, mkLst_1, mkLst_2, mkLst_3, mkLst_4, mkLst_5, mkLst_6, mkLst_7, mkLst_8, mkLst_9, mkLst_10, mkLst_11, mkLst_12, mkLst_13, mkLst_14, mkLst_15, mkLst_16, binop, cmpop, blV, Option.map_some, isTy, bltop, Bool.not_true, Bool.not_false, item_0, item_1, item_2, item_3, item_c0, item_c1, Option.bind_some, List.getElem?_cons_zero, List.getElem?_cons_succ, if_true, if_false, Bool.false_eq_true, and_self, dat_int, dat_bl, dat_non, peq_int, peq_bl, peq_nonnon, Int.cast_ofNat_Int, Int.reduceEq, Bool.and_self, List.length_cons, List.length_nil, Int.reduceLT, Int.reduceLE, Int.reduceAdd, Int.reduceSub, Nat.reduceLT, Nat.reduceLeDiff, decide_true, decide_false, Bool.or_true, Bool.true_or, true_and, and_true, e1, okT]) fun x hx m env c ⟨hc, acc, s5, s6, s7, s9, s10, he, hacc, hl⟩ => by
    subst he
    refine ⟨_, rfl, ?_⟩
    simp only [List.set_cons_succ, List.set_cons_zero]
    have put : ∀ it, mkTup (acc.map itV ++ [itV it]) = some (scV (acc ++ [it])) := fun it => by
      rw [mkTup_s (by rw [List.length_append, List.length_map, List.length_singleton]; unfold LIM; omega)]
      unfold scV
      rw [List.map_append]; rfl
    have okA : ∀ it, IOk named deep it → ∀ i ∈ acc ++ [it], IOk named deep i := fun it hit i hi => by
      rcases List.mem_append.mp hi with hi | hi
      · exact hacc i hi
      · rw [List.mem_singleton] at hi; rw [hi]; exact hit
    have lA : ∀ it, (acc ++ [it]).length + m ≤ most := fun it => by rw [List.length_append, List.length_singleton]; omega
    -- one deed more
    have deed : ∀ c, Cup c → ∃ d c', callK P (k + 3 + deep) n__law_deed [.cup, .int named] c = .ok (deedV d) c' ∧ Cup c' ∧ DOk named d := fun c hc => by
      rw [show k + 3 + deep = (k + deep) + 3 by omega]
      exact f__law_deed (k + deep) named n1 n2 c hc
    by_cases hn : (1 : Int) < named
    · by_cases hd : (0 : Int) < deep
      · obtain ⟨r, c2, e2, hc2, r1, r2⟩ := f__law_roll (k + 2 + deep) 4 c hc (by decide) (by decide)
        rw [show k + 2 + deep + 1 = k + 3 + deep by omega] at e2
        by_cases hr : r = 0
        · subst hr
          obtain ⟨p, c3, e3, hc3, p1, p2⟩ := f__law_roll (k + 2 + deep) named c2 hc2 (by omega) (by omega)
          obtain ⟨p, rfl⟩ := Int.eq_ofNat_of_zero_le p1
          rw [show k + 2 + deep + 1 = k + 3 + deep by omega] at e3
          have ec : evalE (callK P (k + 3 + deep)) b__law_items_c0 [.val .cup, .val (.int named), .val (.int most), .val (.int deep), .val (scV acc), .val x, .val (.int p), s7, .no, s9, s10] c3 = .ok (.lst (((List.range named).filter fun (j : Nat) => !decide ((j : Int) = p)).map fun (j : Nat) => PV.int (j : Int))) c3 := by
            refine comp_pure (List.range named) (fun (j : Nat) => PV.int (j : Int)) (fun (j : Nat) => !decide ((j : Int) = p)) (fun (j : Nat) => PV.int (j : Int)) ?_ (fun x hm => ⟨_, rfl, ?_, fun _ => ?_⟩) (by unfold LIM; rw [List.length_range]; omega)
            · have := okR_s (i := named) (by omega) (by omega)
              simp -implicitDefEqProofs only [e_con, e_var, e_bor, e_bin, k_bin, k_bin2, e_cmp, k_cmp, k_cmp2, e_neg, k_neg, e_nt, k_nt, k_truth, k_optB, e_and, k_and, k_andT, k_andF, e_or, k_or, k_orT, k_orF, e_ite, k_iteT, k_iteF, e_chain, k_ch, k_ch2, k_ch3T, k_ch3F, e_tup, k_tup, e_lst, k_lst, e_ix, k_ix, k_ix2, e_sl, k_sl, k_sl2, k_sl3, e_call, k_call, e_blt, k_blt, e_mth, k_mth, k_mth2, e_isin, k_is, e_pick, k_pick, k_pick2, es_nil, es_cons, k_es, k_es2, o_none, o_some, k_o, c_none, c_some, i_seq, k_seqT, k_seqL, i_r1, k_r1, i_r2, k_r2, k_r3, i_zip, k_zip, k_zipT, k_zipL, i_enum, k_enum, s_asg, k_asg, s_own, k_own2, k_slotL, k_slotD, k_slotV, s_par, k_par, k_par2, s_frz, s_app, k_app, k_app2, s_ife, k_ifeT, k_ifeF, s_whl, k_w, k_wT, k_wF, k_wN, k_wR, s_ret, k_ret, s_exp, k_exp, s_setC, k_setC, k_cup0, k_cup1, s_ap, k_ap, k_ap2, k_ap3, s_rc, k_rc, ss_nil, ss_cons, k_ssN, k_ssR, finR_rt, finR_nx, pureR_some, varv_0, varv_s, borv_0, borv_0o, borv_s, truth, startP, List.map_cons, List.map_nil, List.replicate_succ, List.replicate_zero, List.cons_append, List.nil_append, Nat.reduceSub, Nat.reduceAdd, bindT, bindTs, optS_some, List.set_cons_succ, List.set_cons_zero, wipeP, mkTup_0, mkTup_1, mkTup_2, mkTup_3, mkTup_4, mkTup_5, mkTup_6, mkTup_7, mkTup_8, mkLst_0, mkLst_1, mkLst_2, mkLst_3, mkLst_4, mkLst_5, mkLst_6, mkLst_7, mkLst_8, mkLst_9, mkLst_10, mkLst_11, mkLst_12, mkLst_13, mkLst_14, mkLst_15, mkLst_16, binop, cmpop, blV, Option.map_some, isTy, bltop, Bool.not_true, Bool.not_false, item_0, item_1, item_2, item_3, item_c0, item_c1, Option.bind_some, List.getElem?_cons_zero, List.getElem?_cons_succ, if_true, if_false, Bool.false_eq_true, and_self, dat_int, dat_bl, dat_non, peq_int, peq_bl, peq_nonnon, Int.cast_ofNat_Int, Int.reduceEq, Bool.and_self, List.length_cons, List.length_nil, Int.reduceLT, Int.reduceLE, Int.reduceAdd, Int.reduceSub, Nat.reduceLT, Nat.reduceLeDiff, decide_true, decide_false, Bool.or_true, Bool.true_or, true_and, and_true, this, rng0]
            · simp -implicitDefEqProofs only [e_con, e_var, e_bor, e_bin, k_bin, k_bin2, e_cmp, k_cmp, k_cmp2, e_neg, k_neg, e_nt, k_nt, k_truth, k_optB, e_and, k_and, k_andT, k_andF, e_or, k_or, k_orT, k_orF, e_ite, k_iteT, k_iteF, e_chain, k_ch, k_ch2, k_ch3T, k_ch3F, e_tup, k_tup, e_lst, k_lst, e_ix, k_ix, k_ix2, e_sl, k_sl, k_sl2, k_sl3, e_call, k_call, e_blt, k_blt, e_mth, k_mth, k_mth2, e_isin, k_is, e_pick, k_pick, k_pick2, es_nil, es_cons, k_es, k_es2, o_none, o_some, k_o, c_none, c_some, i_seq, k_seqT, k_seqL, i_r1, k_r1, i_r2, k_r2, k_r3, i_zip, k_zip, k_zipT, k_zipL, i_enum, k_enum, s_asg, k_asg, s_own, k_own2, k_slotL, k_slotD, k_slotV, s_par, k_par, k_par2, s_frz, s_app, k_app, k_app2, s_ife, k_ifeT, k_ifeF, s_whl, k_w, k_wT, k_wF, k_wN, k_wR, s_ret, k_ret, s_exp, k_exp, s_setC, k_setC, k_cup0, k_cup1, s_ap, k_ap, k_ap2, k_ap3, s_rc, k_rc, ss_nil, ss_cons, k_ssN, k_ssR, finR_rt, finR_nx, pureR_some, varv_0, varv_s, borv_0, borv_0o, borv_s, truth, startP, List.map_cons, List.map_nil, List.replicate_succ, List.replicate_zero, List.cons_append, List.nil_append, Nat.reduceSub, Nat.reduceAdd, bindT, bindTs, optS_some, List.set_cons_succ, List.set_cons_zero, wipeP, mkTup_0, mkTup_1, mkTup_2, mkTup_3, mkTup_4, mkTup_5, mkTup_6, mkTup_7, mkTup_8, mkLst_0, mkLst_1, mkLst_2, mkLst_3, mkLst_4, mkLst_5, mkLst_6, mkLst_7, mkLst_8, mkLst_9, mkLst_10, mkLst_11, mkLst_12, mkLst_13, mkLst_14, mkLst_15, mkLst_16, binop, cmpop, blV, Option.map_some, isTy, bltop, Bool.not_true, Bool.not_false, item_0, item_1, item_2, item_3, item_c0, item_c1, Option.bind_some, List.getElem?_cons_zero, List.getElem?_cons_succ, if_true, if_false, Bool.false_eq_true, and_self, dat_int, dat_bl, dat_non, peq_int, peq_bl, peq_nonnon, Int.cast_ofNat_Int, Int.reduceEq, Bool.and_self, List.length_cons, List.length_nil, Int.reduceLT, Int.reduceLE, Int.reduceAdd, Int.reduceSub, Nat.reduceLT, Nat.reduceLeDiff, decide_true, decide_false, Bool.or_true, Bool.true_or, true_and, and_true]
            · simp -implicitDefEqProofs only [e_con, e_var, e_bor, e_bin, k_bin, k_bin2, e_cmp, k_cmp, k_cmp2, e_neg, k_neg, e_nt, k_nt, k_truth, k_optB, e_and, k_and, k_andT, k_andF, e_or, k_or, k_orT, k_orF, e_ite, k_iteT, k_iteF, e_chain, k_ch, k_ch2, k_ch3T, k_ch3F, e_tup, k_tup, e_lst, k_lst, e_ix, k_ix, k_ix2, e_sl, k_sl, k_sl2, k_sl3, e_call, k_call, e_blt, k_blt, e_mth, k_mth, k_mth2, e_isin, k_is, e_pick, k_pick, k_pick2, es_nil, es_cons, k_es, k_es2, o_none, o_some, k_o, c_none, c_some, i_seq, k_seqT, k_seqL, i_r1, k_r1, i_r2, k_r2, k_r3, i_zip, k_zip, k_zipT, k_zipL, i_enum, k_enum, s_asg, k_asg, s_own, k_own2, k_slotL, k_slotD, k_slotV, s_par, k_par, k_par2, s_frz, s_app, k_app, k_app2, s_ife, k_ifeT, k_ifeF, s_whl, k_w, k_wT, k_wF, k_wN, k_wR, s_ret, k_ret, s_exp, k_exp, s_setC, k_setC, k_cup0, k_cup1, s_ap, k_ap, k_ap2, k_ap3, s_rc, k_rc, ss_nil, ss_cons, k_ssN, k_ssR, finR_rt, finR_nx, pureR_some, varv_0, varv_s, borv_0, borv_0o, borv_s, truth, startP, List.map_cons, List.map_nil, List.replicate_succ, List.replicate_zero, List.cons_append, List.nil_append, Nat.reduceSub, Nat.reduceAdd, bindT, bindTs, optS_some, List.set_cons_succ, List.set_cons_zero, wipeP, mkTup_0, mkTup_1, mkTup_2, mkTup_3, mkTup_4, mkTup_5, mkTup_6, mkTup_7, mkTup_8, mkLst_0, mkLst_1, mkLst_2, mkLst_3, mkLst_4, mkLst_5, mkLst_6, mkLst_7, mkLst_8, mkLst_9, mkLst_10, mkLst_11, mkLst_12, mkLst_13, mkLst_14, mkLst_15, mkLst_16, binop, cmpop, blV, Option.map_some, isTy, bltop, Bool.not_true, Bool.not_false, item_0, item_1, item_2, item_3, item_c0, item_c1, Option.bind_some, List.getElem?_cons_zero, List.getElem?_cons_succ, if_true, if_false, Bool.false_eq_true, and_self, dat_int, dat_bl, dat_non, peq_int, peq_bl, peq_nonnon, Int.cast_ofNat_Int, Int.reduceEq, Bool.and_self, List.length_cons, List.length_nil, Int.reduceLT, Int.reduceLE, Int.reduceAdd, Int.reduceSub, Nat.reduceLT, Nat.reduceLeDiff, decide_true, decide_false, Bool.or_true, Bool.true_or, true_and, and_true]
          obtain ⟨o, c4, e4, hc4, ho1, ho2⟩ := some_other (k + 1 + deep) named p n2 (by omega) _ _ _ c3 hc3 ec
          rw [show k + 1 + deep + 2 = k + 3 + deep by omega] at e4
          obtain ⟨d', hd'⟩ : ∃ d', deep = d' + 1 := ⟨deep - 1, by omega⟩
          subst hd'
          have em : ((most : Int) / 2) = ((most / 2 : Nat) : Int) := by omega
          have ed : (((d' + 1 : Nat) : Int) - 1) = ((d' : Nat) : Int) := by omega
          obtain ⟨ys, c5, e5, hc5, hy, _⟩ := ihd d' rfl (most / 2) k c4 (by omega) hc4
          obtain ⟨ns, c6, e6, hc6, hno, _⟩ := ihd d' rfl (most / 2) k c5 (by omega) hc5
          rw [show k + 4 + d' = k + 3 + (d' + 1) by omega] at e5 e6
          have okI : IOk named (d' + 1) (.ask p o ys ns) := ⟨by omega, ho1, ho2, hy, hno⟩
          have e7 := put (.ask p o ys ns)
          rw [itV_ask] at e7
          refine ⟨[.val .cup, .val (.int named), .val (.int most), .val (.int ((d' + 1 : Nat) : Int)), .val (scV (acc ++ [.ask p o ys ns])), .val x, .val (.int p), .val (.int (o : Nat)), .no, .val (scV ys), .val (scV ns)], c6, ?_, hc6, acc ++ [.ask p o ys ns], _, _, _, _, _, rfl, okA _ okI, lA _⟩
          unfold scV at e5 e6 ec ⊢
          unfold scV at e7
          simp -implicitDefEqProofs only [e_con, e_var, e_bor, e_bin, k_bin, k_bin2, e_cmp, k_cmp, k_cmp2, e_neg, k_neg, e_nt, k_nt, k_truth, k_optB, e_and, k_and, k_andT, k_andF, e_or, k_or, k_orT, k_orF, e_ite, k_iteT, k_iteF, e_chain, k_ch, k_ch2, k_ch3T, k_ch3F, e_tup, k_tup, e_lst, k_lst, e_ix, k_ix, k_ix2, e_sl, k_sl, k_sl2, k_sl3, e_call, k_call, e_blt, k_blt, e_mth, k_mth, k_mth2, e_isin, k_is, e_pick, k_pick, k_pick2, es_nil, es_cons, k_es, k_es2, o_none, o_some, k_o, c_none, c_some, i_seq, k_seqT, k_seqL, i_r1, k_r1, i_r2, k_r2, k_r3, i_zip, k_zip, k_zipT, k_zipL, i_enum, k_enum, s_asg, k_asg, s_own, k_own2, k_slotL, k_slotD, k_slotV, s_par, k_par, k_par2, s_frz, s_app, k_app, k_app2, s_ife, k_ifeT, k_ifeF, s_whl, k_w, k_wT, k_wF, k_wN, k_wR, s_ret, k_ret, s_exp, k_exp, s_setC, k_setC, k_cup0, k_cup1, s_ap, k_ap, k_ap2, k_ap3, s_rc, k_rc, ss_nil, ss_cons, k_ssN, k_ssR, finR_rt, finR_nx, pureR_some, varv_0, varv_s, borv_0, borv_0o, borv_s, truth, startP, List.map_cons, List.map_nil, List.replicate_succ, List.replicate_zero, List.cons_append, List.nil_append, Nat.reduceSub, Nat.reduceAdd, bindT, bindTs, optS_some, List.set_cons_succ, List.set_cons_zero, wipeP, mkTup_0, mkTup_1, mkTup_2, mkTup_3, mkTup_4, mkTup_5, mkTup_6, mkTup_7, mkTup_8, mkLst_0, mkLst_1, mkLst_2, mkLst_3, mkLst_4, mkLst_5, mkLst_6, mkLst_7, mkLst_8, mkLst_9, mkLst_10, mkLst_11, mkLst_12, mkLst_13, mkLst_14, mkLst_15, mkLst_16, binop, cmpop, blV, Option.map_some, isTy, bltop, Bool.not_true, Bool.not_false, item_0, item_1, item_2, item_3, item_c0, item_c1, Option.bind_some, List.getElem?_cons_zero, List.getElem?_cons_succ, if_true, if_false, Bool.false_eq_true, and_self, dat_int, dat_bl, dat_non, peq_int, peq_bl, peq_nonnon, Int.cast_ofNat_Int, Int.reduceEq, Bool.and_self, List.length_cons, List.length_nil, Int.reduceLT, Int.reduceLE, Int.reduceAdd, Int.reduceSub, Nat.reduceLT, Nat.reduceLeDiff, decide_true, decide_false, Bool.or_true, Bool.true_or, true_and, and_true, b__law_items_l0, hn, hd, e2, e3, ec, e4, em, ed, e5, e6, e7]
        · obtain ⟨d, c3, e3, hc3, hok⟩ := deed c2 hc2
          have e7 := put (.deed d)
          rw [itV_deed] at e7
          refine ⟨[.val .cup, .val (.int named), .val (.int most), .val (.int deep), .val (scV (acc ++ [.deed d])), .val x, s6, s7, .no, s9, s10], c3, ?_, hc3, acc ++ [.deed d], _, _, _, _, _, rfl, okA _ (iok_deed.mpr hok), lA _⟩
          unfold scV at e7 ⊢
          simp -implicitDefEqProofs only [e_con, e_var, e_bor, e_bin, k_bin, k_bin2, e_cmp, k_cmp, k_cmp2, e_neg, k_neg, e_nt, k_nt, k_truth, k_optB, e_and, k_and, k_andT, k_andF, e_or, k_or, k_orT, k_orF, e_ite, k_iteT, k_iteF, e_chain, k_ch, k_ch2, k_ch3T, k_ch3F, e_tup, k_tup, e_lst, k_lst, e_ix, k_ix, k_ix2, e_sl, k_sl, k_sl2, k_sl3, e_call, k_call, e_blt, k_blt, e_mth, k_mth, k_mth2, e_isin, k_is, e_pick, k_pick, k_pick2, es_nil, es_cons, k_es, k_es2, o_none, o_some, k_o, c_none, c_some, i_seq, k_seqT, k_seqL, i_r1, k_r1, i_r2, k_r2, k_r3, i_zip, k_zip, k_zipT, k_zipL, i_enum, k_enum, s_asg, k_asg, s_own, k_own2, k_slotL, k_slotD, k_slotV, s_par, k_par, k_par2, s_frz, s_app, k_app, k_app2, s_ife, k_ifeT, k_ifeF, s_whl, k_w, k_wT, k_wF, k_wN, k_wR, s_ret, k_ret, s_exp, k_exp, s_setC, k_setC, k_cup0, k_cup1, s_ap, k_ap, k_ap2, k_ap3, s_rc, k_rc, ss_nil, ss_cons, k_ssN, k_ssR, finR_rt, finR_nx, pureR_some, varv_0, varv_s, borv_0, borv_0o, borv_s, truth, startP, List.map_cons, List.map_nil, List.replicate_succ, List.replicate_zero, List.cons_append, List.nil_append, Nat.reduceSub, Nat.reduceAdd, bindT, bindTs, optS_some, List.set_cons_succ, List.set_cons_zero, wipeP, mkTup_0, mkTup_1, mkTup_2, mkTup_3, mkTup_4, mkTup_5, mkTup_6, mkTup_7, mkTup_8, mkLst_0, mkLst_1, mkLst_2, mkLst_3, mkLst_4, mkLst_5, mkLst_6, mkLst_7, mkLst_8, mkLst_9, mkLst_10, mkLst_11, mkLst_12, mkLst_13, mkLst_14, mkLst_15, mkLst_16, binop, cmpop, blV, Option.map_some, isTy, bltop, Bool.not_true, Bool.not_false, item_0, item_1, item_2, item_3, item_c0, item_c1, Option.bind_some, List.getElem?_cons_zero, List.getElem?_cons_succ, if_true, if_false, Bool.false_eq_true, and_self, dat_int, dat_bl, dat_non, peq_int, peq_bl, peq_nonnon, Int.cast_ofNat_Int, Int.reduceEq, Bool.and_self, List.length_cons, List.length_nil, Int.reduceLT, Int.reduceLE, Int.reduceAdd, Int.reduceSub, Nat.reduceLT, Nat.reduceLeDiff, decide_true, decide_false, Bool.or_true, Bool.true_or, true_and, and_true, b__law_items_l0, hn, hd, e2, hr, e3, e7]
      · obtain ⟨d, c3, e3, hc3, hok⟩ := deed c hc
        have e7 := put (.deed d)
        rw [itV_deed] at e7
        refine ⟨[.val .cup, .val (.int named), .val (.int most), .val (.int deep), .val (scV (acc ++ [.deed d])), .val x, s6, s7, .no, s9, s10], c3, ?_, hc3, acc ++ [.deed d], _, _, _, _, _, rfl, okA _ (iok_deed.mpr hok), lA _⟩
        unfold scV at e7 ⊢
        simp -implicitDefEqProofs only [e_con, e_var, e_bor, e_bin, k_bin, k_bin2, e_cmp, k_cmp, k_cmp2, e_neg, k_neg, e_nt, k_nt, k_truth, k_optB, e_and, k_and, k_andT, k_andF, e_or, k_or, k_orT, k_orF, e_ite, k_iteT, k_iteF, e_chain, k_ch, k_ch2, k_ch3T, k_ch3F, e_tup, k_tup, e_lst, k_lst, e_ix, k_ix, k_ix2, e_sl, k_sl, k_sl2, k_sl3, e_call, k_call, e_blt, k_blt, e_mth, k_mth, k_mth2, e_isin, k_is, e_pick, k_pick, k_pick2, es_nil, es_cons, k_es, k_es2, o_none, o_some, k_o, c_none, c_some, i_seq, k_seqT, k_seqL, i_r1, k_r1, i_r2, k_r2, k_r3, i_zip, k_zip, k_zipT, k_zipL, i_enum, k_enum, s_asg, k_asg, s_own, k_own2, k_slotL, k_slotD, k_slotV, s_par, k_par, k_par2, s_frz, s_app, k_app, k_app2, s_ife, k_ifeT, k_ifeF, s_whl, k_w, k_wT, k_wF, k_wN, k_wR, s_ret, k_ret, s_exp, k_exp, s_setC, k_setC, k_cup0, k_cup1, s_ap, k_ap, k_ap2, k_ap3, s_rc, k_rc, ss_nil, ss_cons, k_ssN, k_ssR, finR_rt, finR_nx, pureR_some, varv_0, varv_s, borv_0, borv_0o, borv_s, truth, startP, List.map_cons, List.map_nil, List.replicate_succ, List.replicate_zero, List.cons_append, List.nil_append, Nat.reduceSub, Nat.reduceAdd, bindT, bindTs, optS_some, List.set_cons_succ, List.set_cons_zero, wipeP, mkTup_0, mkTup_1, mkTup_2, mkTup_3, mkTup_4, mkTup_5, mkTup_6, mkTup_7, mkTup_8, mkLst_0, mkLst_1, mkLst_2, mkLst_3, mkLst_4, mkLst_5, mkLst_6, mkLst_7, mkLst_8, mkLst_9, mkLst_10, mkLst_11, mkLst_12, mkLst_13, mkLst_14, mkLst_15, mkLst_16, binop, cmpop, blV, Option.map_some, isTy, bltop, Bool.not_true, Bool.not_false, item_0, item_1, item_2, item_3, item_c0, item_c1, Option.bind_some, List.getElem?_cons_zero, List.getElem?_cons_succ, if_true, if_false, Bool.false_eq_true, and_self, dat_int, dat_bl, dat_non, peq_int, peq_bl, peq_nonnon, Int.cast_ofNat_Int, Int.reduceEq, Bool.and_self, List.length_cons, List.length_nil, Int.reduceLT, Int.reduceLE, Int.reduceAdd, Int.reduceSub, Nat.reduceLT, Nat.reduceLeDiff, decide_true, decide_false, Bool.or_true, Bool.true_or, true_and, and_true, b__law_items_l0, hn, hd, e3, e7]
    · obtain ⟨d, c3, e3, hc3, hok⟩ := deed c hc
      have e7 := put (.deed d)
      rw [itV_deed] at e7
      refine ⟨[.val .cup, .val (.int named), .val (.int most), .val (.int deep), .val (scV (acc ++ [.deed d])), .val x, s6, s7, .no, s9, s10], c3, ?_, hc3, acc ++ [.deed d], _, _, _, _, _, rfl, okA _ (iok_deed.mpr hok), lA _⟩
      unfold scV at e7 ⊢
      simp -implicitDefEqProofs only [e_con, e_var, e_bor, e_bin, k_bin, k_bin2, e_cmp, k_cmp, k_cmp2, e_neg, k_neg, e_nt, k_nt, k_truth, k_optB, e_and, k_and, k_andT, k_andF, e_or, k_or, k_orT, k_orF, e_ite, k_iteT, k_iteF, e_chain, k_ch, k_ch2, k_ch3T, k_ch3F, e_tup, k_tup, e_lst, k_lst, e_ix, k_ix, k_ix2, e_sl, k_sl, k_sl2, k_sl3, e_call, k_call, e_blt, k_blt, e_mth, k_mth, k_mth2, e_isin, k_is, e_pick, k_pick, k_pick2, es_nil, es_cons, k_es, k_es2, o_none, o_some, k_o, c_none, c_some, i_seq, k_seqT, k_seqL, i_r1, k_r1, i_r2, k_r2, k_r3, i_zip, k_zip, k_zipT, k_zipL, i_enum, k_enum, s_asg, k_asg, s_own, k_own2, k_slotL, k_slotD, k_slotV, s_par, k_par, k_par2, s_frz, s_app, k_app, k_app2, s_ife, k_ifeT, k_ifeF, s_whl, k_w, k_wT, k_wF, k_wN, k_wR, s_ret, k_ret, s_exp, k_exp, s_setC, k_setC, k_cup0, k_cup1, s_ap, k_ap, k_ap2, k_ap3, s_rc, k_rc, ss_nil, ss_cons, k_ssN, k_ssR, finR_rt, finR_nx, pureR_some, varv_0, varv_s, borv_0, borv_0o, borv_s, truth, startP, List.map_cons, List.map_nil, List.replicate_succ, List.replicate_zero, List.cons_append, List.nil_append, Nat.reduceSub, Nat.reduceAdd, bindT, bindTs, optS_some, List.set_cons_succ, List.set_cons_zero, wipeP, mkTup_0, mkTup_1, mkTup_2, mkTup_3, mkTup_4, mkTup_5, mkTup_6, mkTup_7, mkTup_8, mkLst_0, mkLst_1, mkLst_2, mkLst_3, mkLst_4, mkLst_5, mkLst_6, mkLst_7, mkLst_8, mkLst_9, mkLst_10, mkLst_11, mkLst_12, mkLst_13, mkLst_14, mkLst_15, mkLst_16, binop, cmpop, blV, Option.map_some, isTy, bltop, Bool.not_true, Bool.not_false, item_0, item_1, item_2, item_3, item_c0, item_c1, Option.bind_some, List.getElem?_cons_zero, List.getElem?_cons_succ, if_true, if_false, Bool.false_eq_true, and_self, dat_int, dat_bl, dat_non, peq_int, peq_bl, peq_nonnon, Int.cast_ofNat_Int, Int.reduceEq, Bool.and_self, List.length_cons, List.length_nil, Int.reduceLT, Int.reduceLE, Int.reduceAdd, Int.reduceSub, Nat.reduceLT, Nat.reduceLeDiff, decide_true, decide_false, Bool.or_true, Bool.true_or, true_and, and_true, b__law_items_l0, hn, e3, e7]
  refine ⟨acc, c', ?_, hc', hacc, by omega⟩
  rw [show k + 4 + deep = (k + 3 + deep) + 1 by omega]
  refine call_ok rfl rfl ?_
  have e2 : execS (callK P (k + 3 + deep)) b__law_items_f0 [.val .cup, .val (.int named), .val (.int most), .val (.int deep), .val (.tup []), .no, .no, .no, .no, .no, .no] c = .nx [.val .cup, .val (.int named), .val (.int most), .val (.int deep), .val (scV acc), s5, s6, s7, .no, s9, s10] c' := e
  simp -implicitDefEqProofs only [e_con, e_var, e_bor, e_bin, k_bin, k_bin2, e_cmp, k_cmp, k_cmp2, e_neg, k_neg, e_nt, k_nt, k_truth, k_optB, e_and, k_and, k_andT, k_andF, e_or, k_or, k_orT, k_orF, e_ite, k_iteT, k_iteF, e_chain, k_ch, k_ch2, k_ch3T, k_ch3F, e_tup, k_tup, e_lst, k_lst, e_ix, k_ix, k_ix2, e_sl, k_sl, k_sl2, k_sl3, e_call, k_call, e_blt, k_blt, e_mth, k_mth, k_mth2, e_isin, k_is, e_pick, k_pick, k_pick2, es_nil, es_cons, k_es, k_es2, o_none, o_some, k_o, c_none, c_some, i_seq, k_seqT, k_seqL, i_r1, k_r1, i_r2, k_r2, k_r3, i_zip, k_zip, k_zipT, k_zipL, i_enum, k_enum, s_asg, k_asg, s_own, k_own2, k_slotL, k_slotD, k_slotV, s_par, k_par, k_par2, s_frz, s_app, k_app, k_app2, s_ife, k_ifeT, k_ifeF, s_whl, k_w, k_wT, k_wF, k_wN, k_wR, s_ret, k_ret, s_exp, k_exp, s_setC, k_setC, k_cup0, k_cup1, s_ap, k_ap, k_ap2, k_ap3, s_rc, k_rc, ss_nil, ss_cons, k_ssN, k_ssR, finR_rt, finR_nx, pureR_some, varv_0, varv_s, borv_0, borv_0o, borv_s, truth, startP, List.map_cons, List.map_nil, List.replicate_succ, List.replicate_zero, List.cons_append, List.nil_append, Nat.reduceSub, Nat.reduceAdd, bindT, bindTs, optS_some, List.set_cons_succ, List.set_cons_zero, wipeP, mkTup_0, mkTup_1, mkTup_2, mkTup_3, mkTup_4, mkTup_5, mkTup_6, mkTup_7, mkTup_8, mkLst_0, mkLst_1, mkLst_2, mkLst_3, mkLst_4, mkLst_5, mkLst_6, mkLst_7, mkLst_8, mkLst_9, mkLst_10, mkLst_11, mkLst_12, mkLst_13, mkLst_14, mkLst_15, mkLst_16, binop, cmpop, blV, Option.map_some, isTy, bltop, Bool.not_true, Bool.not_false, item_0, item_1, item_2, item_3, item_c0, item_c1, Option.bind_some, List.getElem?_cons_zero, List.getElem?_cons_succ, if_true, if_false, Bool.false_eq_true, and_self, dat_int, dat_bl, dat_non, peq_int, peq_bl, peq_nonnon, Int.cast_ofNat_Int, Int.reduceEq, Bool.and_self, List.length_cons, List.length_nil, Int.reduceLT, Int.reduceLE, Int.reduceAdd, Int.reduceSub, Nat.reduceLT, Nat.reduceLeDiff, decide_true, decide_false, Bool.or_true, Bool.true_or, true_and, and_true, b__law_items, e2]
theorem items_all (named : Nat) (n1 : 1 ≤ named) (n2 : named ≤ 3) : ∀ deep, ItemsS named deep
  | 0 => items_step named 0 n1 n2 fun _ z => by omega
  | d + 1 => items_step named (d + 1) n1 n2 fun d' z => by
    obtain rfl : d = d' := by omega
    exact items_all named n1 n2 d
end K09

set_option Elab.async false
set_option linter.all false
set_option maxRecDepth 100000
/-! K09S: the law. -/
namespace K09
open PySem PP
theorem cntL_up {named dp : Nat} {its : List It} (h : ∀ i ∈ its, IOk named dp i) : cntL (dp + 1) its = cntL dp its := by
  unfold cntL
  rw [List.map_congr_left fun i hm => (iok_up dp i (h i hm)).2]
theorem cut1t {named : Nat} (c : List PV) (x : It) (r : List It) : slice (scV (x :: r)) (some 1) none = some (scV r) := by
  unfold scV
  rw [slice, cut1]
  rfl
theorem script_loop (k named : Nat) (a b : PV) (c : List PV) : ∀ (its : List It) (m : Nat), (∀ i ∈ its, IOk named 3 i) → ∃ r, (∀ i ∈ r, IOk named 3 i) ∧ cntL 3 r ≤ 30 ∧ kW (callK P (k + 4)) (.cmp .gt (.call n__law_count [.var 4]) (.con (.int 30))) b__law_script_l0 (m + its.length + 1) [.val .cup, .val (.int named), .val a, .val b, .val (scV its)] c = .nx [.val .cup, .val (.int named), .val a, .val b, .val (scV r)] c
  | [], m, h => by
    refine ⟨[], h, by decide, ?_⟩
    have e1 : callK P (k + 4) n__law_count [scV []] c = .ok (.int (cntL 3 [] : Nat)) c := count_all named 3 [] h k c
    have e2 : ¬ (30 : Int) < (cntL 3 [] : Nat) := by decide
    simp -implicitDefEqProofs only [e_con, e_var, e_bor, e_bin, k_bin, k_bin2, e_cmp, k_cmp, k_cmp2, e_neg, k_neg, e_nt, k_nt, k_truth, k_optB, e_and, k_and, k_andT, k_andF, e_or, k_or, k_orT, k_orF, e_ite, k_iteT, k_iteF, e_chain, k_ch, k_ch2, k_ch3T, k_ch3F, e_tup, k_tup, e_lst, k_lst, e_ix, k_ix, k_ix2, e_sl, k_sl, k_sl2, k_sl3, e_call, k_call, e_blt, k_blt, e_mth, k_mth, k_mth2, e_isin, k_is, e_pick, k_pick, k_pick2, es_nil, es_cons, k_es, k_es2, o_none, o_some, k_o, c_none, c_some, i_seq, k_seqT, k_seqL, i_r1, k_r1, i_r2, k_r2, k_r3, i_zip, k_zip, k_zipT, k_zipL, i_enum, k_enum, s_asg, k_asg, s_own, k_own2, k_slotL, k_slotD, k_slotV, s_par, k_par, k_par2, s_frz, s_app, k_app, k_app2, s_ife, k_ifeT, k_ifeF, s_whl, k_w, k_wT, k_wF, k_wN, k_wR, s_ret, k_ret, s_exp, k_exp, s_setC, k_setC, k_cup0, k_cup1, s_ap, k_ap, k_ap2, k_ap3, s_rc, k_rc, ss_nil, ss_cons, k_ssN, k_ssR, finR_rt, finR_nx, pureR_some, varv_0, varv_s, borv_0, borv_0o, borv_s, truth, startP, List.map_cons, List.map_nil, List.replicate_succ, List.replicate_zero, List.cons_append, List.nil_append, Nat.reduceSub, Nat.reduceAdd, bindT, bindTs, optS_some, List.set_cons_succ, List.set_cons_zero, wipeP, mkTup_0, mkTup_1, mkTup_2, mkTup_3, mkTup_4, mkTup_5, mkTup_6, mkTup_7, mkTup_8, mkLst_0, mkLst_1, mkLst_2, mkLst_3, mkLst_4, mkLst_5, mkLst_6, mkLst_7, mkLst_8, mkLst_9, mkLst_10, mkLst_11, mkLst_12, mkLst_13, mkLst_14, mkLst_15, mkLst_16, binop, cmpop, blV, Option.map_some, isTy, bltop, Bool.not_true, Bool.not_false, item_0, item_1, item_2, item_3, item_c0, item_c1, Option.bind_some, List.getElem?_cons_zero, List.getElem?_cons_succ, if_true, if_false, Bool.false_eq_true, and_self, dat_int, dat_bl, dat_non, peq_int, peq_bl, peq_nonnon, Int.cast_ofNat_Int, Int.reduceEq, Bool.and_self, List.length_cons, List.length_nil, Int.reduceLT, Int.reduceLE, Int.reduceAdd, Int.reduceSub, Nat.reduceLT, Nat.reduceLeDiff, decide_true, decide_false, Bool.or_true, Bool.true_or, true_and, and_true, e1, e2]
  | x :: r, m, h => by
    have e1 : callK P (k + 4) n__law_count [scV (x :: r)] c = .ok (.int (cntL 3 (x :: r) : Nat)) c := count_all named 3 (x :: r) h k c
    by_cases hc : (30 : Int) < (cntL 3 (x :: r) : Nat)
    · obtain ⟨r', h1, h2, e⟩ := script_loop k named a b c r m fun i hi => h i (List.mem_cons_of_mem _ hi)
      refine ⟨r', h1, h2, ?_⟩
      rw [List.length_cons, show m + (r.length + 1) + 1 = (m + r.length + 1) + 1 by omega]
      generalize m + r.length + 1 = N at e ⊢
      rw [k_w]
      have e3 := cut1t (named := named) c x r
      unfold b__law_script_l0 at e ⊢
      generalize hG : kW (callK P (k + 4)) (.cmp .gt (.call n__law_count [.var 4]) (.con (.int 30))) _ N = G at e
      simp -implicitDefEqProofs only [e_con, e_var, e_bor, e_bin, k_bin, k_bin2, e_cmp, k_cmp, k_cmp2, e_neg, k_neg, e_nt, k_nt, k_truth, k_optB, e_and, k_and, k_andT, k_andF, e_or, k_or, k_orT, k_orF, e_ite, k_iteT, k_iteF, e_chain, k_ch, k_ch2, k_ch3T, k_ch3F, e_tup, k_tup, e_lst, k_lst, e_ix, k_ix, k_ix2, e_sl, k_sl, k_sl2, k_sl3, e_call, k_call, e_blt, k_blt, e_mth, k_mth, k_mth2, e_isin, k_is, e_pick, k_pick, k_pick2, es_nil, es_cons, k_es, k_es2, o_none, o_some, k_o, c_none, c_some, i_seq, k_seqT, k_seqL, i_r1, k_r1, i_r2, k_r2, k_r3, i_zip, k_zip, k_zipT, k_zipL, i_enum, k_enum, s_asg, k_asg, s_own, k_own2, k_slotL, k_slotD, k_slotV, s_par, k_par, k_par2, s_frz, s_app, k_app, k_app2, s_ife, k_ifeT, k_ifeF, s_whl, k_w, k_wT, k_wF, k_wN, k_wR, s_ret, k_ret, s_exp, k_exp, s_setC, k_setC, k_cup0, k_cup1, s_ap, k_ap, k_ap2, k_ap3, s_rc, k_rc, ss_nil, ss_cons, k_ssN, k_ssR, finR_rt, finR_nx, pureR_some, varv_0, varv_s, borv_0, borv_0o, borv_s, truth, startP, List.map_cons, List.map_nil, List.replicate_succ, List.replicate_zero, List.cons_append, List.nil_append, Nat.reduceSub, Nat.reduceAdd, bindT, bindTs, optS_some, List.set_cons_succ, List.set_cons_zero, wipeP, mkTup_0, mkTup_1, mkTup_2, mkTup_3, mkTup_4, mkTup_5, mkTup_6, mkTup_7, mkTup_8, mkLst_0, mkLst_1, mkLst_2, mkLst_3, mkLst_4, mkLst_5, mkLst_6, mkLst_7, mkLst_8, mkLst_9, mkLst_10, mkLst_11, mkLst_12, mkLst_13, mkLst_14, mkLst_15, mkLst_16, binop, cmpop, blV, Option.map_some, isTy, bltop, Bool.not_true, Bool.not_false, item_0, item_1, item_2, item_3, item_c0, item_c1, Option.bind_some, List.getElem?_cons_zero, List.getElem?_cons_succ, if_true, if_false, Bool.false_eq_true, and_self, dat_int, dat_bl, dat_non, peq_int, peq_bl, peq_nonnon, Int.cast_ofNat_Int, Int.reduceEq, Bool.and_self, List.length_cons, List.length_nil, Int.reduceLT, Int.reduceLE, Int.reduceAdd, Int.reduceSub, Nat.reduceLT, Nat.reduceLeDiff, decide_true, decide_false, Bool.or_true, Bool.true_or, true_and, and_true, e1, hc, e3]
      rw [hG]
      exact e
    · refine ⟨x :: r, h, by omega, ?_⟩
      simp -implicitDefEqProofs only [e_con, e_var, e_bor, e_bin, k_bin, k_bin2, e_cmp, k_cmp, k_cmp2, e_neg, k_neg, e_nt, k_nt, k_truth, k_optB, e_and, k_and, k_andT, k_andF, e_or, k_or, k_orT, k_orF, e_ite, k_iteT, k_iteF, e_chain, k_ch, k_ch2, k_ch3T, k_ch3F, e_tup, k_tup, e_lst, k_lst, e_ix, k_ix, k_ix2, e_sl, k_sl, k_sl2, k_sl3, e_call, k_call, e_blt, k_blt, e_mth, k_mth, k_mth2, e_isin, k_is, e_pick, k_pick, k_pick2, es_nil, es_cons, k_es, k_es2, o_none, o_some, k_o, c_none, c_some, i_seq, k_seqT, k_seqL, i_r1, k_r1, i_r2, k_r2, k_r3, i_zip, k_zip, k_zipT, k_zipL, i_enum, k_enum, s_asg, k_asg, s_own, k_own2, k_slotL, k_slotD, k_slotV, s_par, k_par, k_par2, s_frz, s_app, k_app, k_app2, s_ife, k_ifeT, k_ifeF, s_whl, k_w, k_wT, k_wF, k_wN, k_wR, s_ret, k_ret, s_exp, k_exp, s_setC, k_setC, k_cup0, k_cup1, s_ap, k_ap, k_ap2, k_ap3, s_rc, k_rc, ss_nil, ss_cons, k_ssN, k_ssR, finR_rt, finR_nx, pureR_some, varv_0, varv_s, borv_0, borv_0o, borv_s, truth, startP, List.map_cons, List.map_nil, List.replicate_succ, List.replicate_zero, List.cons_append, List.nil_append, Nat.reduceSub, Nat.reduceAdd, bindT, bindTs, optS_some, List.set_cons_succ, List.set_cons_zero, wipeP, mkTup_0, mkTup_1, mkTup_2, mkTup_3, mkTup_4, mkTup_5, mkTup_6, mkTup_7, mkTup_8, mkLst_0, mkLst_1, mkLst_2, mkLst_3, mkLst_4, mkLst_5, mkLst_6, mkLst_7, mkLst_8, mkLst_9, mkLst_10, mkLst_11, mkLst_12, mkLst_13, mkLst_14, mkLst_15, mkLst_16, binop, cmpop, blV, Option.map_some, isTy, bltop, Bool.not_true, Bool.not_false, item_0, item_1, item_2, item_3, item_c0, item_c1, Option.bind_some, List.getElem?_cons_zero, List.getElem?_cons_succ, if_true, if_false, Bool.false_eq_true, and_self, dat_int, dat_bl, dat_non, peq_int, peq_bl, peq_nonnon, Int.cast_ofNat_Int, Int.reduceEq, Bool.and_self, List.length_cons, List.length_nil, Int.reduceLT, Int.reduceLE, Int.reduceAdd, Int.reduceSub, Nat.reduceLT, Nat.reduceLeDiff, decide_true, decide_false, Bool.or_true, Bool.true_or, true_and, and_true, e1, hc]
theorem f__law_script (k named : Nat) (n1 : 1 ≤ named) (n2 : named ≤ 3) (c : List PV) (hc : Cup c) : ∃ its c', callK P (k + 8) n__law_script [.cup, .int named, .int 6, .int 3] c = .ok (scV its) c' ∧ Cup c' ∧ SOk named its := by
  have hw : WB = 999980 := rfl
  obtain ⟨its, c1, e1, hc1, h1, hl⟩ := items_all named n1 n2 3 6 k c (by decide) hc
  have e1 : callK P (k + 7) n__law_items [.cup, .int named, .int 6, .int 3] c = .ok (scV its) c1 := e1
  obtain ⟨r, h2, h3, e2⟩ := script_loop (k + 3) named (.int 6) (.int 3) c1 its (WB + 19 - its.length) h1
  rw [show WB + 19 - its.length + its.length + 1 = WB + 20 by omega] at e2
  have e3 : execS (callK P (k + 7)) b__law_script_w0 [.val .cup, .val (.int named), .val (.int 6), .val (.int 3), .val (scV its)] c1 = .nx [.val .cup, .val (.int named), .val (.int 6), .val (.int 3), .val (scV r)] c1 := s_whl.trans e2
  refine ⟨r, c1, call_ok rfl rfl ?_, hc1, fun i hi => (iok_up 3 i (h2 i hi)).1, by rw [cntL_up h2]; exact h3⟩
  simp -implicitDefEqProofs only [e_con, e_var, e_bor, e_bin, k_bin, k_bin2, e_cmp, k_cmp, k_cmp2, e_neg, k_neg, e_nt, k_nt, k_truth, k_optB, e_and, k_and, k_andT, k_andF, e_or, k_or, k_orT, k_orF, e_ite, k_iteT, k_iteF, e_chain, k_ch, k_ch2, k_ch3T, k_ch3F, e_tup, k_tup, e_lst, k_lst, e_ix, k_ix, k_ix2, e_sl, k_sl, k_sl2, k_sl3, e_call, k_call, e_blt, k_blt, e_mth, k_mth, k_mth2, e_isin, k_is, e_pick, k_pick, k_pick2, es_nil, es_cons, k_es, k_es2, o_none, o_some, k_o, c_none, c_some, i_seq, k_seqT, k_seqL, i_r1, k_r1, i_r2, k_r2, k_r3, i_zip, k_zip, k_zipT, k_zipL, i_enum, k_enum, s_asg, k_asg, s_own, k_own2, k_slotL, k_slotD, k_slotV, s_par, k_par, k_par2, s_frz, s_app, k_app, k_app2, s_ife, k_ifeT, k_ifeF, s_whl, k_w, k_wT, k_wF, k_wN, k_wR, s_ret, k_ret, s_exp, k_exp, s_setC, k_setC, k_cup0, k_cup1, s_ap, k_ap, k_ap2, k_ap3, s_rc, k_rc, ss_nil, ss_cons, k_ssN, k_ssR, finR_rt, finR_nx, pureR_some, varv_0, varv_s, borv_0, borv_0o, borv_s, truth, startP, List.map_cons, List.map_nil, List.replicate_succ, List.replicate_zero, List.cons_append, List.nil_append, Nat.reduceSub, Nat.reduceAdd, bindT, bindTs, optS_some, List.set_cons_succ, List.set_cons_zero, wipeP, mkTup_0, mkTup_1, mkTup_2, mkTup_3, mkTup_4, mkTup_5, mkTup_6, mkTup_7, mkTup_8, mkLst_0, mkLst_1, mkLst_2, mkLst_3, mkLst_4, mkLst_5, mkLst_6, mkLst_7, mkLst_8, mkLst_9, mkLst_10, mkLst_11, mkLst_12, mkLst_13, mkLst_14, mkLst_15, mkLst_16, binop, cmpop, blV, Option.map_some, isTy, bltop, Bool.not_true, Bool.not_false, item_0, item_1, item_2, item_3, item_c0, item_c1, Option.bind_some, List.getElem?_cons_zero, List.getElem?_cons_succ, if_true, if_false, Bool.false_eq_true, and_self, dat_int, dat_bl, dat_non, peq_int, peq_bl, peq_nonnon, Int.cast_ofNat_Int, Int.reduceEq, Bool.and_self, List.length_cons, List.length_nil, Int.reduceLT, Int.reduceLE, Int.reduceAdd, Int.reduceSub, Nat.reduceLT, Nat.reduceLeDiff, decide_true, decide_false, Bool.or_true, Bool.true_or, true_and, and_true, b__law_script, e1, e3]
section
variable {named n : Nat} {its : List It} {ps : List (Int × Int)}
theorem dat_cmps (n : Nat) (L : List (List (Int × Int))) : dat (.lst (L.map (cmpV n))) = true := by
  show (L.map (cmpV n)).all (small 59) = true
  rw [List.all_map, List.all_eq_true]
  intro ps _
  show (small 58 (.int n) && (small 58 (.tup (ps.map prV)) && true)) = true
  have : small 58 (.tup (ps.map prV)) = true := by
    rw [small, List.all_map, List.all_eq_true]
    intro p _
    rfl
  rw [this]; rfl
theorem f__law_right (hc : Com named n ps) (h : SOk named its) (k : Nat) (c : List PV) : callK P (k + 10) n__law_right [.int named, cmpV n ps, scV its] c = .ok (.bl true) c := by
  have hil := cntL_len (dp := 4) its
  have hfew := h.few
  obtain ⟨env', c', e, rfl, s4, rfl⟩ := fr_pre (C := callK P (k + 9)) (t := .name 4) (b := b__law_right_l0) (it := .seq (.var 2)) (φ := itV) (as := its) (c0 := c) (c := c)
    (I := fun pre env c' => c' = c ∧ ∃ s4, env = [.val (.int named), .val (cmpV n ps), .val (scV its), .own (.lst ((lineP n pre ps).map (cmpV n))), s4, .no])
    (env := [.val (.int named), .val (cmpV n ps), .val (scV its), .own (.lst [cmpV n ps]), .no, .no]) ⟨rfl, .no, rfl⟩ (by
      unfold scV
      simp -implicitDefEqProofs only [e_con, e_var, e_bor, e_bin, k_bin, k_bin2, e_cmp, k_cmp, k_cmp2, e_neg, k_neg, e_nt, k_nt, k_truth, k_optB, e_and, k_and, k_andT, k_andF, e_or, k_or, k_orT, k_orF, e_ite, k_iteT, k_iteF, e_chain, k_ch, k_ch2, k_ch3T, k_ch3F, e_tup, k_tup, e_lst, k_lst, e_ix, k_ix, k_ix2, e_sl, k_sl, k_sl2, k_sl3, e_call, k_call, e_blt, k_blt, e_mth, k_mth, k_mth2, e_isin, k_is, e_pick, k_pick, k_pick2, es_nil, es_cons, k_es, k_es2, o_none, o_some, k_o, c_none, c_some, i_seq, k_seqT, k_seqL, i_r1, k_r1, i_r2, k_r2, k_r3, i_zip, k_zip, k_zipT, k_zipL, i_enum, k_enum, s_asg, k_asg, s_own, k_own2, k_slotL, k_slotD, k_slotV, s_par, k_par, k_par2, s_frz, s_app, k_app, k_app2, s_ife, k_ifeT, k_ifeF, s_whl, k_w, k_wT, k_wF, k_wN, k_wR, s_ret, k_ret, s_exp, k_exp, s_setC, k_setC, k_cup0, k_cup1, s_ap, k_ap, k_ap2, k_ap3, s_rc, k_rc, ss_nil, ss_cons, k_ssN, k_ssR, finR_rt, finR_nx, pureR_some, varv_0, varv_s, borv_0, borv_0o, borv_s, truth, startP, List.map_cons, List.map_nil, List.replicate_succ, List.replicate_zero, List.cons_append, List.nil_append, Nat.reduceSub, Nat.reduceAdd, bindT, bindTs, optS_some, List.set_cons_succ, List.set_cons_zero, wipeP, mkTup_0, mkTup_1, mkTup_2, mkTup_3, mkTup_4, mkTup_5, mkTup_6, mkTup_7, mkTup_8, mkLst_0, mkLst_1, mkLst_2, mkLst_3, mkLst_4, mkLst_5, mkLst_6, mkLst_7, mkLst_8, mkLst_9, mkLst_10, mkLst_11, mkLst_12, mkLst_13, mkLst_14, mkLst_15, mkLst_16, binop, cmpop, blV, Option.map_some, isTy, bltop, Bool.not_true, Bool.not_false, item_0, item_1, item_2, item_3, item_c0, item_c1, Option.bind_some, List.getElem?_cons_zero, List.getElem?_cons_succ, if_true, if_false, Bool.false_eq_true, and_self, dat_int, dat_bl, dat_non, peq_int, peq_bl, peq_nonnon, Int.cast_ofNat_Int, Int.reduceEq, Bool.and_self, List.length_cons, List.length_nil, Int.reduceLT, Int.reduceLE, Int.reduceAdd, Int.reduceSub, Nat.reduceLT, Nat.reduceLeDiff, decide_true, decide_false, Bool.or_true, Bool.true_or, true_and, and_true]) fun pre x post hp env c' ⟨hc', s4, he⟩ => by
    subst hc' he
    have hx : x ∈ its := by rw [hp]; exact List.mem_append.mpr (.inr (List.mem_cons_self ..))
    have hl : pre.length + 1 ≤ its.length := by rw [hp, List.length_append, List.length_cons]; omega
    obtain ⟨front, ef, hfl⟩ := lineP_last n pre ps
    have hcom := runI_com (n := n) (dp := 4) pre hc
    have e1 := done_all named n 4 [x] (runI n 4 pre ps).1 hcom (fun i hi => by rw [List.mem_singleton] at hi; rw [hi]; exact h.ok x hx) (k + 1) c'
    rw [runI_one, scV_one] at e1
    refine ⟨_, rfl, [.val (.int named), .val (cmpV n ps), .val (scV its), .own (.lst ((lineP n (pre ++ [x]) ps).map (cmpV n))), .val (itV x), .no], c', ?_, rfl, _, rfl⟩
    simp only [List.set_cons_succ, List.set_cons_zero]
    rw [lineP_snoc, runI_snoc, ef, List.map_append, List.map_append, List.map_cons, List.map_nil, List.map_cons, List.map_nil]
    have e3 : (front.map (cmpV n) ++ [cmpV n (runI n 4 pre ps).1]).length < LIM := by simp only [List.length_append, List.length_map, List.length_cons, List.length_nil]; unfold LIM; omega
    have e4 : callK P (k + 9) n__law_done [cmpV n (runI n 4 pre ps).1, .tup [itV x]] c' = .ok (cmpV n (stepI n 4 (runI n 4 pre ps).1 x).1) c' := e1
    simp -implicitDefEqProofs only [e_con, e_var, e_bor, e_bin, k_bin, k_bin2, e_cmp, k_cmp, k_cmp2, e_neg, k_neg, e_nt, k_nt, k_truth, k_optB, e_and, k_and, k_andT, k_andF, e_or, k_or, k_orT, k_orF, e_ite, k_iteT, k_iteF, e_chain, k_ch, k_ch2, k_ch3T, k_ch3F, e_tup, k_tup, e_lst, k_lst, e_ix, k_ix, k_ix2, e_sl, k_sl, k_sl2, k_sl3, e_call, k_call, e_blt, k_blt, e_mth, k_mth, k_mth2, e_isin, k_is, e_pick, k_pick, k_pick2, es_nil, es_cons, k_es, k_es2, o_none, o_some, k_o, c_none, c_some, i_seq, k_seqT, k_seqL, i_r1, k_r1, i_r2, k_r2, k_r3, i_zip, k_zip, k_zipT, k_zipL, i_enum, k_enum, s_asg, k_asg, s_own, k_own2, k_slotL, k_slotD, k_slotV, s_par, k_par, k_par2, s_frz, s_app, k_app, k_app2, s_ife, k_ifeT, k_ifeF, s_whl, k_w, k_wT, k_wF, k_wN, k_wR, s_ret, k_ret, s_exp, k_exp, s_setC, k_setC, k_cup0, k_cup1, s_ap, k_ap, k_ap2, k_ap3, s_rc, k_rc, ss_nil, ss_cons, k_ssN, k_ssR, finR_rt, finR_nx, pureR_some, varv_0, varv_s, borv_0, borv_0o, borv_s, truth, startP, List.map_cons, List.map_nil, List.replicate_succ, List.replicate_zero, List.cons_append, List.nil_append, Nat.reduceSub, Nat.reduceAdd, bindT, bindTs, optS_some, List.set_cons_succ, List.set_cons_zero, wipeP, mkTup_0, mkTup_1, mkTup_2, mkTup_3, mkTup_4, mkTup_5, mkTup_6, mkTup_7, mkTup_8, mkLst_0, mkLst_1, mkLst_2, mkLst_3, mkLst_4, mkLst_5, mkLst_6, mkLst_7, mkLst_8, mkLst_9, mkLst_10, mkLst_11, mkLst_12, mkLst_13, mkLst_14, mkLst_15, mkLst_16, binop, cmpop, blV, Option.map_some, isTy, bltop, Bool.not_true, Bool.not_false, item_0, item_1, item_2, item_3, item_c0, item_c1, Option.bind_some, List.getElem?_cons_zero, List.getElem?_cons_succ, if_true, if_false, Bool.false_eq_true, and_self, dat_int, dat_bl, dat_non, peq_int, peq_bl, peq_nonnon, Int.cast_ofNat_Int, Int.reduceEq, Bool.and_self, List.length_cons, List.length_nil, Int.reduceLT, Int.reduceLE, Int.reduceAdd, Int.reduceSub, Nat.reduceLT, Nat.reduceLeDiff, decide_true, decide_false, Bool.or_true, Bool.true_or, true_and, and_true, b__law_right_l0, item_last, e4, k_app2 e3, List.map_append]
  have e2 : execS (callK P (k + 9)) b__law_right_f0 [.val (.int named), .val (cmpV n ps), .val (scV its), .own (.lst [cmpV n ps]), .no, .no] c' = .nx [.val (.int named), .val (cmpV n ps), .val (scV its), .own (.lst ((lineP n its ps).map (cmpV n))), s4, .no] c' := e
  obtain ⟨front, ef, hfl⟩ := lineP_last n its ps
  have hds := runI_ok (n := n) (dp := 4) its ps h.ok
  have d1 := g_done_on hc h k c'
  have d2 := g_done hc h k c'
  have d3 := g_deeds_done hc h k c'
  have d4 : callK P (k + 9) n__law_deeds [cmpV n ps, scV its] c' = .ok (.lst ((runI n 4 its ps).2.map deedV)) c' := deeds_all named n 4 its ps hc h.ok (by omega) (k + 1) c'
  have rds : ∀ (ds : List Dd) (ps : List (Int × Int)), runI n 4 (ds.map It.deed) ps = (runP n ps ds, ds) := fun ds => by
    induction ds with
    | nil => exact fun ps => rfl
    | cons d r ih =>
      intro ps
      show ((runI n 4 (r.map It.deed) (behP n ps d)).1, [d] ++ (runI n 4 (r.map It.deed) (behP n ps d)).2) = _
      rw [ih]; rfl
  have d5 : callK P (k + 9) n__law_done [cmpV n ps, .tup ((runI n 4 its ps).2.map deedV)] c' = .ok (cmpV n (runI n 4 its ps).1) c' := by
    have := done_all named n 4 ((runI n 4 its ps).2.map It.deed) ps hc (fun i hi => by
      obtain ⟨d, hd, rfl⟩ := List.mem_map.mp hi
      exact iok_deed.mpr (hds.1 d hd)) (k + 1) c'
    rw [rds, ← hds.2.1] at this
    have e0 : scV ((runI n 4 its ps).2.map It.deed) = .tup ((runI n 4 its ps).2.map deedV) := by
      unfold scV
      rw [List.map_map]
      congr 1
    rw [e0] at this
    exact this
  have p1 := dat_cmps n (lineP n its ps)
  have p2 := dat_self p1
  have p3 := dat_cmp n (runI n 4 its ps).1
  have p4 := dat_self p3
  have p5 := dat_deeds (ds := (runI n 4 its ps).2) hds.1
  have p6 := dat_self p5
  rw [ef, List.map_append, List.map_cons, List.map_nil] at p1 p2 d1 e2
  refine call_ok rfl rfl ?_
  simp -implicitDefEqProofs only [e_con, e_var, e_bor, e_bin, k_bin, k_bin2, e_cmp, k_cmp, k_cmp2, e_neg, k_neg, e_nt, k_nt, k_truth, k_optB, e_and, k_and, k_andT, k_andF, e_or, k_or, k_orT, k_orF, e_ite, k_iteT, k_iteF, e_chain, k_ch, k_ch2, k_ch3T, k_ch3F, e_tup, k_tup, e_lst, k_lst, e_ix, k_ix, k_ix2, e_sl, k_sl, k_sl2, k_sl3, e_call, k_call, e_blt, k_blt, e_mth, k_mth, k_mth2, e_isin, k_is, e_pick, k_pick, k_pick2, es_nil, es_cons, k_es, k_es2, o_none, o_some, k_o, c_none, c_some, i_seq, k_seqT, k_seqL, i_r1, k_r1, i_r2, k_r2, k_r3, i_zip, k_zip, k_zipT, k_zipL, i_enum, k_enum, s_asg, k_asg, s_own, k_own2, k_slotL, k_slotD, k_slotV, s_par, k_par, k_par2, s_frz, s_app, k_app, k_app2, s_ife, k_ifeT, k_ifeF, s_whl, k_w, k_wT, k_wF, k_wN, k_wR, s_ret, k_ret, s_exp, k_exp, s_setC, k_setC, k_cup0, k_cup1, s_ap, k_ap, k_ap2, k_ap3, s_rc, k_rc, ss_nil, ss_cons, k_ssN, k_ssR, finR_rt, finR_nx, pureR_some, varv_0, varv_s, borv_0, borv_0o, borv_s, truth, startP, List.map_cons, List.map_nil, List.replicate_succ, List.replicate_zero, List.cons_append, List.nil_append, Nat.reduceSub, Nat.reduceAdd, bindT, bindTs, optS_some, List.set_cons_succ, List.set_cons_zero, wipeP, mkTup_0, mkTup_1, mkTup_2, mkTup_3, mkTup_4, mkTup_5, mkTup_6, mkTup_7, mkTup_8, mkLst_0, mkLst_1, mkLst_2, mkLst_3, mkLst_4, mkLst_5, mkLst_6, mkLst_7, mkLst_8, mkLst_9, mkLst_10, mkLst_11, mkLst_12, mkLst_13, mkLst_14, mkLst_15, mkLst_16, binop, cmpop, blV, Option.map_some, isTy, bltop, Bool.not_true, Bool.not_false, item_0, item_1, item_2, item_3, item_c0, item_c1, Option.bind_some, List.getElem?_cons_zero, List.getElem?_cons_succ, if_true, if_false, Bool.false_eq_true, and_self, dat_int, dat_bl, dat_non, peq_int, peq_bl, peq_nonnon, Int.cast_ofNat_Int, Int.reduceEq, Bool.and_self, List.length_cons, List.length_nil, Int.reduceLT, Int.reduceLE, Int.reduceAdd, Int.reduceSub, Nat.reduceLT, Nat.reduceLeDiff, decide_true, decide_false, Bool.or_true, Bool.true_or, true_and, and_true, b__law_right, e2, d1, p1, p2, d2, item_last, p3, p4, d3, d4, p5, p6, d5]
end
theorem rest_ok (ns : List Int) (s2 s3 : PP.Slot) (c : List PV) : execSs (callK P 99) (b_law.drop 2) [.val (.scr ns), .val .cup, s2, s3, .no, .no, .no, .no] c = .rt (.bl true) c := by
  kernel_rfl
theorem pure_law (ns : List Int) (h : ns.length ≤ 63) : ∃ c', callK P 100 n_law [.scr ns] [] = .ok (.bl true) c' := by
  obtain ⟨c0, e1, hc0⟩ := f__law_cup 98 ns h
  obtain ⟨env1, c1, e2, hc1, s2, s3, rfl⟩ := fr_inv (C := callK P 99) (t := .name 2) (b := b_law_l0) (I := fun env c => Cup c ∧ ∃ s2 s3, env = [.val (.scr ns), .val .cup, s2, s3, .no, .no, .no, .no]) (it := .range1 (.con (.int 6))) (c0 := c0) (xs := rng 0 6) (env := [.val (.scr ns), .val .cup, .no, .no, .no, .no, .no, .no]) ⟨hc0, _, _, rfl⟩
    (by have := okR_s (i := 6) (by omega) (by omega)
        simp -implicitDefEqProofs only [e_con, e_var, e_bor, e_bin, k_bin, k_bin2, e_cmp, k_cmp, k_cmp2, e_neg, k_neg, e_nt, k_nt, k_truth, k_optB, e_and, k_and, k_andT, k_andF, e_or, k_or, k_orT, k_orF, e_ite, k_iteT, k_iteF, e_chain, k_ch, k_ch2, k_ch3T, k_ch3F, e_tup, k_tup, e_lst, k_lst, e_ix, k_ix, k_ix2, e_sl, k_sl, k_sl2, k_sl3, e_call, k_call, e_blt, k_blt, e_mth, k_mth, k_mth2, e_isin, k_is, e_pick, k_pick, k_pick2, es_nil, es_cons, k_es, k_es2, o_none, o_some, k_o, c_none, c_some, i_seq, k_seqT, k_seqL, i_r1, k_r1, i_r2, k_r2, k_r3, i_zip, k_zip, k_zipT, k_zipL, i_enum, k_enum, s_asg, k_asg, s_own, k_own2, k_slotL, k_slotD, k_slotV, s_par, k_par, k_par2, s_frz, s_app, k_app, k_app2, s_ife, k_ifeT, k_ifeF, s_whl, k_w, k_wT, k_wF, k_wN, k_wR, s_ret, k_ret, s_exp, k_exp, s_setC, k_setC, k_cup0, k_cup1, s_ap, k_ap, k_ap2, k_ap3, s_rc, k_rc, ss_nil, ss_cons, k_ssN, k_ssR, finR_rt, finR_nx, pureR_some, varv_0, varv_s, borv_0, borv_0o, borv_s, truth, startP, List.map_cons, List.map_nil, List.replicate_succ, List.replicate_zero, List.cons_append, List.nil_append, Nat.reduceSub, Nat.reduceAdd, bindT, bindTs, optS_some, List.set_cons_succ, List.set_cons_zero, wipeP, mkTup_0, mkTup_1, mkTup_2, mkTup_3, mkTup_4, mkTup_5, mkTup_6, mkTup_7, mkTup_8, mkLst_0, mkLst_1, mkLst_2, mkLst_3, mkLst_4, mkLst_5, mkLst_6, mkLst_7, mkLst_8, mkLst_9, mkLst_10, mkLst_11, mkLst_12, mkLst_13, mkLst_14, mkLst_15, mkLst_16, binop, cmpop, blV, Option.map_some, isTy, bltop, Bool.not_true, Bool.not_false, item_0, item_1, item_2, item_3, item_c0, item_c1, Option.bind_some, List.getElem?_cons_zero, List.getElem?_cons_succ, if_true, if_false, Bool.false_eq_true, and_self, dat_int, dat_bl, dat_non, peq_int, peq_bl, peq_nonnon, Int.cast_ofNat_Int, Int.reduceEq, Bool.and_self, List.length_cons, List.length_nil, Int.reduceLT, Int.reduceLE, Int.reduceAdd, Int.reduceSub, Nat.reduceLT, Nat.reduceLeDiff, decide_true, decide_false, Bool.or_true, Bool.true_or, true_and, and_true, this]) fun x hx env c ⟨hc, s2, s3, he⟩ => by
    subst he
    obtain ⟨y, c1, b1, hc1, hy⟩ := f__law_some 97 [.int 1, .int 2, .int 2, .int 3] c hc (by simp) (by simp)
    have hnm : ∃ named : Nat, y = .int named ∧ 1 ≤ named ∧ named ≤ 3 := by
      simp only [List.mem_cons, List.not_mem_nil, or_false] at hy
      rcases hy with rfl | rfl | rfl | rfl
      · exact ⟨1, rfl, by decide, by decide⟩
      · exact ⟨2, rfl, by decide, by decide⟩
      · exact ⟨2, rfl, by decide, by decide⟩
      · exact ⟨3, rfl, by decide, by decide⟩
    obtain ⟨named, rfl, n1, n2⟩ := hnm
    obtain ⟨n, ps, c2, b2, hc2, hcom⟩ := f__law_company 97 named 0 4 c1 hc1 n1 n2 (by omega) (by omega)
    have b2 : callK P 99 n__law_company [.cup, .int named, .int 0, .int 4] c1 = .ok (cmpV n ps) c2 := b2
    obtain ⟨its, c3, b3, hc3, hs⟩ := f__law_script 91 named n1 n2 c2 hc2
    have b4 := f__law_right hcom hs 89 c3
    refine ⟨_, rfl, [.val (.scr ns), .val .cup, .val x, .val (.int named), .no, .no, .no, .no], c3, ?_, hc3, _, _, rfl⟩
    simp only [List.set_cons_succ, List.set_cons_zero]
    simp -implicitDefEqProofs only [e_con, e_var, e_bor, e_bin, k_bin, k_bin2, e_cmp, k_cmp, k_cmp2, e_neg, k_neg, e_nt, k_nt, k_truth, k_optB, e_and, k_and, k_andT, k_andF, e_or, k_or, k_orT, k_orF, e_ite, k_iteT, k_iteF, e_chain, k_ch, k_ch2, k_ch3T, k_ch3F, e_tup, k_tup, e_lst, k_lst, e_ix, k_ix, k_ix2, e_sl, k_sl, k_sl2, k_sl3, e_call, k_call, e_blt, k_blt, e_mth, k_mth, k_mth2, e_isin, k_is, e_pick, k_pick, k_pick2, es_nil, es_cons, k_es, k_es2, o_none, o_some, k_o, c_none, c_some, i_seq, k_seqT, k_seqL, i_r1, k_r1, i_r2, k_r2, k_r3, i_zip, k_zip, k_zipT, k_zipL, i_enum, k_enum, s_asg, k_asg, s_own, k_own2, k_slotL, k_slotD, k_slotV, s_par, k_par, k_par2, s_frz, s_app, k_app, k_app2, s_ife, k_ifeT, k_ifeF, s_whl, k_w, k_wT, k_wF, k_wN, k_wR, s_ret, k_ret, s_exp, k_exp, s_setC, k_setC, k_cup0, k_cup1, s_ap, k_ap, k_ap2, k_ap3, s_rc, k_rc, ss_nil, ss_cons, k_ssN, k_ssR, finR_rt, finR_nx, pureR_some, varv_0, varv_s, borv_0, borv_0o, borv_s, truth, startP, List.map_cons, List.map_nil, List.replicate_succ, List.replicate_zero, List.cons_append, List.nil_append, Nat.reduceSub, Nat.reduceAdd, bindT, bindTs, optS_some, List.set_cons_succ, List.set_cons_zero, wipeP, mkTup_0, mkTup_1, mkTup_2, mkTup_3, mkTup_4, mkTup_5, mkTup_6, mkTup_7, mkTup_8, mkLst_0, mkLst_1, mkLst_2, mkLst_3, mkLst_4, mkLst_5, mkLst_6, mkLst_7, mkLst_8, mkLst_9, mkLst_10, mkLst_11, mkLst_12, mkLst_13, mkLst_14, mkLst_15, mkLst_16, binop, cmpop, blV, Option.map_some, isTy, bltop, Bool.not_true, Bool.not_false, item_0, item_1, item_2, item_3, item_c0, item_c1, Option.bind_some, List.getElem?_cons_zero, List.getElem?_cons_succ, if_true, if_false, Bool.false_eq_true, and_self, dat_int, dat_bl, dat_non, peq_int, peq_bl, peq_nonnon, Int.cast_ofNat_Int, Int.reduceEq, Bool.and_self, List.length_cons, List.length_nil, Int.reduceLT, Int.reduceLE, Int.reduceAdd, Int.reduceSub, Nat.reduceLT, Nat.reduceLeDiff, decide_true, decide_false, Bool.or_true, Bool.true_or, true_and, and_true, b_law_l0, b1, b2, b3, b4]
  refine ⟨c1, call_ok rfl rfl ?_⟩
  have q1 : execS (callK P 99) b_law_f0 [.val (.scr ns), .val .cup, .no, .no, .no, .no, .no, .no] c0 = .nx [.val (.scr ns), .val .cup, s2, s3, .no, .no, .no, .no] c1 := e2
  rw [show b_law = .asg (.name 1) (.call n__law_cup [.var 0]) :: b_law_f0 :: b_law.drop 2 from rfl]
  simp -implicitDefEqProofs only [e_con, e_var, e_bor, e_bin, k_bin, k_bin2, e_cmp, k_cmp, k_cmp2, e_neg, k_neg, e_nt, k_nt, k_truth, k_optB, e_and, k_and, k_andT, k_andF, e_or, k_or, k_orT, k_orF, e_ite, k_iteT, k_iteF, e_chain, k_ch, k_ch2, k_ch3T, k_ch3F, e_tup, k_tup, e_lst, k_lst, e_ix, k_ix, k_ix2, e_sl, k_sl, k_sl2, k_sl3, e_call, k_call, e_blt, k_blt, e_mth, k_mth, k_mth2, e_isin, k_is, e_pick, k_pick, k_pick2, es_nil, es_cons, k_es, k_es2, o_none, o_some, k_o, c_none, c_some, i_seq, k_seqT, k_seqL, i_r1, k_r1, i_r2, k_r2, k_r3, i_zip, k_zip, k_zipT, k_zipL, i_enum, k_enum, s_asg, k_asg, s_own, k_own2, k_slotL, k_slotD, k_slotV, s_par, k_par, k_par2, s_frz, s_app, k_app, k_app2, s_ife, k_ifeT, k_ifeF, s_whl, k_w, k_wT, k_wF, k_wN, k_wR, s_ret, k_ret, s_exp, k_exp, s_setC, k_setC, k_cup0, k_cup1, s_ap, k_ap, k_ap2, k_ap3, s_rc, k_rc, ss_nil, ss_cons, k_ssN, k_ssR, finR_rt, finR_nx, pureR_some, varv_0, varv_s, borv_0, borv_0o, borv_s, truth, startP, List.map_cons, List.map_nil, List.replicate_succ, List.replicate_zero, List.cons_append, List.nil_append, Nat.reduceSub, Nat.reduceAdd, bindT, bindTs, optS_some, List.set_cons_succ, List.set_cons_zero, wipeP, mkTup_0, mkTup_1, mkTup_2, mkTup_3, mkTup_4, mkTup_5, mkTup_6, mkTup_7, mkTup_8, mkLst_0, mkLst_1, mkLst_2, mkLst_3, mkLst_4, mkLst_5, mkLst_6, mkLst_7, mkLst_8, mkLst_9, mkLst_10, mkLst_11, mkLst_12, mkLst_13, mkLst_14, mkLst_15, mkLst_16, binop, cmpop, blV, Option.map_some, isTy, bltop, Bool.not_true, Bool.not_false, item_0, item_1, item_2, item_3, item_c0, item_c1, Option.bind_some, List.getElem?_cons_zero, List.getElem?_cons_succ, if_true, if_false, Bool.false_eq_true, and_self, dat_int, dat_bl, dat_non, peq_int, peq_bl, peq_nonnon, Int.cast_ofNat_Int, Int.reduceEq, Bool.and_self, List.length_cons, List.length_nil, Int.reduceLT, Int.reduceLE, Int.reduceAdd, Int.reduceSub, Nat.reduceLT, Nat.reduceLeDiff, decide_true, decide_false, Bool.or_true, Bool.true_or, true_and, and_true, e1, q1, rest_ok]
end K09

set_option Elab.async false
set_option linter.all false
set_option maxRecDepth 100000
set_option maxHeartbeats 0
namespace K09
open PySem PySem.Spec PyProof.Rows L2 PP
def top (i : Nat) : Stmt := PySem.Challenge.pw_twobesides_k09_whole_scripts_and_choices.main.body.getD i (.Pass ⟨0, 0, 0, 0⟩)
def mkF (x : Str) (i : Nat) (N ps : List Str) : FE := ⟨x, defArgs (top i), defBody (top i), defScope (top i), N, ps⟩
def T : List FE := ([mkF "is_whole" 8 ["value", "low", "high"] ["value", "low", "high"], mkF "is_tuple_of" 9 ["value", "low", "high"] ["value", "low", "high"], mkF "are_whole" 10 ["value", "low", "high", "item"] ["value", "low", "high"], mkF "pairs_of" 11 ["people", "one", "other"] ["people"], mkF "pair_of" 12 ["one", "other"] ["one", "other"], mkF "fits_tie" 13 ["people", "value"] ["people", "value"], mkF "fits_company" 14 ["named", "value", "tie", "one", "other"] ["named", "value"], mkF "company_by" 15 ["people", "ties", "pair"] ["people", "ties"], mkF "ties_in" 16 ["company", "pair"] ["company"], mkF "need_named" 17 ["value"] ["value"], mkF "need_company" 18 ["named", "value"] ["named", "value"], mkF "answer_of" 20 ["ties", "deed", "one", "other", "know", "many", "person", "third"] ["ties", "deed", "one", "other"]] : List FE) ++ ([mkF "behind" 21 ["company", "deed", "ties", "pairs", "pair"] ["company", "deed"], mkF "run_by" 22 ["company", "script", "found", "left", "item"] ["company", "script"], mkF "run_on" 23 ["company", "script", "found", "item"] ["company", "script"], mkF "are_two_named" 28 ["named", "one", "other"] ["named", "one", "other"], mkF "are_answers" 29 ["value", "many"] ["value", "many"], mkF "fits_deed" 30 ["named", "value"] ["named", "value"], mkF "fits_choice" 31 ["named", "value"] ["named", "value"], mkF "items_in" 32 ["named", "value", "found", "line", "script", "depth", "item"] ["named", "value"], mkF "fits_script" 33 ["named", "value", "items", "item", "depth"] ["named", "value"], mkF "need_script" 34 ["named", "value"] ["named", "value"], mkF "deeds_done" 35 ["named", "company", "script"] ["named", "company", "script"], mkF "need_three" 37 ["named", "company", "script"] ["named", "company", "script"]] : List FE) ++ ([mkF "done" 38 ["named", "company", "script"] ["named", "company", "script"], mkF "done_on" 39 ["named", "company", "script"] ["named", "company", "script"], mkF "_law_cup" 41 ["_law_script_here", "_law_cell"] ["_law_script_here"], mkF "_law_roll" 42 ["_law_cup_here", "_law_many", "_law_found", "_law_deep"] ["_law_cup_here", "_law_many"], mkF "_law_some" 43 ["_law_cup_here", "_law_things"] ["_law_cup_here", "_law_things"], mkF "_law_two" 44 ["_law_one", "_law_other"] ["_law_one", "_law_other"], mkF "_law_knows" 45 ["_law_company_here", "_law_one", "_law_other"] ["_law_company_here", "_law_one", "_law_other"], mkF "_law_pairs" 46 ["_law_people", "_law_found", "_law_one", "_law_other"] ["_law_people"], mkF "_law_behind" 47 ["_law_company_here", "_law_deed_here", "_law_found", "_law_one", "_law_other", "_law_know", "_law_many", "_law_person", "_law_third"] ["_law_company_here", "_law_deed_here"], mkF "_law_done" 48 ["_law_company_here", "_law_script_here", "_law_item"] ["_law_company_here", "_law_script_here"], mkF "_law_company" 49 ["_law_cup_here", "_law_named", "_law_least", "_law_most", "_law_people", "_law_way", "_law_pair"] ["_law_cup_here", "_law_named", "_law_least", "_law_most"], mkF "_law_answers" 50 ["_law_cup_here", "_law_many", "_law_answer"] ["_law_cup_here", "_law_many"]] : List FE) ++ ([mkF "_law_deed" 51 ["_law_cup_here", "_law_named", "_law_doer", "_law_some_here", "_law_other", "_law_person"] ["_law_cup_here", "_law_named"], mkF "_law_items" 52 ["_law_cup_here", "_law_named", "_law_most", "_law_deep", "_law_found", "_law_turn", "_law_one", "_law_other", "_law_person", "_law_yes", "_law_no"] ["_law_cup_here", "_law_named", "_law_most", "_law_deep"], mkF "_law_count" 53 ["_law_script_here", "_law_found", "_law_item"] ["_law_script_here"], mkF "_law_script" 54 ["_law_cup_here", "_law_named", "_law_most", "_law_deep", "_law_found"] ["_law_cup_here", "_law_named", "_law_most", "_law_deep"], mkF "_law_change" 55 ["_law_differ"] [], mkF "_law_deeds" 56 ["_law_company_here", "_law_script_here", "_law_found", "_law_item", "_law_own", "_law_deed_here"] ["_law_company_here", "_law_script_here"], mkF "_law_right" 57 ["_law_named", "_law_company_here", "_law_script_here", "_law_line", "_law_item", "_law_deeds_here"] ["_law_named", "_law_company_here", "_law_script_here"], mkF "law" 58 ["_law_script_here", "_law_cup_here", "_law_turn", "_law_named", "_law_four", "_law_own", "_law_tie", "_law_twice"] ["_law_script_here"]] : List FE)
def frees : List Str := (["ValueError", "abs", "all", "bool", "dict", "int", "isinstance", "len", "list", "max", "min", "range"] : List Str) ++ (["str", "sum", "tuple", "zip"] : List Str)
def nums : List (Str × Int) := ([("NAMED", 3), ("PEOPLE", 9), ("ITEMS", 30), ("DEEPEST", 4)] : List (Str × Int))
def txts : List (Str × Str) := ([] : List (Str × Str))
def loose : List Str := (["BesidesError", "InvalidNamed", "InvalidCompany", "InvalidScript", "NAMED", "PEOPLE", "is_whole", "is_tuple_of", "are_whole", "pairs_of", "pair_of", "fits_tie"] : List Str) ++ (["fits_company", "company_by", "ties_in", "need_named", "need_company", "answer_of", "behind", "run_by", "run_on", "ITEMS", "DEEPEST", "WORDS"] : List Str) ++ (["are_two_named", "are_answers", "fits_deed", "fits_choice", "items_in", "fits_script", "need_script", "deeds_done", "need_three", "done", "done_on", "_law_cup"] : List Str) ++ (["_law_roll", "_law_some", "_law_two", "_law_knows", "_law_pairs", "_law_behind", "_law_done", "_law_company", "_law_answers", "_law_deed", "_law_items", "_law_count"] : List Str) ++ (["_law_script", "_law_change", "_law_deeds", "_law_right"] : List Str)
def tups : List (Str × List PV) := [("WORDS", [.str "know", .str "part", .str "turn"])]
def blt : Str → Bool := bltOf frees
def con : Str → Option PV := conOf nums txts tups
theorem ck1 : (List.range T.length).all (fun i => match T[i]? with
  | some f => feB P T blt con i f
  | none => true) = true := by kernel_rfl
theorem bd : ∀ (i : Nat) (f : FE), T[i]? = some f → f.binds
  | 0, _, rfl => fun _ _ _ _ _ _ us hl => match us, hl with
    | [_, _, _], _ => rfl
  | 1, _, rfl => fun _ _ _ _ _ _ us hl => match us, hl with
    | [_, _, _], _ => rfl
  | 2, _, rfl => fun _ _ _ _ _ _ us hl => match us, hl with
    | [_, _, _], _ => rfl
  | 3, _, rfl => fun _ _ _ _ _ _ us hl => match us, hl with
    | [_], _ => rfl
  | 4, _, rfl => fun _ _ _ _ _ _ us hl => match us, hl with
    | [_, _], _ => rfl
  | 5, _, rfl => fun _ _ _ _ _ _ us hl => match us, hl with
    | [_, _], _ => rfl
  | 6, _, rfl => fun _ _ _ _ _ _ us hl => match us, hl with
    | [_, _], _ => rfl
  | 7, _, rfl => fun _ _ _ _ _ _ us hl => match us, hl with
    | [_, _], _ => rfl
  | 8, _, rfl => fun _ _ _ _ _ _ us hl => match us, hl with
    | [_], _ => rfl
  | 9, _, rfl => fun _ _ _ _ _ _ us hl => match us, hl with
    | [_], _ => rfl
  | 10, _, rfl => fun _ _ _ _ _ _ us hl => match us, hl with
    | [_, _], _ => rfl
  | 11, _, rfl => fun _ _ _ _ _ _ us hl => match us, hl with
    | [_, _, _, _], _ => rfl
  | 12, _, rfl => fun _ _ _ _ _ _ us hl => match us, hl with
    | [_, _], _ => rfl
  | 13, _, rfl => fun _ _ _ _ _ _ us hl => match us, hl with
    | [_, _], _ => rfl
  | 14, _, rfl => fun _ _ _ _ _ _ us hl => match us, hl with
    | [_, _], _ => rfl
  | 15, _, rfl => fun _ _ _ _ _ _ us hl => match us, hl with
    | [_, _, _], _ => rfl
  | 16, _, rfl => fun _ _ _ _ _ _ us hl => match us, hl with
    | [_, _], _ => rfl
  | 17, _, rfl => fun _ _ _ _ _ _ us hl => match us, hl with
    | [_, _], _ => rfl
  | 18, _, rfl => fun _ _ _ _ _ _ us hl => match us, hl with
    | [_, _], _ => rfl
  | 19, _, rfl => fun _ _ _ _ _ _ us hl => match us, hl with
    | [_, _], _ => rfl
  | 20, _, rfl => fun _ _ _ _ _ _ us hl => match us, hl with
    | [_, _], _ => rfl
  | 21, _, rfl => fun _ _ _ _ _ _ us hl => match us, hl with
    | [_, _], _ => rfl
  | 22, _, rfl => fun _ _ _ _ _ _ us hl => match us, hl with
    | [_, _, _], _ => rfl
  | 23, _, rfl => fun _ _ _ _ _ _ us hl => match us, hl with
    | [_, _, _], _ => rfl
  | 24, _, rfl => fun _ _ _ _ _ _ us hl => match us, hl with
    | [_, _, _], _ => rfl
  | 25, _, rfl => fun _ _ _ _ _ _ us hl => match us, hl with
    | [_, _, _], _ => rfl
  | 26, _, rfl => fun _ _ _ _ _ _ us hl => match us, hl with
    | [_], _ => rfl
  | 27, _, rfl => fun _ _ _ _ _ _ us hl => match us, hl with
    | [_, _], _ => rfl
  | 28, _, rfl => fun _ _ _ _ _ _ us hl => match us, hl with
    | [_, _], _ => rfl
  | 29, _, rfl => fun _ _ _ _ _ _ us hl => match us, hl with
    | [_, _], _ => rfl
  | 30, _, rfl => fun _ _ _ _ _ _ us hl => match us, hl with
    | [_, _, _], _ => rfl
  | 31, _, rfl => fun _ _ _ _ _ _ us hl => match us, hl with
    | [_], _ => rfl
  | 32, _, rfl => fun _ _ _ _ _ _ us hl => match us, hl with
    | [_, _], _ => rfl
  | 33, _, rfl => fun _ _ _ _ _ _ us hl => match us, hl with
    | [_, _], _ => rfl
  | 34, _, rfl => fun _ _ _ _ _ _ us hl => match us, hl with
    | [_, _, _, _], _ => rfl
  | 35, _, rfl => fun _ _ _ _ _ _ us hl => match us, hl with
    | [_, _], _ => rfl
  | 36, _, rfl => fun _ _ _ _ _ _ us hl => match us, hl with
    | [_, _], _ => rfl
  | 37, _, rfl => fun _ _ _ _ _ _ us hl => match us, hl with
    | [_, _, _, _], _ => rfl
  | 38, _, rfl => fun _ _ _ _ _ _ us hl => match us, hl with
    | [_], _ => rfl
  | 39, _, rfl => fun _ _ _ _ _ _ us hl => match us, hl with
    | [_, _, _, _], _ => rfl
  | 40, _, rfl => fun _ _ _ _ _ _ us hl => match us, hl with
    | [], _ => rfl
  | 41, _, rfl => fun _ _ _ _ _ _ us hl => match us, hl with
    | [_, _], _ => rfl
  | 42, _, rfl => fun _ _ _ _ _ _ us hl => match us, hl with
    | [_, _, _], _ => rfl
  | 43, _, rfl => fun _ _ _ _ _ _ us hl => match us, hl with
    | [_], _ => rfl
  | i + 44, f, h => by simp [T] at h
theorem tab : TabOk P T blt con := ⟨fun i f hf => by
  have h := List.all_eq_true.mp ck1 i (List.mem_range.mpr (List.getElem?_eq_some_iff.mp hf).1)
  rw [hf] at h
  exact h, bd⟩
abbrev Rw : PySem.W.OpenRow := PySem.W.OpenLaw.row PySem.Challenge.rw_twobesides_k09_whole_scripts_and_choices
abbrev fa : List He.Fa := faOf T frees nums txts tups
abbrev fn : List He.DefD := T.map FE.d
abbrev hk : PySem.W.Hook := hookP 4 fa fn tups
def ob (s : PySem.W.SharedT) : He.AlD × Bool := obP 4 fa fn tups (HandSHeadRun.getT s)
theorem ob_eq (s : PySem.W.SharedT) : ob s = hk.obs s.abs := obP_eq (HandSHeadRun.getT_eq s)
theorem run (w : World) : HandSHeadRun.RunEq Rw (PySem.W.view Rw.prog [58]) hk ob 3000 loose w := by
  intro os
  kernel_rfl
end K09

set_option Elab.async false
set_option linter.all false
set_option maxRecDepth 100000
set_option maxHeartbeats 0
namespace K09
open PySem PySem.Spec PyProof.Rows L2 PP
theorem facts {Pg : Program} {w : World} {K : PySem.W.Frag} {h : Heap} {mg : Str → Option Value} {f : Addr} (X : K.In h) (G : h.Ns mainGlobals mg) (hfa : mg ("law" : Str) = some (.ref f)) (c : He.SaysD fa fn K) (ct : tupsB tups K = true) :
    ∃ fd : FuncData, (∀ (s : Shared) (v : Value), BindsTo s fd ⟨[v], []⟩ [("_law_script_here", v)]) ∧ ∀ base : Heap, K.In base → base.Ns mainGlobals mg → FnOk Pg w K mg base CX0 100 f fd ["_law_script_here"] (spK ⟨Pg, w, K⟩ (callK P 100 n_law) (P n_law).np) := by
  have hm : TopOk T blt con Pg w K mg := top_ok X G c ct
  obtain ⟨g, fd, F, hg⟩ := hm.fn n_law _ rfl
  have e := hfa.symm.trans hg
  cases e
  have b := FunD.bindsA (ps := ["_law_script_here"]) F fun _ _ _ _ _ _ us hl => match us, hl with | [_], _ => rfl
  exact ⟨fd, fun s v => b s [v] rfl, fun base _ _ => fn_at tab hm 99 n_law _ rfl F⟩
end K09
open PySem PySem.W PySem.Calls PyProof.Rows
theorem PySem.Challenge.cw_twobesides_k09_whole_scripts_and_choices_holds : PySem.Challenge.rw_twobesides_k09_whole_scripts_and_choices.Holds := by
  w_on; o_law
  refine HandSHeadRun.head_any (r := OpenLaw.row PySem.Challenge.rw_twobesides_k09_whole_scripts_and_choices) (q := view (OpenLaw.row PySem.Challenge.rw_twobesides_k09_whole_scripts_and_choices).prog [58]) (H := K09.hk) (ob := K09.ob) (M := 3000) (loose := K09.loose) (d := HandSHeadRun.topDef (OpenLaw.row PySem.Challenge.rw_twobesides_k09_whole_scripts_and_choices).prog 58) (kwd := []) K09.ob_eq
    (by kernel_rfl) (fun s => by kernel_rfl) K09.run (by kernel_rfl) (by kernel_rfl) (by kernel_rfl) (by rfl) (by first | assumption | decide +kernel) (by decide +kernel) ⟨rfl, rfl, rfl, rfl, rfl, by decide +kernel⟩ ?hw ?hc
  case hw => w_witness2
  case hc =>
    refine L2.walk_ofE (l := PySem.Challenge.rw_twobesides_k09_whole_scripts_and_choices) (n := 63) (k := 100) (x := "_law_script_here") (CX := L2.CX0) rfl (by decide) (by kernel_rfl) ⟨rfl, by decide, by decide⟩ ?F (fun _ _ _ _ z => z)
    intro w mg fa h Y G hmg0
    obtain ⟨K, KX, c, ct⟩ := Y
    have hmg : mg ("law" : PySem.Str) = some (.ref fa) := by
      have e : (HandSHeadRun.topDef (OpenLaw.row PySem.Challenge.rw_twobesides_k09_whole_scripts_and_choices).prog 58).name = ("law" : PySem.Str) := by kernel_rfl
      rw [← e]
      exact hmg0
    obtain ⟨fd, hb, hF⟩ := K09.facts (Pg := (PySem.Challenge.rw_twobesides_k09_whole_scripts_and_choices).prog) (w := w) KX G hmg c ct
    refine ⟨K, fd, _, KX, hb, fun H a ns hl _ hS => ?_, hF⟩
    obtain ⟨c', hp⟩ := K09.pure_law ns hl
    exact PP.sp_law rfl hp H a hS
