import PyProof.Rows.All
import HandS.ForMost
import KE.SortData
import Wide.All
import OpenK.AllK
import Wide.FinOn
import HandS.Exc
import HandS.TryMany
import HandS.TupAny
import HandS.TupMul
import HandS.TupLe
import HandS.TupLen
import HandS.Deep
import HandS.IsInst
import HandS.Flow
import HandS.Conv
import HandS.Zip
import HandS.Lambda
import HandS.HeadHook4
import KE.KDictKeyed
import HandS.ExcInit
import HandS.ExcField
import HandS.Nested
import HandS.HeadHook1
import KE.KExcSuper
import HandS.Head0
import HandS.Head1
import HandS.Head2
import HandS.HeadEnd
import HandS.HeadHook2
import HandS.EndTab
import HandS.HeadWalk
import HandS.Wide
import HandS.CallSlots
import HandS.Sort
import HandS.TupSets
import HandS.Style
import KE.KDictPairs
import KE.KDictCopyH
import HandS.SetFor
import HandS.Strs
import PyProof.Rows.SortShellAny
import HandS.Iter
import KE.GoesMore
import HandS.Comp
import HandS.DictComp
import KE.KDictDisplayH
import HandS.Dict
import HandS.Flt
import HandS.WordsExc
import HandS.More
import HandS.HeadHook3
import KE.KDictSum
import PyProof.Transfer
import PyProof.TupleOfSeq
import KE.DataMinMax
import PyProof.ReprRoads
import HandS.ExcOwn
import HandS.EndBits
import HandS.Defaults
import PySem.Challenge.RW_twobesides_k44_whole_errors_of_leading
set_option Elab.async false
set_option linter.all false
/-! PP1: a small pure language: values without a heap, expressions, statements, their meaning. -/
namespace PP
open PySem

/-- a value, without the heap -/
inductive PV where
  | non | bl (b : Bool) | int (i : Int) | str (s : Str) | tup (xs : List PV) | lst (xs : List PV) | dic (kvs : List (PV × PV)) | dki (ks : List Int) (vs : List PV) | cup | scr (ns : List Int) | rg (a b : Int) | fnv (x : Str)
  deriving Inhabited

def LIM : Nat := 16777216

/-! ### equality -/
mutual
def peq : PV → PV → Bool
  | .non, .non => true
  | .bl a, .bl b => a == b
  | .bl a, .int j => (if a then 1 else 0) == j
  | .int i, .bl b => i == (if b then 1 else 0)
  | .int i, .int j => i == j
  | .str x, .str y => x == y
  | .tup xs, .tup ys => peqL xs ys
  | .lst xs, .lst ys => peqL xs ys
  | _, _ => false
def peqL : List PV → List PV → Bool
  | [], [] => true
  | x :: xs, y :: ys => peq x y && peqL xs ys
  | _, _ => false
end
/-- data of depth at most n -/
def small : Nat → PV → Bool
  | _, .non => true
  | _, .bl _ => true
  | _, .int _ => true
  | _, .str s => PySem.PyData.strOk s
  | n + 1, .tup xs => xs.all (small n)
  | n + 1, .lst xs => xs.all (small n)
  | _, _ => false
def dat (v : PV) : Bool := small 60 v

mutual
def toD : PV → PyData
  | .non => .none
  | .bl b => .bool b
  | .int i => .int i
  | .str s => .str s
  | .tup xs => .tuple (toDs xs)
  | .lst xs => .list (toDs xs)
  | .dic _ => .dict []
  | .dki _ _ => .dict []
  | .cup => .dict []
  | .scr _ => .dict []
  | .rg _ _ => .dict []
  | .fnv _ => .dict []
def toDs : List PV → List PyData
  | [] => []
  | x :: xs => toD x :: toDs xs
end

/-! ### results -/
inductive R (α : Type) where
  | ok (a : α) (c : List PV)
  | exc (cl : Str) (arg : PV) (c : List PV)
  | stuck
def R.bind {α β : Type} (x : R α) (f : α → List PV → R β) : R β :=
  match x with
  | .ok a c => f a c
  | .exc cl arg c => .exc cl arg c
  | .stuck => .stuck
/-- in a comprehension no exception is let out -/
def R.calm {α : Type} (x : R α) : R α :=
  match x with
  | .ok a c => .ok a c
  | _ => .stuck
@[simp] theorem R.bind_ok {α β : Type} (a : α) (c : List PV) (f : α → List PV → R β) : (R.ok a c).bind f = f a c := rfl
@[simp] theorem R.bind_exc {α β : Type} (cl : Str) (arg : PV) (c : List PV) (f : α → List PV → R β) : (R.exc cl arg c : R α).bind f = .exc cl arg c := rfl
@[simp] theorem R.bind_stuck {α β : Type} (f : α → List PV → R β) : (R.stuck : R α).bind f = .stuck := rfl
@[simp] theorem R.calm_ok {α : Type} (a : α) (c : List PV) : (R.ok a c).calm = .ok a c := rfl
def guardR {α : Type} (b : Bool) (x : R α) : R α := if b then x else .stuck
@[simp] theorem guardR_true {α : Type} (x : R α) : guardR true x = x := rfl
@[simp] theorem guardR_false {α : Type} (x : R α) : guardR false x = .stuck := rfl
/-- a pure outcome, or none -/
def pureR (x : Option PV) (c : List PV) : R PV :=
  match x with
  | some v => .ok v c
  | none => .stuck
@[simp] theorem pureR_some (v : PV) (c : List PV) : pureR (some v) c = .ok v c := rfl
@[simp] theorem pureR_none (c : List PV) : pureR none c = .stuck := rfl

/-! ### operations on values -/
inductive Bop where | add | sub | mul | fdiv | mod | pow
inductive Cop where | eq | ne | lt | le | gt | ge | is | isn | inn | nin
inductive Ty where | int | bool | str | tuple | list | dict

def mkTup (xs : List PV) : Option PV := if xs.length ≤ LIM then some (.tup xs) else none
def mkLst (xs : List PV) : Option PV := if xs.length ≤ LIM then some (.lst xs) else none
def mkStr (s : Str) : Option PV := if s.length ≤ LIM then some (.str s) else none
def smallI (i : Int) : Bool := decide (-(2 ^ 64) < i ∧ i < 2 ^ 64)
def reps {α : Type} (xs : List α) (n : Nat) : List α := (List.replicate n xs).flatten
def binop : Bop → PV → PV → Option PV
  | .add, .int i, .int j => some (.int (i + j))
  | .add, .str a, .str b => mkStr (a ++ b)
  | .add, .tup xs, .tup ys => mkTup (xs ++ ys)
  | .add, .lst xs, .lst ys => mkLst (xs ++ ys)
  | .sub, .int i, .int j => some (.int (i - j))
  | .mul, .int i, .int j => if smallI i || smallI j then some (.int (i * j)) else none
  | .mul, .tup xs, .int n => if 0 ≤ n ∧ n ≤ 1000 ∧ xs.length ≤ 1000 then some (.tup (reps xs n.toNat)) else none
  | .mul, .lst xs, .int n => if 0 ≤ n ∧ n ≤ 1000 ∧ xs.length ≤ 1000 then some (.lst (reps xs n.toNat)) else none
  | .fdiv, .int i, .int j => if 0 < j ∧ j < 1073741824 then some (.int (i / j)) else if 0 < j ∧ j.natAbs < 2 ^ 64 then some (.int (i / j)) else none
  | .mod, .int i, .int j => if 0 < j then some (.int (i % j)) else none
  | .pow, .int i, .int j => if 0 ≤ j ∧ j ≤ 1000000 ∧ i.natAbs < 2 ^ 64 then some (.int (i ^ j.toNat)) else none
  | _, _, _ => none
def truth : PV → Option Bool
  | .non => some false
  | .bl b => some b
  | .int i => some (i != 0)
  | .str s => if s.length ≤ LIM then some ((s.length : Int) != 0) else none
  | .tup xs => some (!xs.isEmpty)
  | .lst xs => some (!xs.isEmpty)
  | _ => none
/-- keys of dicts: tuples of data -/
def keyd : Nat → PV → Bool
  | _, .non => true
  | _, .bl _ => true
  | _, .int _ => true
  | _, .str _ => true
  | n + 1, .tup xs => xs.all (keyd n)
  | _, _ => false
def isKey : PV → Bool
  | .tup xs => keyd 8 (.tup xs)
  | _ => false
def dget (kvs : List (PV × PV)) (k : PV) : Option PV :=
  match kvs with
  | [] => none
  | (j, v) :: r => if peq j k then some v else dget r k
def dput (kvs : List (PV × PV)) (k v : PV) : List (PV × PV) :=
  match kvs with
  | [] => [(k, v)]
  | (j, w) :: r => if peq j k then (j, v) :: r else (j, w) :: dput r k v
def blV (o : Option Bool) : Option PV := o.map PV.bl
mutual
/-- whole numbers and tuples of them -/
def onlyI : PyData → Bool
  | .int _ => true
  | .tuple xs => onlyIs xs
  | _ => false
def onlyIs : List PyData → Bool
  | [] => true
  | x :: xs => onlyI x && onlyIs xs
end
def pcmpG (a b : PV) : Option Bool := if dat a && dat b && W.alike (toD a) (toD b) && onlyI (toD a) && onlyI (toD b) then some (W.dataLt (toD b) (toD a)) else none
/-- order of data that are alike; none where they are not -/
def pcmp (a b : PV) : Option Bool := if dat a && dat b && W.alike (toD a) (toD b) then some (W.dataLt (toD a) (toD b)) else none
def isSing : PV → Bool
  | .non => true
  | .bl _ => true
  | _ => false
def pis : PV → PV → Option Bool
  | .non, .non => some true
  | _, .non => some false
  | .bl a, .bl b => some (a == b)
  | _, _ => none
/-- a whole number's place gets a value -/
def putI (ks : List Int) (vs : List PV) (n : Int) (v : PV) : List Int × List PV := if n ∈ ks then (ks, List.zipWith (fun k v0 => if k = n then v else v0) ks vs) else (ks ++ [n], vs ++ [v])
def putIs : List Int → List PV → List Int → List PV → List Int × List PV
  | ks, vs, n :: ns, v :: ws => putIs (putI ks vs n v).1 (putI ks vs n v).2 ns ws
  | ks, vs, _, _ => (ks, vs)
/-- the value at a whole number's place -/
def lookK : List Int → List PV → Int → Option PV
  | k :: ks, v :: vs, i => if k = i then some v else lookK ks vs i
  | _, _, _ => none
def pin (x : PV) : PV → Option Bool
  | .tup ys => if dat x && dat (.tup ys) then some (ys.any fun y => peq y x) else none
  | .lst ys => if dat x && dat (.lst ys) then some (ys.any fun y => peq y x) else none
  | .dic kvs => if isKey x then some (dget kvs x).isSome else none
  | .dki ks vs => match x with
    | .int i => some (lookK ks vs i).isSome
    | _ => none
  | _ => none
def cmpop : Cop → PV → PV → Option PV
  | .eq, a, b => if dat a && dat b then some (.bl (peq a b)) else none
  | .ne, a, b => if dat a && dat b then some (.bl (!peq a b)) else none
  | .lt, .int i, .int j => some (.bl (decide (i < j)))
  | .le, .int i, .int j => some (.bl (decide (i ≤ j)))
  | .gt, .int i, .int j => some (.bl (decide (j < i)))
  | .ge, .int i, .int j => some (.bl (decide (j ≤ i)))
  | .lt, .tup xs, .tup ys => blV (pcmp (.tup xs) (.tup ys))
  | .gt, .tup xs, .tup ys => blV (pcmpG (.tup xs) (.tup ys))
  | .is, a, b => blV (pis a b)
  | .isn, a, b => blV ((pis a b).map (!·))
  | .inn, a, b => blV (pin a b)
  | .nin, a, b => blV ((pin a b).map (!·))
  | _, _, _ => none
def isTy : Ty → PV → Option Bool
  | _, .cup => none
  | _, .scr _ => none
  | _, .rg _ _ => none
  | _, .fnv _ => none
  | _, .dic _ => none
  | _, .dki _ _ => none
  | .int, .int _ => some true
  | .int, .bl _ => some true
  | .bool, .bl _ => some true
  | .str, .str _ => some true
  | .tuple, .tup _ => some true
  | .list, .lst _ => some true
  | _, _ => some false
/-- the place that an index means -/
def ixP (n : Nat) (i : Int) : Option Nat := if 0 ≤ i then (if i < n then some i.toNat else none) else if -(n : Int) ≤ i then some (i + n).toNat else none
def item (o i : PV) (c : List PV) : Option PV :=
  match o, i with
  | .tup xs, .int i => (ixP xs.length i).bind fun j => xs[j]?
  | .lst xs, .int i => (ixP xs.length i).bind fun j => xs[j]?
  | .cup, .int i => (ixP c.length i).bind fun j => c[j]?
  | .str s, .int i => if LIM < s.length then none else (ixP s.length i).bind fun j => (s.cps[j]?).map fun d => .str ⟨#[d]⟩
  | .dic kvs, k => if isKey k then dget kvs k else none
  | .dki ks vs, .int i => lookK ks vs i
  | _, _ => none
/-- a slice's bound as a place among n (d where it is left out) -/
def sIxP (n d : Nat) : Option Int → Nat
  | none => d
  | some v => if v < 0 then (v + (n : Int)).toNat else min v.toNat n
def cutP {α : Type} (xs : List α) (lo hi : Option Int) : List α := (xs.drop (sIxP xs.length 0 lo)).take (sIxP xs.length xs.length hi - sIxP xs.length 0 lo)
def slice (o : PV) (lo hi : Option Int) : Option PV :=
  match o with
  | .tup xs => some (.tup (cutP xs lo hi))
  | .lst xs => some (.lst (cutP xs lo hi))
  | _ => none
/-- builtins -/
inductive Blt where | len | tuple | list | dict | abs | int | min2 | max2 | sum | all | any | sorted | listRange1 | listRange2 | tupRange1 | tupRange2 | lenSet | sortedSet | maxL | minL | rev | max3 | dnew | dchk | dcat | dadd | done | sortedD | valsD | sumL | dictI | dnewI | repr | listD | dictM | minT | sortedSetN | lenSetN | reprD | rgO
/-- the hash of a key without texts -/
def pkh : Nat → PV → Option Int
  | _, .non => some (reduceHash 0xFCA86420)
  | _, .bl b => some (hashInt (if b then 1 else 0))
  | _, .int i => some (hashInt i)
  | n + 1, .tup xs => (xs.mapM (pkh n)).map fun hs => reduceHash (Builtin.Tuple.tupleHashOf hs)
  | _, _ => none
/-- no two keys of equal hash -/
def apart (kvs : List (PV × PV)) : Bool := decide (kvs.length ≤ 1) || (match (kvs.map (·.1)).mapM (pkh 8) with
  | some hs => decide hs.Nodup
  | none => false)
inductive Mth where | count | index | get2 | valuesL | get1
def rng (a b : Int) : List PV := (List.range (b - a).toNat).map fun i => PV.int (a + (i : Nat))
def okR (i : Int) : Bool := decide (-(2 ^ 62) ≤ i ∧ i < 2 ^ 62)
def asInts : List PV → Option (List Int)
  | [] => some []
  | .int i :: r => (asInts r).map (i :: ·)
  | _ => none
def asBools : List PV → Option (List Bool)
  | [] => some []
  | .bl i :: r => (asBools r).map (i :: ·)
  | _ => none
def asPairs : List PV → Option (List (PV × PV))
  | [] => some []
  | .tup [k, v] :: r => if isKey k then (asPairs r).map ((k, v) :: ·) else none
  | _ => none
/-- pairs of a whole number and a value -/
def asIP : List PV → Option (List Int × List PV)
  | [] => some ([], [])
  | .tup [.int k, v] :: r => (asIP r).map fun p => (k :: p.1, v :: p.2)
  | _ => none
def distK : List (PV × PV) → Bool
  | [] => true
  | (k, _) :: r => (dget r k).isNone && distK r
def dputAll : List (PV × PV) → List (PV × PV) → List (PV × PV)
  | acc, [] => acc
  | acc, (k, v) :: r => dputAll (dput acc k v) r
/-- the items of a list without repetition, the first of equal ones -/
def dedup : List PV → List PV → List PV
  | acc, [] => acc
  | acc, x :: r => if acc.any (fun y => peq y x) then dedup acc r else dedup (acc ++ [x]) r
def pairwise (p : PV → PV → Bool) : List PV → Bool
  | [] => true
  | x :: r => r.all (p x) && pairwise p r
def alikeAll2 (xs : List PV) : Bool := xs.all fun x => xs.all fun y => W.alike (toD x) (toD y)
def tupNE : PV → Bool
  | .tup (_ :: _) => true
  | _ => false
def notTup : PV → Bool
  | .non => false
  | .tup _ => false
  | _ => true
def ple (a b : PV) : Bool := !W.dataLt (toD b) (toD a)
def isTup : PV → Bool
  | .tup _ => true
  | _ => false
def tupE0 : List PV → Bool
  | .tup [] :: r => r.all isTup
  | _ => false
/-- insertion, and sorting by it -/
def insB {α : Type} (le : α → α → Bool) (x : α) : List α → List α
  | [] => [x]
  | y :: r => if le x y then x :: y :: r else y :: insB le x r
def isortB {α : Type} (le : α → α → Bool) : List α → List α
  | [] => []
  | x :: r => insB le x (isortB le r)
def psort (xs : List PV) : Option PV := if xs.length ≤ LIM && xs.all dat && alikeAll2 xs && (xs.all tupNE || xs.all notTup || tupE0 xs) then some (.lst (isortB ple xs)) else none
def seqOf : PV → Option (List PV)
  | .tup xs => some xs
  | .lst xs => some xs
  | _ => none
/-- pairs of small numbers -/
def asPrs : List PV → Option (List (Int × Int))
  | [] => some []
  | .tup [.int a, .int b] :: r => if 0 ≤ a ∧ a < 64 ∧ 0 ≤ b ∧ b < 64 then (asPrs r).map ((a, b) :: ·) else none
  | _ => none
def prLe (p q : Int × Int) : Bool := decide (p.1 * 64 + p.2 ≤ q.1 * 64 + q.2)
def sortPr (ps : List (Int × Int)) : List (Int × Int) := isortB prLe ps.eraseDups
def sortI (is : List Int) : List Int := isortB (fun a b => decide (a ≤ b)) is.eraseDups
def prV (p : Int × Int) : PV := .tup [.int p.1, .int p.2]
def flatP : List PV → Option (List PV)
  | [] => some []
  | .lst ys :: r => (flatP r).map (ys ++ ·)
  | _ :: _ => none
/-- the first of the least -/
def pminT (x : PV) (xs : List PV) : PV := xs.foldl (fun a y => if W.dataLt (toD y) (toD a) then y else a) x
/-- whole numbers, None, and tuples of them -/
def plainK : Nat → PV → Bool
  | _, .non => true
  | _, .int _ => true
  | n + 1, .tup xs => xs.all (plainK n)
  | _, _ => false
/-- the members of a set of tuples -/
def setN (xs : List PV) : Option (List PV) := if (dedup [] xs).length < 64 && (xs.all fun x => isTup x && plainK 8 x) && apart ((dedup [] xs).map fun x => (x, .non)) then some (dedup [] xs) else none
/-- the text that repr gives of a tuple of data -/
def shwP (v : PV) : Option Str := if small 60 v && (toD v).showable && decide ((toD v).shown.length ≤ LIM) then some (toD v).shown else none
def bltop : Blt → List PV → Option PV
  | .len, [.tup xs] => some (.int xs.length)
  | .len, [.lst xs] => some (.int xs.length)
  | .len, [.str s] => if s.length ≤ LIM then some (.int s.length) else none
  | .len, [.dic kvs] => some (.int kvs.length)
  | .len, [.dki ks _] => some (.int ks.length)
  | .tuple, [.tup xs] => some (.tup xs)
  | .tuple, [.lst xs] => some (.tup xs)
  | .list, [.tup xs] => some (.lst xs)
  | .list, [.lst xs] => some (.lst xs)
  | .list, [.scr ns] => some (.lst (ns.map .int))
  | .dict, [.lst xs] => (asPairs xs).bind fun ps => if xs.length ≤ LIM && distK ps then some (.dic ps) else none
  | .abs, [.int i] => some (.int (if i < 0 then -i else i))
  | .int, [.int i] => some (.int i)
  | .int, [.bl b] => some (.int (if b then 1 else 0))
  | .min2, [.int i, .int j] => some (.int (if j < i then j else i))
  | .max2, [.int i, .int j] => some (.int (if j > i then j else i))
  | .sum, [.lst xs] => (asInts xs).map fun is => .int is.sum
  | .all, [.lst xs] => (asBools xs).map fun bs => .bl (bs.all id)
  | .any, [.lst xs] => (asBools xs).map fun bs => .bl (bs.any id)
  | .sorted, [.lst xs] => psort xs
  | .sorted, [.tup xs] => if xs.all tupNE || xs.all notTup then psort xs else none
  | .sorted, [.dic a] => if (a.map (·.1)).all tupNE then psort (a.map (·.1)) else none
  | .listRange1, [.int b] => if okR b && decide (b ≤ 16777216) then some (.lst (rng 0 b)) else none
  | .listRange2, [.int a, .int b] => if okR a && okR b && decide (b - a ≤ 16777216) then some (.lst (rng a b)) else none
  | .tupRange1, [.int b] => if okR b && decide (b ≤ 16777216) then some (.tup (rng 0 b)) else none
  | .tupRange2, [.int a, .int b] => if okR a && okR b && decide (b - a ≤ 16777216) then some (.tup (rng a b)) else none
  | .lenSet, [v] => (seqOf v).bind fun xs => (asInts xs).bind fun is => if is.length < 4000 then some (.int (PyProof.Rows.firstMet (fun i => is.getD i 0) is.length).length) else none
  | .sortedSet, [v] => (seqOf v).bind fun xs => match asPrs xs with
    | some ps => if ps.length < 64 then some (.lst ((sortPr ps).map prV)) else none
    | none => (asInts xs).bind fun is => if is.length < 4000 then some (.lst ((sortI is).map .int)) else none
  | .lenSetN, [v] => (seqOf v).bind fun xs => (setN xs).map fun d => .int d.length
  | .sortedSetN, [v] => (seqOf v).bind fun xs => (setN xs).bind fun d => if d.all tupNE then psort d else none
  | .dnew, [] => some (.dic [])
  | .dnewI, [] => some (.dki [] [])
  | .dchk, [.dic a] => if apart a then some (.dic a) else none
  | .dchk, [.dki a va] => some (.dki a va)
  | .dcat, [.dki a va, .dki b vb] => if decide (a.length + b.length ≤ LIM) then some (.dki (putIs a va b vb).1 (putIs a va b vb).2) else none
  | .dadd, [.dki a va, .int n, v] => if decide (a.length + 1 ≤ LIM) then some (.dki (putI a va n v).1 (putI a va n v).2) else none
  | .dcat, [.dic a, .dic b] => if (!a.isEmpty || apart b) && decide (a.length + b.length ≤ LIM) then some (.dic (dputAll a b)) else none
  | .dictI, [.lst xs] => (asIP xs).bind fun p => if decide p.1.Nodup && decide (xs.length ≤ LIM) then some (.dki p.1 p.2) else none
  | .sumL, [.lst xs] => (flatP xs).bind mkLst
  | .dadd, [.dic a, k, v] => if isKey k && decide (a.length + 1 ≤ LIM) then some (.dic (dput a k v)) else none
  | .done, [k, v] => if isKey k then some (.dic [(k, v)]) else none
  | .sortedD, [.dic a] => if (a.map (·.1)).all tupNE then psort (a.map (·.1)) else none
  | .valsD, [.dic a] => some (.lst (a.map (·.2)))
  | .valsD, [.dki _ vs] => some (.lst vs)
  | .rev, [.tup xs] => some (.tup xs.reverse)
  | .rev, [.lst xs] => some (.lst xs.reverse)
  | .max3, [.int i, .int j, .int k] => some (.int (max i (max j k)))
  | .maxL, [.lst xs] => (asInts xs).bind fun is => is.max?.map .int
  | .minL, [.lst xs] => (asInts xs).bind fun is => is.min?.map .int
  | .maxL, [.tup xs] => (asInts xs).bind fun is => is.max?.map .int
  | .repr, [.bl b] => some (.str (if b then "True" else "False"))
  | .repr, [.non] => some (.str "None")
  | .reprD, [.bl b] => some (.str (if b then "True" else "False"))
  | .reprD, [.non] => some (.str "None")
  | .reprD, [.tup xs] => (shwP (.tup xs)).map .str
  | .reprD, [.int i] => if i.natAbs.log2 < 1920 then some (.str (PyData.shown (.int i))) else none
  | .listD, [.dic a] => some (.lst (a.map (·.1)))
  | .dictM, [.lst xs] => (asPairs xs).bind fun ps => if xs.length ≤ LIM then some (.dic (dputAll [] ps)) else none
  | .rgO, [.int i, .int j] => if okR i && okR j then some (.rg i j) else none
  | .minT, [.lst (x :: xs)] => if (x :: xs).all dat && alikeAll2 (x :: xs) && (x :: xs).all tupNE then some (pminT x xs) else none
  | _, _ => none
def idxOf (x : PV) : List PV → Nat → Option Nat
  | [], _ => none
  | y :: r, n => if peq y x then some n else idxOf x r (n + 1)
def recv : Mth → PV → Bool
  | .count, .lst _ => true
  | .index, .lst _ => true
  | .get2, .dic _ => true
  | .get2, .dki _ _ => true
  | .valuesL, .dic _ => true
  | .get1, .dic _ => true
  | _, _ => false
def mthop : Mth → PV → List PV → Option PV
  | .count, .lst xs, [x] => if dat x && dat (.lst xs) then some (.int (xs.countP fun y => peq y x)) else none
  | .index, .lst xs, [x] => if dat x && dat (.lst xs) then (idxOf x xs 0).map fun (n : Nat) => .int (n : Int) else none
  | .get2, .dic kvs, [k, d] => if isKey k then some ((dget kvs k).getD d) else none
  | .get2, .dki ks vs, [.int n, d] => some ((lookK ks vs n).getD d)
  | .get1, .dic kvs, [k] => if isKey k then some ((dget kvs k).getD .non) else none
  | _, _, _ => none

/-! ### the syntax -/
inductive Tg where
  | name (i : Nat) | tup (ts : List Tg)
mutual
inductive Ex (FN : Type) where
  | bad
  | con (v : PV)
  | var (i : Nat)
  | bor (i : Nat)
  | bin (o : Bop) (a b : Ex FN)
  | neg (a : Ex FN)
  | nt (a : Ex FN)
  | and (a b : Ex FN)
  | or (a b : Ex FN)
  | ite (c a b : Ex FN)
  | cmp (o : Cop) (a b : Ex FN)
  | chain (a b d : Ex FN)
  | tup (es : List (Ex FN))
  | lst (es : List (Ex FN))
  | ix (a b : Ex FN)
  | sl (a : Ex FN) (lo hi : Option (Ex FN))
  | call (f : FN) (es : List (Ex FN))
  | blt (b : Blt) (es : List (Ex FN))
  | mth (m : Mth) (a : Ex FN) (es : List (Ex FN))
  | isin (a : Ex FN) (t : Ty)
  | fnm (x : Str)
  | callv (fs : List (Str × FN)) (i : Nat) (es : List (Ex FN))
  | dcat (a b : Ex FN)
  | dadd (a k v : Ex FN)
  | told (hs : List (Str × Option Str)) (v : Str) (e : Ex FN)
  | pickC (kvs : List (Str × PV)) (e : Ex FN)
  | inC (neg : Bool) (kvs : List (Str × PV)) (e : Ex FN)
  | pick (ks : List Str) (es : List (Ex FN)) (e : Ex FN)
  | comp (vs : List Nat) (e : Ex FN) (t : Tg) (it : Ie FN) (cond : Option (Ex FN))
  | comp2 (vs vs1 : List Nat) (e : Ex FN) (t : Tg) (it : Ie FN) (cond : Option (Ex FN)) (t1 : Tg) (it1 : Ie FN) (cond1 : Option (Ex FN))
inductive Ie (FN : Type) where
  | seq (e : Ex FN)
  | range1 (a : Ex FN)
  | range2 (a b : Ex FN)
  | zip (a b : Ex FN)
  | enum (a : Ex FN)
end


inductive Sm (FN : Type) where
  | bad
  | par (oi : Bool) (i : Nat) (a : Ex FN) (oj : Bool) (j : Nat) (b : Ex FN)
  | asg (t : Tg) (e : Ex FN)
  | own (i : Nat) (e : Ex FN)
  | frz (is : List Nat)
  | app (i : Nat) (e : Ex FN)
  | popS (t : Tg) (i : Nat) (e : Option (Ex FN))
  | par3 (i : Nat) (a : Ex FN) (j : Nat) (b : Ex FN) (l : Nat) (d : Ex FN)
  | setD (i : Nat) (k v : Ex FN)
  | setC (i : Nat) (j : Nat) (v : Ex FN)
  | swpD (i k l : Nat) (e : Ex FN)
  | ife (c : Ex FN) (a b : List (Sm FN))
  | fr (t : Tg) (it : Ie FN) (b : List (Sm FN))
  | whl (c : Ex FN) (b : List (Sm FN))
  | ret (e : Ex FN)
  | retCup (es : List (Ex FN))
  | addPop (k i : Nat) (e : Ex FN)
  | rse (cl : Str)
  | rsa (cl : Str) (e : Ex FN)
  | tryR (e : Ex FN)
  | exp (e : Ex FN)

/-! ### meaning -/
inductive Slot where
  | no | val (v : PV) | own (v : PV)
abbrev Env := List Slot
def ownO : Option PV → Option PV
  | some (.lst xs) => some (.lst xs)
  | some (.dic k) => some (.dic k)
  | some (.dki ks vs) => some (.dki ks vs)
  | _ => none
def slotR (o : Bool) (x : R PV) : R Slot := x.bind fun z c => if o then (match ownO (some z) with
  | some v => .ok (.own v) c
  | none => .stuck) else .ok (.val z) c
def varv (env : Env) (i : Nat) : Option PV := match env[i]? with
  | some (.val v) => some v
  | _ => none
def borv (env : Env) (i : Nat) : Option PV := match env[i]? with
  | some (.val v) => some v
  | some (.own v) => some v
  | _ => none
def wipeP (env : Env) : List Nat → Env
  | [] => env
  | v :: vs => (wipeP env vs).set v .no
mutual
def bindT : Tg → PV → Env → Option Env
  | .name i, v, env => some (env.set i (.val v))
  | .tup ts, v, env => match v with
    | .tup xs => bindTs ts xs env
    | _ => none
def bindTs : List Tg → List PV → Env → Option Env
  | [], [], env => some env
  | t :: ts, x :: xs, env => match bindT t x env with
    | some env' => bindTs ts xs env'
    | none => none
  | _, _, _ => none
end
/-- the turns of a comprehension: what each one puts out; n items are there already -/
def loopC (f : PV → Nat → List PV → R (List PV)) : List PV → Nat → List PV → R (List PV)
  | [], _, c => .ok [] c
  | x :: r, n, c => ((f x n c).calm).bind fun ys c => (loopC f r (n + ys.length) c).bind fun zs c => .ok (ys ++ zs) c
def truthR (x : R PV) : R Bool := x.bind fun v c => match truth v with
  | some b => .ok b c
  | none => .stuck
def optI : PV → Option Int
  | .int i => some i
  | _ => none
def zipV : List PV → List PV → List PV
  | x :: xs, y :: ys => .tup [x, y] :: zipV xs ys
  | _, _ => []
def enumV : Nat → List PV → List PV
  | _, [] => []
  | n, x :: xs => .tup [.int n, x] :: enumV (n + 1) xs
def asSeq : PV → Option (List PV)
  | .tup xs => some xs
  | .lst xs => some xs
  | .str s => some (s.cps.toList.map fun d => .str ⟨#[d]⟩)
  | .dic kvs => some (kvs.map (·.1))
  | .rg a b => if okR a && okR b then some (rng a b) else none
  | _ => none
/-- {k: v, ..}[x] -/
def pickV : List Str → List PV → Str → Option PV
  | k :: ks, v :: vs, s => if k = s then some v else pickV ks vs s
  | _, _, _ => none
def pickR (ks : List Str) (vs : List PV) (x : PV) (c : List PV) : R PV := match x with
  | .str s => pureR (pickV ks vs s) c
  | _ => .stuck
/-- x in {k: v, ..} -/
def inC (neg : Bool) (ks : List Str) (x : PV) (c : List PV) : R PV := match x with
  | .str s => .ok (.bl (decide (s ∈ ks) != neg)) c
  | _ => .stuck
/-- the classes of errors -/
def excNames : List Str := ["BesidesError", "InvalidNamed", "InvalidCompany", "InvalidScript", "InvalidPerson", "InvalidBesides", "NotTwo", "TooMany", "InvalidNumber", "InvalidOrder", "InvalidText", "InvalidScripts", "InvalidLot", "InvalidStock", "InvalidGoal", "InvalidPairs", "InvalidWish", "InvalidWeaving", "InvalidSummary", "InvalidOwn", "InvalidOne", "InvalidTimes", "InvalidSupply", "InvalidFacts", "InvalidSided", "InvalidSidedScript", "InvalidBook", "InvalidGuest", "InvalidDeed", "InvalidFriends", "NothingToUndo", "NothingToRedo"]
/-- is the class cl one that an except clause of h takes? -/
def subX (cl h : Str) : Bool := decide (cl = h) || decide (h = "BesidesError")
/-- what the first clause that takes it hands back (none: not told) -/
def takeX : List (Str × Option Str) → Str → Option Str
  | [], _ => none
  | (h, v) :: r, cl => if subX cl h then v else takeX r cl
/-- a text that ends by the sign 0 is followed by the number that the error keeps -/
def cutMark (s : Str) : Option Str := if s.cps.back? = some 0 then some ⟨s.cps.pop⟩ else none
def okLim (n : Int) : Bool := decide (n.natAbs.log2 < 1920) && decide (((toString n : String) : Str).length ≤ 400)
def fillX (arg : PV) (s : Str) : Option PV := match cutMark s with
  | none => some (.str s)
  | some p => match arg with
    | .int n => if okLim n && decide (p.length ≤ 400) then some (.str (p ++ ((toString n : String) : Str))) else none
    | _ => none
def toldR (hs : List (Str × Option Str)) (v : Str) (x : R PV) : R PV := match x with
  | .ok _ c => .ok (.str v) c
  | .exc cl arg c => pureR ((takeX hs cl).bind (fillX arg)) c
  | .stuck => .stuck
/-- which def is held by a name -/
def lookF {FN : Type} : List (Str × FN) → Str → Option FN
  | [], _ => none
  | (k, f) :: r, x => if k = x then some f else lookF r x
def fnOf {FN : Type} (fs : List (Str × FN)) (v : PV) : Option FN := match v with
  | .fnv x => lookF fs x
  | _ => none
def seqR (o : Option (List PV)) (c : List PV) : R (List PV) := match o with
  | some xs => .ok xs c
  | none => .stuck
section
variable {FN : Type} (C : FN → List PV → List PV → R PV)
mutual
def evalE : Ex FN → Env → List PV → R PV
  | .bad, _, _ => .stuck
  | .con v, _, c => .ok v c
  | .var i, env, c => pureR (varv env i) c
  | .bor i, env, c => pureR (borv env i) c
  | .bin o a b, env, c => (evalE a env c).bind fun x c => (evalE b env c).bind fun y c => pureR (binop o x y) c
  | .neg a, env, c => (evalE a env c).bind fun x c => match x with
    | .int i => .ok (.int (-i)) c
    | _ => .stuck
  | .nt a, env, c => (truthR (evalE a env c)).bind fun b c => .ok (.bl (!b)) c
  | .and a b, env, c => (evalE a env c).bind fun x c => match truth x with
    | some true => evalE b env c
    | some false => .ok x c
    | none => .stuck
  | .or a b, env, c => (evalE a env c).bind fun x c => match truth x with
    | some true => .ok x c
    | some false => evalE b env c
    | none => .stuck
  | .ite t a b, env, c => (truthR (evalE t env c)).bind fun k c => if k then evalE a env c else evalE b env c
  | .cmp o a b, env, c => (evalE a env c).bind fun x c => (evalE b env c).bind fun y c => pureR (cmpop o x y) c
  | .chain a b d, env, c => (evalE a env c).bind fun x c => (evalE b env c).bind fun y c => match cmpop .le x y with
    | some (.bl true) => (evalE d env c).bind fun z c => pureR (cmpop .le y z) c
    | some (.bl false) => .ok (.bl false) c
    | _ => .stuck
  | .tup es, env, c => (evalEs es env c).bind fun xs c => pureR (mkTup xs) c
  | .lst es, env, c => (evalEs es env c).bind fun xs c => pureR (mkLst xs) c
  | .ix a b, env, c => (evalE a env c).bind fun x c => (evalE b env c).bind fun y c => pureR (item x y c) c
  | .sl a lo hi, env, c => (evalE a env c).bind fun x c => (evalO lo env c).bind fun l c => (evalO hi env c).bind fun h c => pureR (slice x l h) c
  | .call f es, env, c => (evalEs es env c).bind fun xs c => C f xs c
  | .fnm x, _, c => .ok (.fnv x) c
  | .callv fs i es, env, c => match (varv env i).bind (fnOf fs) with
    | some f => (evalEs es env c).bind fun xs c => C f xs c
    | none => .stuck
  | .blt b es, env, c => (evalEs es env c).bind fun xs c => pureR (bltop b xs) c
  | .mth m a es, env, c => (evalE a env c).bind fun x c => guardR (recv m x) ((evalEs es env c).bind fun xs c => pureR (mthop m x xs) c)
  | .isin a t, env, c => (evalE a env c).bind fun x c => pureR (blV (isTy t x)) c
  | .dcat a b, env, c => (evalE a env c).bind fun x c => (pureR (bltop .dchk [x]) c).bind fun x c => (evalE b env c).bind fun y c => pureR (bltop .dcat [x, y]) c
  | .dadd a k v, env, c => (evalE a env c).bind fun x c => (pureR (bltop .dchk [x]) c).bind fun x c => (evalE k env c).bind fun y c => (evalE v env c).bind fun u c => pureR (bltop .dadd [x, y, u]) c
  | .told hs v e, env, c => toldR hs v (evalE e env c)
  | .pickC kvs e, env, c => (evalE e env c).bind fun x c => pickR (kvs.map (·.1)) (kvs.map (·.2)) x c
  | .inC neg kvs e, env, c => (evalE e env c).bind fun x c => inC neg (kvs.map (·.1)) x c
  | .pick ks es e, env, c => (evalEs es env c).bind fun vs c => (evalE e env c).bind fun x c => pickR ks vs x c
  | .comp vs e t it cond, env, c => (evalI it env c).bind fun items c =>
      (loopC (fun x n c => match bindT t x (wipeP env vs) with
        | some env1 => (condR cond env1 c).bind fun k c => if k then (evalE e env1 c).bind fun y c => guardR (decide (n < LIM)) (.ok [y] c) else .ok [] c
        | none => .stuck) items 0 c).bind fun ys c => .ok (.lst ys) c
  | .comp2 vs vs1 e t it cond t1 it1 cond1, env, c => (evalI it env c).bind fun items c =>
      (loopC (fun x n c => match bindT t x (wipeP env vs) with
        | some env1 => (condR cond env1 c).bind fun k c => if k then
            ((evalI it1 env1 c).bind fun items1 c => loopC (fun x n c => match bindT t1 x (wipeP env1 vs1) with
              | some env2 => (condR cond1 env2 c).bind fun k c => if k then (evalE e env2 c).bind fun y c => guardR (decide (n < LIM)) (.ok [y] c) else .ok [] c
              | none => .stuck) items1 n c)
          else .ok [] c
        | none => .stuck) items 0 c).bind fun ys c => .ok (.lst ys) c
def evalEs : List (Ex FN) → Env → List PV → R (List PV)
  | [], _, c => .ok [] c
  | e :: r, env, c => (evalE e env c).bind fun x c => (evalEs r env c).bind fun xs c => .ok (x :: xs) c
def evalO : Option (Ex FN) → Env → List PV → R (Option Int)
  | none, _, c => .ok none c
  | some e, env, c => (evalE e env c).bind fun x c => match x with
    | .int i => .ok (some i) c
    | _ => .stuck
def condR : Option (Ex FN) → Env → List PV → R Bool
  | none, _, c => .ok true c
  | some e, env, c => (evalE e env c).bind fun v c => match truth v with
    | some b => .ok b c
    | none => .stuck
def evalI : Ie FN → Env → List PV → R (List PV)
  | .seq e, env, c => (evalE e env c).bind fun x c => seqR (asSeq x) c
  | .range1 a, env, c => (evalE a env c).bind fun x c => match x with
    | .int b => if okR b then .ok (rng 0 b) c else .stuck
    | _ => .stuck
  | .range2 a b, env, c => (evalE a env c).bind fun x c => (evalE b env c).bind fun y c => match x, y with
    | .int i, .int j => if okR i && okR j then .ok (rng i j) c else .stuck
    | _, _ => .stuck
  | .zip a b, env, c => (evalE a env c).bind fun x c => (evalE b env c).bind fun y c => match x, y with
    | .lst xs, .lst ys => .ok (zipV xs ys) c
    | .tup xs, .tup ys => .ok (zipV xs ys) c
    | .lst xs, .tup ys => .ok (zipV xs ys) c
    | .tup xs, .lst ys => .ok (zipV xs ys) c
    | _, _ => .stuck
  | .enum a, env, c => (evalE a env c).bind fun x c => match x with
    | .lst xs => .ok (enumV 0 xs) c
    | .tup xs => .ok (enumV 0 xs) c
    | _ => .stuck
end

inductive SR where
  | nx (env : Env) (c : List PV)
  | rt (v : PV) (c : List PV)
  | exc (cl : Str) (arg : PV) (env : Env) (c : List PV)
  | stuck
def SR.bind (x : SR) (f : Env → List PV → SR) : SR := match x with
  | .nx env c => f env c
  | .rt v c => .rt v c
  | .exc cl arg env c => .exc cl arg env c
  | .stuck => .stuck
def R.st {α : Type} (x : R α) (env : Env) (f : α → List PV → SR) : SR := match x with
  | .ok a c => f a c
  | .exc cl arg c => .exc cl arg env c
  | .stuck => .stuck
@[simp] theorem SR.bind_nx (env : Env) (c : List PV) (f : Env → List PV → SR) : (SR.nx env c).bind f = f env c := rfl
@[simp] theorem SR.bind_rt (v : PV) (c : List PV) (f : Env → List PV → SR) : (SR.rt v c).bind f = .rt v c := rfl
@[simp] theorem R.st_ok {α : Type} (a : α) (c : List PV) (env : Env) (f : α → List PV → SR) : (R.ok a c).st env f = f a c := rfl
def optS (o : Option Env) (c : List PV) : SR := match o with
  | some env => .nx env c
  | none => .stuck
@[simp] theorem optS_some (env : Env) (c : List PV) : optS (some env) c = .nx env c := rfl
def forL (f : PV → Env → List PV → SR) : List PV → Env → List PV → SR
  | [], env, c => .nx env c
  | x :: r, env, c => (f x env c).bind fun env c => forL f r env c
def whileN (t : Env → List PV → R Bool) (f : Env → List PV → SR) : Nat → Env → List PV → SR
  | 0, _, _ => .stuck
  | n + 1, env, c => (t env c).st env fun b c => if b then (f env c).bind fun env c => whileN t f n env c else .nx env c
def WN : Nat := 1000000
def frzP (env : Env) : List Nat → Env
  | [] => env
  | i :: r => frzP (match env[i]? with
    | some (.own v) => env.set i (.val v)
    | _ => env) r
/-- what is handed back; nothing where something is raised -/
def noX {α : Type} : R α → R α
  | .ok a c => .ok a c
  | _ => .stuck
def popAt (xs : List PV) (i : Int) : Option (PV × List PV) := if LIM < xs.length then none else (ixP xs.length i).bind fun j => xs[j]?.map fun x => (x, xs.eraseIdx j)
mutual
def execS : Sm FN → Env → List PV → SR
  | .bad, _, _ => .stuck
  | .par oi i a oj j b, env, c => (slotR oi (evalE C a env c)).st env fun s c => (slotR oj (evalE C b env c)).st env fun t c => .nx ((env.set i s).set j t) c
  | .asg t e, env, c => (evalE C e env c).st env fun v c => optS (bindT t v env) c
  | .par3 i a j b l d, env, c => (slotR false (evalE C a env c)).st env fun s c => (slotR false (evalE C b env c)).st env fun t c => (slotR false (evalE C d env c)).st env fun u c => .nx (((env.set i s).set j t).set l u) c
  | .own i e, env, c => (slotR true (evalE C e env c)).st env fun s c => .nx (env.set i s) c
  | .frz is, env, c => .nx (frzP env is) c
  | .app i e, env, c => match env[i]? with
    | some (.own (.lst xs)) => (evalE C e env c).st env fun v c => if xs.length < LIM then .nx (env.set i (.own (.lst (xs ++ [v])))) c else .stuck
    | _ => .stuck
  | .popS t i none, env, c => match env[i]? with
    | some (.own (.lst xs)) => (match popAt xs (-1) with
      | some (x, r) => optS (bindT t x (env.set i (.own (.lst r)))) c
      | none => .stuck)
    | _ => .stuck
  | .popS t i (some e), env, c => match env[i]? with
    | some (.own (.lst xs)) => (evalE C e env c).st env fun v c => (match v with
      | .int n => (match popAt xs n with
        | some (x, r) => optS (bindT t x (env.set i (.own (.lst r)))) c
        | none => .stuck)
      | _ => .stuck)
    | _ => .stuck
  | .setD i k v, env, c => (evalE C v env c).st env fun v c => match env[i]? with
    | some (.own (.dic kvs)) => (evalE C k env c).st env fun k c => if isKey k && decide (kvs.length < LIM) then .nx (env.set i (.own (.dic (dput kvs k v)))) c else .stuck
    | some (.own (.dki ks vs)) => (evalE C k env c).st env fun k c => (match k with
      | .int n => if decide (n ∉ ks) && decide (ks.length < LIM) then .nx (env.set i (.own (.dki (ks ++ [n]) (vs ++ [v])))) c else .stuck
      | _ => .stuck)
    | _ => .stuck
  | .setC i j v, env, c => (evalE C v env c).st env fun v c => match env[i]? with
    | some (.val .cup) => if j < c.length then .nx env (c.set j v) else .stuck
    | _ => .stuck
  | .swpD i k l e, env, c => (evalE C e env c).st env fun v c => match env[i]?, varv env k, varv env l, v with
    | some (.own (.dki ks vs)), some (.int m), some (.int n), .tup [v, w] => if decide (m ∈ ks) && decide (n ∈ ks) && decide (ks.length < LIM) then .nx (env.set i (.own (.dki (putI (putI ks vs m v).1 (putI ks vs m v).2 n w).1 (putI (putI ks vs m v).1 (putI ks vs m v).2 n w).2))) c else .stuck
    | _, _, _, _ => .stuck
  | .ife t a b, env, c => (truthR (evalE C t env c)).st env fun k c => if k then execSs a env c else execSs b env c
  | .fr t it b, env, c => (evalI C it env c).st env fun items c => forL (fun x env c => match bindT t x env with
      | some env1 => execSs b env1 c
      | none => .stuck) items env c
  | .whl t b, env, c => whileN (fun env c => truthR (evalE C t env c)) (fun env c => execSs b env c) WN env c
  | .ret e, env, c => (evalE C e env c).st env fun v c => .rt v c
  | .retCup es, env, c => (evalEs C es env c).st env fun xs c => match c with
    | [] => if xs.isEmpty then .stuck else if xs.length ≤ LIM then .rt .cup xs else .stuck
    | _ => .stuck
  | .addPop k i e, env, c => match env[k]?, env[i]? with
    | some (.val (.tup ys)), some (.own (.lst xs)) => (evalE C e env c).st env fun v c => (match v with
      | .int n => (match popAt xs n with
        | some (x, r) => if ys.length < LIM then .nx ((env.set i (.own (.lst r))).set k (.val (.tup (ys ++ [x])))) c else .stuck
        | none => .stuck)
      | _ => .stuck)
    | _, _ => .stuck
  | .rse cl, env, c => .exc cl .non env c
  | .rsa cl e, env, c => (evalE C e env c).st env fun v c => match v with
    | .int n => if okLim n then .exc cl (.int n) env c else .stuck
    | _ => .stuck
  | .tryR e, env, c => (noX (evalE C e env c)).st env fun v c => .rt v c
  | .exp e, env, c => (evalE C e env c).st env fun _ c => .nx env c
def execSs : List (Sm FN) → Env → List PV → SR
  | [], env, c => .nx env c
  | s :: r, env, c => (execS s env c).bind fun env c => execSs r env c
end
end
structure FnP (FN : Type) where
  np : Nat
  nl : Nat
  body : List (Sm FN)
def startP (np nl : Nat) (args : List PV) : Env := args.map .val ++ List.replicate (nl - np) .no
def finR (x : SR) : R PV := match x with
  | .nx _ c => .ok .non c
  | .rt v c => .ok v c
  | .exc cl a _ c => .exc cl a c
  | .stuck => .stuck
@[simp] theorem finR_rt (v : PV) (c : List PV) : finR (.rt v c) = .ok v c := rfl
@[simp] theorem finR_nx (e : Env) (c : List PV) : finR (.nx e c) = .ok .non c := rfl
def callK {FN : Type} (P : FN → FnP FN) : Nat → FN → List PV → List PV → R PV
  | 0, _, _, _ => .stuck
  | k + 1, f, args, c => if args.length = (P f).np then finR (execSs (callK P k) (P f).body (startP (P f).np (P f).nl args) c) else .stuck
end PP

set_option Elab.async false
set_option linter.all false
set_option maxRecDepth 100000
/-! PP2: what stands for a pure value in the heap. -/
namespace PP
open PySem PySem.Spec PyProof.Rows L2

/-- the ground: program, world, written part -/
structure Wd where
  P : Program
  w : World
  K : PySem.W.Frag
  mg : Str → Option Value
abbrev wd (X : Cx) : Wd := ⟨X.prog, X.w, X.K, X.mg⟩
/-- the table of a def's code object, and how its lambdas are called -/
def tsO (K : PySem.W.Frag) (o : Obj) : Option (Addr × Addr × Str) := match o.data with
  | .func fd => (match fd.code with
    | .ref c => if PySem.W.codeHdIn K c (He.tabOf K c) then some (c, He.tabOf K c, (fd.qualname ++ ".<locals>.") ++ "<lambda>") else none
    | _ => none)
  | _ => none
def tsA (K : PySem.W.Frag) : List (Addr × Addr × Str) := K.filterMap fun q => tsO K q.2
def tsOf (K : PySem.W.Frag) : List (Addr × Str) := (tsA K).map (·.2)
/-- what is frozen of the heap; where the cup stands -/
structure Gh where
  F : Hp
  c : Option Addr
/-- at a stands the very object o -/
def objO (a : Addr) (o : Obj) : HO := .ext fun h => h.get? a = some o
mutual
def nk : PV → NestedKey
  | .non => .none
  | .bl b => .num (if b then 1 else 0)
  | .int i => .num i
  | .str s => .text s
  | .tup xs => .tup (nks xs)
  | .lst _ => .none
  | .dic _ => .none
  | .dki _ _ => .none
  | .cup => .none
  | .scr _ => .none
  | .rg _ _ => .none
  | .fnv _ => .none
def nks : List PV → List NestedKey
  | [] => []
  | x :: xs => nk x :: nks xs
end
mutual
inductive Rp (T : Wd) (g : Gh) : V → PV → Prop
  | non : Rp T g .non .non
  | bl (b : Bool) : Rp T g (.bl b) (.bl b)
  | int (i : Int) : Rp T g (.int i) (.int i)
  | str (s : Str) : Rp T g (.str s) (.str s)
  | tup {a : Addr} {vs : List V} {ps : List PV} : SqT T.K g.F a vs → RpL T g vs ps → Rp T g (.ref a) (.tup ps)
  | lst {a : Addr} {vs : List V} {ps : List PV} : g.F a = some (.lst vs) → RpL T g vs ps → Rp T g (.ref a) (.lst ps)
  | dic {a : Addr} {o : Obj} {es : Array DictEntry} {ep : Nat} {kvs : List (PV × PV)} : g.F a = some (objO a o) → (a == sysModules) = false → o.ExactDict → o.data = .dict es ep → RpD T g es.toList kvs →
      (kvs.map fun p => nk p.1).Nodup → kvs.length ≤ LIM → Rp T g (.ref a) (.dic kvs)
  | dki {a : Addr} {kvs : List (Key × V)} {ks : List Int} {ps : List PV} : g.F a = some (.dK kvs) → kvs.map (·.1) = ks.map Sum.inl → RpL T g (kvs.map (·.2)) ps → Rp T g (.ref a) (.dki ks ps)
  | cup {a : Addr} : g.c = some a → Rp T g (.ref a) .cup
  | scr {a : Addr} {ns : List Int} : SqL T.K g.F a (ns.map V.int) → Rp T g (.ref a) (.scr ns)
  | rg {a : Addr} {i j : Int} : g.F a = some (.rng i j) → Rp T g (.ref a) (.rg i j)
  | fnv {a : Addr} {x : Str} : T.mg x = some (.ref a) → Rp T g (.ref a) (.fnv x)
inductive RpL (T : Wd) (g : Gh) : List V → List PV → Prop
  | nil : RpL T g [] []
  | cons {v : V} {p : PV} {vs : List V} {ps : List PV} : Rp T g v p → RpL T g vs ps → RpL T g (v :: vs) (p :: ps)
inductive RpD (T : Wd) (g : Gh) : List DictEntry → List (PV × PV) → Prop
  | nil : RpD T g [] []
  | cons {en : DictEntry} {es : List DictEntry} {ka : Addr} {k v : PV} {vv : V} {kvs : List (PV × PV)} : isKey k = true → en.key = .ref ka → Rp T g (.ref ka) k → en.hash = (nestedKind T.P T.w).hash (nk k) → RelV vv en.val → Rp T g vv v → RpD T g es kvs → RpD T g (en :: es) ((k, v) :: kvs)
end
/-- a dict's object -/
structure DicR (T : Wd) (g : Gh) (a : Addr) (o : Obj) (kvs : List (PV × PV)) : Prop where
  sm : (a == sysModules) = false
  ex : o.ExactDict
  at_ : ∃ es ep, o.data = .dict es ep ∧ RpD T g es.toList kvs
  nd : (kvs.map fun p => nk p.1).Nodup
  len : kvs.length ≤ LIM

section
variable {T : Wd} {g g' : Gh}
theorem RpL.length : ∀ {vs : List V} {ps : List PV}, RpL T g vs ps → vs.length = ps.length
  | _, _, .nil => rfl
  | _, _, .cons _ t => by rw [List.length_cons, List.length_cons, RpL.length t]
theorem RpL.get : ∀ {vs : List V} {ps : List PV} {i : Nat} {p : PV}, RpL T g vs ps → ps[i]? = some p → ∃ v, vs[i]? = some v ∧ Rp T g v p
  | _, _, _, _, .nil, e => by simp at e
  | _, _, 0, _, .cons r _, e => by simp at e; subst e; exact ⟨_, rfl, r⟩
  | _, _, i + 1, p, .cons _ t, e => by
    obtain ⟨v, h1, h2⟩ := RpL.get (i := i) (p := p) t (by simpa using e)
    exact ⟨v, by simpa using h1, h2⟩
theorem RpL.append : ∀ {vs ws : List V} {ps qs : List PV}, RpL T g vs ps → RpL T g ws qs → RpL T g (vs ++ ws) (ps ++ qs)
  | _, _, _, _, .nil, s => s
  | _, _, _, _, .cons r t, s => .cons r (RpL.append t s)
theorem RpL.take : ∀ {vs : List V} {ps : List PV} (n : Nat), RpL T g vs ps → RpL T g (vs.take n) (ps.take n)
  | _, _, 0, _ => .nil
  | _, _, _ + 1, .nil => .nil
  | _, _, n + 1, .cons r t => .cons r (RpL.take n t)
theorem RpL.drop : ∀ {vs : List V} {ps : List PV} (n : Nat), RpL T g vs ps → RpL T g (vs.drop n) (ps.drop n)
  | _, _, 0, r => r
  | _, _, _ + 1, .nil => .nil
  | _, _, n + 1, .cons _ t => RpL.drop n t
theorem RpL.set {v : V} {p : PV} (r : Rp T g v p) : ∀ {vs : List V} {ps : List PV} (i : Nat), RpL T g vs ps → RpL T g (vs.set i v) (ps.set i p)
  | _, _, _, .nil => .nil
  | _, _, 0, .cons _ t => .cons r t
  | _, _, i + 1, .cons q t => .cons q (RpL.set r i t)
theorem RpL.erase : ∀ {vs : List V} {ps : List PV} (i : Nat), RpL T g vs ps → RpL T g (vs.eraseIdx i) (ps.eraseIdx i)
  | _, _, _, .nil => .nil
  | _, _, 0, .cons _ t => t
  | _, _, i + 1, .cons q t => .cons q (RpL.erase i t)
theorem RpL.one {v : V} {p : PV} (r : Rp T g v p) : RpL T g [v] [p] := .cons r .nil
theorem RpL.rep {vs : List V} {ps : List PV} (r : RpL T g vs ps) : ∀ n : Nat, RpL T g (List.replicate n vs).flatten (List.replicate n ps).flatten
  | 0 => .nil
  | n + 1 => by
    rw [List.replicate_succ, List.replicate_succ, List.flatten_cons, List.flatten_cons]
    exact r.append (RpL.rep r n)
theorem RpL.ints : ∀ ns : List Int, RpL T g (ns.map V.int) (ns.map PV.int)
  | [] => .nil
  | n :: r => .cons (.int n) (RpL.ints r)
/-- more is frozen -/
structure Ext (g g' : Gh) : Prop where
  F : ∀ a o, g.F a = some o → g'.F a = some o
  c : ∀ a, g.c = some a → g'.c = some a
theorem Ext.refl : Ext g g := ⟨fun _ _ h => h, fun _ h => h⟩
theorem Ext.rd (x : Ext g g') {a : Addr} {u : HO} (h : Rd g.F a u) : Rd g'.F a u := by
  rcases h with h | ⟨o, h⟩
  · exact .inl (x.F _ _ h)
  · exact .inr ⟨o, x.F _ _ h⟩
theorem Ext.sqT (x : Ext g g') {K : PySem.W.Frag} {a : Addr} {vs : List V} (h : SqT K g.F a vs) : SqT K g'.F a vs := h.imp x.rd fun z => z
theorem Ext.sqL (x : Ext g g') {K : PySem.W.Frag} {a : Addr} {vs : List V} (h : SqL K g.F a vs) : SqL K g'.F a vs := h.imp x.rd fun z => z
mutual
theorem Rp.ext (x : Ext g g') : ∀ {v : V} {p : PV}, Rp T g v p → Rp T g' v p
  | _, _, .non => .non
  | _, _, .bl b => .bl b
  | _, _, .int i => .int i
  | _, _, .str s => .str s
  | _, _, .tup h r => .tup (x.sqT h) (RpL.ext x r)
  | _, _, .lst h r => .lst (x.F _ _ h) (RpL.ext x r)
  | _, _, .dic h sm ex d r nd l => .dic (x.F _ _ h) sm ex d (RpD.ext x r) nd l
  | _, _, .dki h k r => .dki (x.F _ _ h) k (RpL.ext x r)
  | _, _, .cup h => .cup (x.c _ h)
  | _, _, .scr h => .scr (x.sqL h)
  | _, _, .rg h => .rg (x.F _ _ h)
  | _, _, .fnv h => .fnv h
theorem RpL.ext (x : Ext g g') : ∀ {vs : List V} {ps : List PV}, RpL T g vs ps → RpL T g' vs ps
  | _, _, .nil => .nil
  | _, _, .cons r t => .cons (Rp.ext x r) (RpL.ext x t)
theorem RpD.ext (x : Ext g g') : ∀ {es : List DictEntry} {kvs : List (PV × PV)}, RpD T g es kvs → RpD T g' es kvs
  | _, _, .nil => .nil
  | _, _, .cons k e r h rv rp t => .cons k e (Rp.ext x r) h rv (Rp.ext x rp) (RpD.ext x t)
end
theorem DicR.ext (x : Ext g g') {a : Addr} {o : Obj} {kvs : List (PV × PV)} (d : DicR T g a o kvs) : DicR T g' a o kvs :=
  ⟨d.sm, d.ex, let ⟨es, ep, h, r⟩ := d.at_; ⟨es, ep, h, r.ext x⟩, d.nd, d.len⟩
end

/-- the heap: the frozen part, the cup's content -/
structure HR (T : Wd) (g : Gh) (c : List PV) (H : Hp) : Prop where
  sub : ∀ a o, g.F a = some o → H a = some o
  ntb : ∀ a ps, g.F a ≠ some (.tbl ps)
  tabs : LamX.Tabs (tsOf T.K) H
  cup0 : g.c = none → c = []
  cup1 : ∀ a, g.c = some a → g.F a = none ∧ c ≠ [] ∧ ∃ vs, H a = some (.lst vs) ∧ RpL T g vs c
/-- nothing stands there but perhaps a table -/
def Nt (H : Hp) (a : Addr) : Prop := ∀ o, H a = some o → ∃ ps, o = .tbl ps
theorem Nt.of {H : Hp} {a : Addr} (n : H a = none) : Nt H a := fun o e => by rw [n] at e; cases e
theorem Nt.lst {H : Hp} {a : Addr} {vs : List V} (n : Nt H a) (e : H a = some (.lst vs)) : False := by
  obtain ⟨ps, z⟩ := n _ e
  cases z
theorem Nt.no {H : Hp} {a : Addr} {o : HO} (n : Nt H a) (e : H a = some o) (nt : ∀ ps, o ≠ .tbl ps) : False := by
  obtain ⟨ps, z⟩ := n _ e
  exact nt ps z
/-- from one state to a later one -/
structure Pres (g : Gh) (H : Hp) (g' : Gh) (H' : Hp) : Prop where
  ext : Ext g g'
  keep : ∀ a o, H a = some o → g'.c ≠ some a → (∀ ps, o ≠ .tbl ps) → H' a = some o
  newF : ∀ a o, g'.F a = some o → g.F a = some o ∨ Nt H a
  newC : ∀ a, g'.c = some a → g.c = some a ∨ Nt H a
  live : ∀ a o, H a = some o → (∀ ps, o ≠ .tbl ps) → ∃ o', H' a = some o' ∧ ∀ ps, o' ≠ .tbl ps
section
variable {T : Wd} {g g1 g2 : Gh} {H H1 H2 : Hp} {c : List PV}
theorem Pres.refl : Pres g H g H := ⟨Ext.refl, fun _ _ h _ _ => h, fun _ _ h => .inl h, fun _ h => .inl h, fun _ o h nt => ⟨o, h, nt⟩⟩
theorem Pres.dead (x : Pres g H g1 H1) {a : Addr} (h : Nt H1 a) : Nt H a := by
  intro o e
  by_cases nt : ∀ ps, o ≠ .tbl ps
  · obtain ⟨o', e', nt'⟩ := x.live a o e nt
    exact (h.no e' nt').elim
  · exact Classical.byContradiction fun z => nt fun ps w => z ⟨ps, w⟩
theorem Pres.trans (x : Pres g H g1 H1) (y : Pres g1 H1 g2 H2) : Pres g H g2 H2 where
  ext := ⟨fun a o h => y.ext.F a o (x.ext.F a o h), fun a h => y.ext.c a (x.ext.c a h)⟩
  keep := fun a o h n nt => y.keep a o (x.keep a o h (fun z => n (y.ext.c a z)) nt) n nt
  newF := fun a o h => by
    rcases y.newF a o h with z | z
    · exact x.newF a o z
    · exact .inr (x.dead z)
  newC := fun a h => by
    rcases y.newC a h with z | z
    · exact x.newC a z
    · exact .inr (x.dead z)
  live := fun a o h nt => by
    obtain ⟨o', e', nt'⟩ := x.live a o h nt
    exact y.live a o' e' nt'
/-- a frozen object more -/
def Gh.put (g : Gh) (a : Addr) (o : HO) : Gh := ⟨upd g.F a o, g.c⟩
theorem HR.neN (h : HR T g c H) {a : Addr} (n : Nt H a) : g.F a = none ∧ g.c ≠ some a := by
  refine ⟨?_, fun e => ?_⟩
  · cases e : g.F a with
    | none => rfl
    | some o => exact (n.no (h.sub a o e) fun ps z => h.ntb a ps (by rw [e, z])).elim
  · obtain ⟨_, _, vs, q, _⟩ := h.cup1 a e
    exact (n.lst q).elim
theorem HR.ne (h : HR T g c H) {a : Addr} (n : H a = none) : g.F a = none ∧ g.c ≠ some a := h.neN (.of n)
theorem Ext.put {a : Addr} {o : HO} (n : g.F a = none) : Ext g (g.put a o) := by
  refine ⟨fun b u h => ?_, fun _ h => h⟩
  have : b ≠ a := by
    rintro rfl
    rw [n] at h; cases h
  show upd g.F a o b = some u
  rw [upd_ne this]; exact h
theorem not_tbl {a : Addr} {o : Obj} : ∀ ps, objO a o ≠ .tbl ps := fun ps z => by unfold objO at z; cases z
/-- a new object: the tables stay -/
theorem tabs_new {ts : List (Addr × Str)} (h : LamX.Tabs ts H) {a : Addr} {o : HO} (n : H a = none) : LamX.Tabs ts (upd H a o) := h.ext fun b u e => by rw [upd_ne (fun z => by rw [z, n] at e; cases e)]; exact e
/-- what stands at D is no table and no code object -/
structure Wr (H : Hp) (D : Addr) : Prop where
  tb : ∀ ps, H D ≠ some (.tbl ps)
  co : ∀ q, H D ≠ some (LamX.CodeO D q)
theorem Wr.lst {H : Hp} {D : Addr} {vs : List V} (e : H D = some (.lst vs)) : Wr H D :=
  ⟨fun ps z => (by rw [e] at z; cases z), fun q z => (by rw [e] at z; unfold LamX.CodeO at z; cases z)⟩
theorem Wr.no {H : Hp} {D : Addr} (e : H D = none) : Wr H D :=
  ⟨fun ps z => (by rw [e] at z; cases z), fun q z => (by rw [e] at z; cases z)⟩
theorem Wr.dK {H : Hp} {D : Addr} {kvs : List (Key × V)} (e : H D = some (.dK kvs)) : Wr H D :=
  ⟨fun ps z => (by rw [e] at z; cases z), fun q z => (by rw [e] at z; unfold LamX.CodeO at z; cases z)⟩
theorem Wr.dic {H : Hp} {D : Addr} {o : Obj} {es : Array DictEntry} {ep : Nat} (e : H D = some (objO D o)) (d : o.data = .dict es ep) : Wr H D := by
  refine ⟨fun ps z => (by rw [e] at z; exact not_tbl ps (Option.some.inj z)), fun q z => ?_⟩
  rw [e] at z
  have z1 : HO.ext (fun h => h.get? D = some o) = HO.ext (fun h => ∃ (oc : Obj) (vs : Array Value) (t : Tok), h.get? D = some oc ∧ oc.data = .fields vs ∧ vs[1]? = some (.str q t)) := Option.some.inj z
  injection z1 with z2
  have hl : ({ objs := Array.replicate (D + 1) o } : Heap).get? D = some o := by
    unfold Heap.get?
    have q1 : (Array.replicate (D + 1) o)[D]? = some o := by
      rw [Array.getElem?_replicate]
      exact if_pos (Nat.lt_succ_self D)
    simp only [q1]
    obtain ⟨a, b, dt, c⟩ := o
    cases d
    rfl
  have z3 := (congrFun z2 { objs := Array.replicate (D + 1) o }).mp hl
  obtain ⟨oc, vs, t, h1, h2, _⟩ := z3
  rw [hl] at h1
  cases h1
  rw [d] at h2
  cases h2
theorem Wr.dicR {T : Wd} {g : Gh} {kvs : List (PV × PV)} {H : Hp} {D : Addr} {o : Obj} (e : H D = some (objO D o)) (d : DicR T g D o kvs) : Wr H D := by
  obtain ⟨es, ep, h, _⟩ := d.at_
  exact .dic e h
/-- a new frozen object -/
theorem HR.alloc (h : HR T g c H) {a : Addr} {o : HO} (n : H a = none) (nt : ∀ ps, o ≠ .tbl ps := by first | (intro ps z; cases z; done) | exact not_tbl) : Pres g H (g.put a o) (upd H a o) ∧ HR T (g.put a o) c (upd H a o) := by
  obtain ⟨n1, n2⟩ := h.ne n
  have ne : ∀ b u, H b = some u → b ≠ a := fun b u e z => by rw [z, n] at e; cases e
  refine ⟨⟨Ext.put n1, fun b u e _ _ => by rw [upd_ne (ne b u e)]; exact e, fun b u e => ?_, fun b e => .inl e, fun b u e nt => ⟨u, by rw [upd_ne (ne b u e)]; exact e, nt⟩⟩, ⟨fun b u e => ?_, fun b ps e => ?_, tabs_new h.tabs n, h.cup0, fun b e => ?_⟩⟩
  · by_cases hb : b = a
    · exact .inr (.of (hb ▸ n))
    · have e' : upd g.F a o b = some u := e
      rw [upd_ne hb] at e'
      exact .inl e'
  · have e' : upd g.F a o b = some u := e
    by_cases hb : b = a
    · subst hb; rw [upd_same] at e' ⊢; exact e'
    · rw [upd_ne hb] at e' ⊢; exact h.sub b u e'
  · have e' : upd g.F a o b = some (.tbl ps) := e
    by_cases hb : b = a
    · subst hb; rw [upd_same] at e'; exact nt ps (Option.some.inj e')
    · rw [upd_ne hb] at e'; exact h.ntb b ps e'
  · obtain ⟨f, ne0, vs, q, r⟩ := h.cup1 b e
    have hb : b ≠ a := ne b _ q
    refine ⟨?_, ne0, vs, by rw [upd_ne hb]; exact q, r.ext (Ext.put n1)⟩
    show upd g.F a o b = none
    rw [upd_ne hb]; exact f
/-- a new object of one's own -/
theorem HR.fresh (h : HR T g c H) {a : Addr} {o : HO} (n : H a = none) : Pres g H g (upd H a o) ∧ HR T g c (upd H a o) := by
  have ne : ∀ b u, H b = some u → b ≠ a := fun b u e z => by rw [z, n] at e; cases e
  refine ⟨⟨Ext.refl, fun b u e _ _ => by rw [upd_ne (ne b u e)]; exact e, fun _ _ e => .inl e, fun b e => .inl e, fun b u e nt => ⟨u, by rw [upd_ne (ne b u e)]; exact e, nt⟩⟩, ⟨fun b u e => ?_, h.ntb, tabs_new h.tabs n, h.cup0, fun b e => ?_⟩⟩
  · rw [upd_ne (ne b u (h.sub b u e))]; exact h.sub b u e
  · obtain ⟨f, ne0, vs, q, r⟩ := h.cup1 b e
    exact ⟨f, ne0, vs, by rw [upd_ne (ne b _ q)]; exact q, r⟩
/-- an object of one's own is frozen -/
theorem HR.freeze (h : HR T g c H) {a : Addr} {o : HO} (e : H a = some o) (n : g.F a = none) (nc : g.c ≠ some a) (nt : ∀ ps, o ≠ .tbl ps := by first | (intro ps z; cases z; done) | exact not_tbl) : HR T (g.put a o) c H := by
  refine ⟨fun b u q => ?_, fun b ps q => ?_, h.tabs, h.cup0, fun b q => ?_⟩
  · have q' : upd g.F a o b = some u := q
    by_cases hb : b = a
    · subst hb; rw [upd_same] at q'; rw [e]; exact q'
    · rw [upd_ne hb] at q'; exact h.sub b u q'
  · have q' : upd g.F a o b = some (.tbl ps) := q
    by_cases hb : b = a
    · subst hb; rw [upd_same] at q'; exact nt ps (Option.some.inj q')
    · rw [upd_ne hb] at q'; exact h.ntb b ps q'
  · obtain ⟨f, ne0, vs, z, r⟩ := h.cup1 b q
    have hb : b ≠ a := fun y => nc (y ▸ q)
    refine ⟨?_, ne0, vs, z, r.ext (Ext.put n)⟩
    show upd g.F a o b = none
    rw [upd_ne hb]; exact f
theorem Pres.freeze (x : Pres g H g1 H1) {a : Addr} {o : HO} (n : g1.F a = none) (na : Nt H a) : Pres g H (g1.put a o) H1 := by
  refine ⟨⟨fun b u h => (Ext.put n).F b u (x.ext.F b u h), x.ext.c⟩, x.keep, fun b u h => ?_, x.newC, x.live⟩
  have h' : upd g1.F a o b = some u := h
  by_cases hb : b = a
  · exact .inr (hb ▸ na)
  · rw [upd_ne hb] at h'; exact x.newF b u h'
theorem HR.sqL (h : HR T g c H) {K : PySem.W.Frag} {a : Addr} {vs : List V} (q : SqL K g.F a vs) : SqL K H a vs := q.imp (fun z => by
  rcases z with z | ⟨o, z⟩
  · exact .inl (h.sub _ _ z)
  · exact .inr ⟨o, h.sub _ _ z⟩) fun z => z
theorem HR.sqT (h : HR T g c H) {K : PySem.W.Frag} {a : Addr} {vs : List V} (q : SqT K g.F a vs) : SqT K H a vs := q.imp (fun z => by
  rcases z with z | ⟨o, z⟩
  · exact .inl (h.sub _ _ z)
  · exact .inr ⟨o, h.sub _ _ z⟩) fun z => z
end

/-- an object of one's own, not frozen -/
def OwnR (T : Wd) (g : Gh) (H : Hp) (a : Addr) : PV → Prop
  | .lst ps => g.c ≠ some a ∧ ∃ vs, H a = some (.lst vs) ∧ RpL T g vs ps
  | .dic kvs => g.c ≠ some a ∧ ∃ o, H a = some (objO a o) ∧ DicR T g a o kvs
  | .dki ks ps => g.c ≠ some a ∧ ∃ kvs : List (Key × V), H a = some (.dK kvs) ∧ kvs.map (·.1) = ks.map Sum.inl ∧ RpL T g (kvs.map (·.2)) ps
  | _ => False
/-- a value, perhaps an object of one's own: to be looked at -/
def Ct (T : Wd) (g : Gh) (H : Hp) (v : V) (p : PV) : Prop := Rp T g v p ∨ ∃ a, v = .ref a ∧ OwnR T g H a p
section
variable {T : Wd} {g g' : Gh} {H H' : Hp} {c : List PV} {v : V}
theorem Ct.lst (h : HR T g c H) {ps : List PV} (x : Ct T g H v (.lst ps)) : ∃ a vs, v = .ref a ∧ H a = some (.lst vs) ∧ RpL T g vs ps := by
  rcases x with x | ⟨a, rfl, _, vs, e, r⟩
  · cases x with
    | lst e r => exact ⟨_, _, rfl, h.sub _ _ e, r⟩
  · exact ⟨a, vs, rfl, e, r⟩
theorem Ct.tup (h : HR T g c H) {ps : List PV} (x : Ct T g H v (.tup ps)) : ∃ a vs, v = .ref a ∧ SqT T.K H a vs ∧ RpL T g vs ps := by
  rcases x with x | ⟨a, rfl, z⟩
  · cases x with
    | tup e r => exact ⟨_, _, rfl, h.sqT e, r⟩
  · exact z.elim
theorem Ct.dic (h : HR T g c H) {kvs : List (PV × PV)} (x : Ct T g H v (.dic kvs)) : ∃ a o, v = .ref a ∧ H a = some (objO a o) ∧ DicR T g a o kvs := by
  rcases x with x | ⟨a, rfl, _, o, e, r⟩
  · cases x with
    | dic e sm ex d r nd l => exact ⟨_, _, rfl, h.sub _ _ e, sm, ex, ⟨_, _, d, r⟩, nd, l⟩
  · exact ⟨a, o, rfl, e, r⟩
theorem Ct.int {i : Int} (x : Ct T g H v (.int i)) : v = .int i := by
  rcases x with x | ⟨a, rfl, z⟩
  · cases x; rfl
  · exact z.elim
theorem Ct.bl {i : Bool} (x : Ct T g H v (.bl i)) : v = .bl i := by
  rcases x with x | ⟨a, rfl, z⟩
  · cases x; rfl
  · exact z.elim
theorem Ct.str {i : Str} (x : Ct T g H v (.str i)) : v = .str i := by
  rcases x with x | ⟨a, rfl, z⟩
  · cases x; rfl
  · exact z.elim
theorem Ct.non (x : Ct T g H v .non) : v = .non := by
  rcases x with x | ⟨a, rfl, z⟩
  · cases x; rfl
  · exact z.elim
theorem Ct.cup (x : Ct T g H v .cup) : ∃ a, v = .ref a ∧ g.c = some a := by
  rcases x with x | ⟨a, rfl, z⟩
  · cases x with
    | cup e => exact ⟨_, rfl, e⟩
  · exact z.elim
theorem Ct.scr (h : HR T g c H) {ns : List Int} (x : Ct T g H v (.scr ns)) : ∃ a, v = .ref a ∧ SqL T.K H a (ns.map V.int) := by
  rcases x with x | ⟨a, rfl, z⟩
  · cases x with
    | scr e => exact ⟨_, rfl, h.sqL e⟩
  · exact z.elim
theorem Ct.dki (h : HR T g c H) {ks : List Int} {ps : List PV} (x : Ct T g H v (.dki ks ps)) : ∃ (a : Addr) (kvs : List (Key × V)), v = .ref a ∧ H a = some (.dK kvs) ∧ kvs.map (·.1) = ks.map Sum.inl ∧ RpL T g (kvs.map (·.2)) ps := by
  rcases x with x | ⟨a, rfl, _, kvs, e, k, r⟩
  · cases x with
    | dki e k r => exact ⟨_, _, rfl, h.sub _ _ e, k, r⟩
  · exact ⟨a, kvs, rfl, e, k, r⟩
theorem OwnR.nc {a : Addr} {p : PV} (o : OwnR T g H a p) : g.c ≠ some a := by
  cases p with
  | lst ps => exact o.1
  | dic kvs => exact o.1
  | dki ks ps => exact o.1
  | _ => exact o.elim
theorem OwnR.thereN {a : Addr} {p : PV} (o : OwnR T g H a p) (n : Nt H a) : False := by
  cases p with
  | lst ps => obtain ⟨_, vs, e, r⟩ := o; exact n.lst e
  | dic kvs => obtain ⟨_, ob, e, r⟩ := o; exact n.no e not_tbl
  | dki ks ps => obtain ⟨_, kvs, e, r⟩ := o; exact n.no e fun _ z => by cases z
  | _ => exact o.elim
theorem OwnR.there {a : Addr} {p : PV} (o : OwnR T g H a p) : ∃ u, H a = some u := by
  cases p with
  | lst ps => obtain ⟨_, vs, e, r⟩ := o; exact ⟨_, e⟩
  | dic kvs => obtain ⟨_, ob, e, r⟩ := o; exact ⟨_, e⟩
  | dki ks ps => obtain ⟨_, kvs, e, r⟩ := o; exact ⟨_, e⟩
  | _ => exact o.elim
theorem OwnR.pres (x : Pres g H g' H') {a : Addr} {p : PV} (o : OwnR T g H a p) : OwnR T g' H' a p := by
  have n : g'.c ≠ some a := fun z => by
    rcases x.newC a z with w | w
    · exact o.nc w
    · obtain ⟨u, hu⟩ := o.there
      exact o.thereN w
  cases p with
  | lst ps => obtain ⟨_, vs, e, r⟩ := o; exact ⟨n, vs, x.keep a _ e n (fun _ z => by cases z), r.ext x.ext⟩
  | dic kvs => obtain ⟨_, ob, e, r⟩ := o; exact ⟨n, ob, x.keep a _ e n not_tbl, r.ext x.ext⟩
  | dki ks ps => obtain ⟨_, kvs, e, k, r⟩ := o; exact ⟨n, kvs, x.keep a _ e n (fun _ z => by cases z), k, r.ext x.ext⟩
  | _ => exact o.elim
theorem Ct.pres (x : Pres g H g' H') {p : PV} (y : Ct T g H v p) : Ct T g' H' v p := by
  rcases y with y | ⟨a, rfl, o⟩
  · exact .inl (y.ext x.ext)
  · exact .inr ⟨a, rfl, o.pres x⟩
/-- frozen, an object of one's own is a value -/
theorem OwnR.rp {a : Addr} {p : PV} (o : OwnR T g H a p) (n : g.F a = none) : ∃ u, H a = some u ∧ Rp T (g.put a u) (.ref a) p ∧ ∀ ps, u ≠ .tbl ps := by
  cases p with
  | lst ps =>
    obtain ⟨_, vs, e, r⟩ := o
    exact ⟨_, e, .lst upd_same (r.ext (Ext.put n)), fun _ z => by cases z⟩
  | dic kvs =>
    obtain ⟨_, ob, e, d⟩ := o
    obtain ⟨es, ep, h, r⟩ := d.at_
    exact ⟨_, e, .dic upd_same d.sm d.ex h (r.ext (Ext.put n)) d.nd d.len, not_tbl⟩
  | dki ks ps =>
    obtain ⟨_, kvs, e, k, r⟩ := o
    exact ⟨_, e, .dki upd_same k (r.ext (Ext.put n)), fun _ z => by cases z⟩
  | _ => exact o.elim
end
end PP

set_option Elab.async false
set_option linter.all false
set_option maxRecDepth 100000
/-! PP2i: what is looked at of an own exception class whose __init__ keeps a number. -/
namespace PP
open PySem PySem.Spec PyProof.Rows L2 NdefX
def clsOB (K : PySem.W.Frag) (C : Addr) : Bool := match K.lookup C with
  | some ⟨.type "type", _, .cls cd, sl⟩ => (match cd.mro, sl.toList with
    | .ref C' :: bm, [_, _, _, _, some (.builtin n), _] => C' == C && n == "ValueError.__new__" && !cd.hasDel && cd.hasDict && HandSPX.refsVE bm
    | _, _ => false)
  | _ => false
structure IniD where
  x : Str
  q : Str
  params : Arguments
  body : List Stmt
  scope : Scope
abbrev IniW : Type := Option (Str × Str × Arguments × FuncBody × Scope × Addr × List Str × Addr)
def IniD.val (d : IniD) : IniW := some ("__init__", d.q, d.params, .stmts d.body, d.scope, mainGlobals, ["__class__"], builtinsNs)
def iniO (K : PySem.W.Frag) (x : Str) : IniW := match K.lookup (He.fAd K (x, some "__init__")) with
  | some ⟨_, _, .func fd, _⟩ => some (fd.name, fd.qualname, fd.params, fd.body, fd.scope, fd.globals, fd.closure.map (·.1), fd.builtins)
  | _ => none
/-- what is looked at of the class's __init__ in K -/
def iniB (K : PySem.W.Frag) (file : Str) (C : Addr) (fI : Addr) : Bool := match K.lookup fI with
  | some ⟨_, _, .func fd, _⟩ => (match fd.code, fd.defaults, fd.closure with
    | .ref c, .none, [(_, cc)] => PySem.W.codeIn K (.ref c) fd.qualname && (match K.lookup c with
      | some ⟨_, _, .fields vs, _⟩ => (match (vs[2]? : Option Value) with
        | some (.str f _) => f == file
        | _ => false)
      | _ => false) && (match K.lookup cc with
      | some ⟨_, _, .cell (some (.ref D)), _⟩ => D == C
      | _ => false)
    | _, _, _ => false)
  | _ => false
def isRef (o : Option (Option Value)) (a : Addr) : Bool := match o with
  | some (some (.ref b)) => a == b
  | _ => false
def isBi (o : Option (Option Value)) (n : String) : Bool := match o with
  | some (some (.builtin b)) => n == b
  | _ => false
def isNo (o : Option (Option Value)) : Bool := match o with
  | some none => true
  | _ => false
def isTy' (o : Option Value) (n : String) : Bool := match o with
  | some (.type b) => n == b
  | _ => false
def bt (o : Option Bool) : Bool := match o with
  | some b => b
  | none => false
/-- what is looked at of the class x in K -/
def oexB (K : PySem.W.Frag) (file : Str) (excs : List Str) (x : Str) : Bool :=
  clsOB K (He.ga K x) && isBi (PySem.W.findIn K (.ref (He.ga K x)) "__setattr__") "object.__setattr__" && bt (PySem.W.subIn K (.ref (He.ga K x)) (.type "BaseException")) && isTy' (PySem.W.typeIn K (.ref (He.ga K x))) "type" && PySem.W.keepIn K (.ref (He.ga K x)) &&
  isRef (PySem.W.findIn K (.ref (He.ga K x)) "__init__") (He.fAd K (x, some "__init__")) && isTy' (PySem.W.typeIn K (.ref (He.fAd K (x, some "__init__")))) "function" && iniB K file (He.ga K x) (He.fAd K (x, some "__init__")) &&
  (PySem.W.clsIn K (He.ga K x)).isSome && bt (PySem.W.mroIn K (He.ga K x) (.ref (He.ga K x))) && isNo (PySem.W.nsIn K PySem.cStatics "thirdparty.any") && isBi (PySem.W.ks_superIn K (He.ga K x) (He.ga K x) "__init__") "ValueError.__init__" && bt (PySem.W.subIn K (.ref (He.ga K x)) (.type "ValueError")) &&
  xfB K (He.ga K x) && isNo (PySem.W.findIn K (.ref (He.ga K x)) "limit") && excs.all fun y => decide (PySem.W.exmOne K (.ref (He.ga K x)) (.ref (He.ga K y)) = some (subX x y))
/-- what is looked at of the text of __init__ -/
def iniC (d : IniD) : Bool := match d.body, d.params.posonlyargs ++ d.params.args with
  | [.Expr (.Call (.Attribute (.Call (.Name sup _) [] [] _) ini p2) [.BinOp (.Constant (.str m) _ _) .Add (.Call (.Name st _) [.Name y _] [] _) _] [] p3) _, .Assign [.Attribute (.Name self _) fld _] (.Name par _) _], [a1, a2] =>
    decide (sup = ("super" : Str)) && decide (ini = ("__init__" : Str)) && decide (st = ("str" : Str)) && decide (y = par) && decide (fld = ("limit" : Str)) && decide (a1.arg = self) && decide (a2.arg = par) && nscB [self, par, "__class__"] [self, par] ["__class__"] d.scope &&
    decide (d.scope.names.lookup ("super" : Str) = some .globalImplicit) && decide (d.scope.names.lookup ("str" : Str) = some .globalImplicit) && !(self == ("__debug__" : Str)) && !(self == ("__classdict__" : Str)) && !(par == ("__debug__" : Str)) && !(par == ("__classdict__" : Str)) && decide (m.length ≤ 400) && (p2.endLine == p3.line)
  | _, _ => false
def IniD.ps (d : IniD) : List Str := (d.params.posonlyargs ++ d.params.args).map (·.arg)
def IniD.binds (d : IniD) : Prop := ∀ (kV doc pm : Value) (an : Option Addr) (cdv ct : Value) (cc : Addr) (us : List Value), us.length = d.ps.length → bindArgs (PySem.W.ksFn "__init__" d.q d.params d.body d.scope .none kV doc pm an cdv ct cc) ⟨us, []⟩ = pure (d.ps.zip us)
end PP

set_option Elab.async false
set_option linter.all false
set_option maxRecDepth 100000
/-! PP2h: what is looked at behind the head. -/
namespace PP
open PySem PySem.Spec PyProof.Rows L2
/-- one def -/
structure FE where
  x : Str
  params : Arguments
  body : List Stmt
  scope : Scope
  N : List Str
  ps : List Str
  q : Str
instance : Inhabited FE := ⟨⟨"", ⟨[], [], none, [], [], none, []⟩, [], ⟨.function, [], false, false, []⟩, [], [], ""⟩⟩
def FE.d (f : FE) : He.DefD := ⟨(f.x, none), f.q, f.q, f.params, f.body, f.scope, [], []⟩
/-- what a law knows of errors: the classes made with a text, the defs that tell what was raised -/
structure Er where
  own : List Str
  dcts : List (Str × List (Str × PV))
  told : List (Str × List (Str × Option Str) × Str)
  grd : Bool
  oex : List Str := []
  file : Str := ""
/-- a constant that is a tuple: its items -/
def toDv : PV → He.Dv
  | .bl b => .bl b
  | .int i => .int i
  | .str s => .str s
  | _ => .non
def isAt : PV → Bool
  | .non => true
  | .bl _ => true
  | .int _ => true
  | .str _ => true
  | _ => false
def tupsB (tups : List (Str × List PV)) (K : PySem.W.Frag) : Bool := tups.all fun q => He.tupB K q.1 (q.2.map toDv) && q.2.all isAt
/-- is it the class of classes? -/
def isTT : Option Value → Bool
  | some (.type t) => decide (t = "type")
  | _ => false
theorem isTT_eq {o : Option Value} (h : isTT o = true) : o = some (.type "type") := by
  unfold isTT at h
  split at h
  · rw [of_decide_eq_true h]
  · cases h
abbrev veB : List Value := [.type "ValueError", .type "Exception", .type "BaseException", .type "object"]
def errB (K : PySem.W.Frag) (excs : List Str) (x : Str) : Bool := PySem.W.excIn K (He.ga K x) veB "ValueError.__new__" && PySem.W.keepIn K (.ref (He.ga K x)) && decide (PySem.W.subIn K (.ref (He.ga K x)) (.type "BaseException") = some true) && isTT (PySem.W.typeIn K (.ref (He.ga K x))) &&
  excs.all fun y => decide (PySem.W.exmOne K (.ref (He.ga K x)) (.ref (He.ga K y)) = some (subX x y))
def oneL : List (Addr × Str) → Bool
  | [] => true
  | p :: r => (r.all fun q => !decide (p.1 = q.1) || decide (p.2 = q.2)) && oneL r
/-- the constant dicts: where, their keys -/
def tsD (er : Er) : List He.Tab := er.dcts.map fun q => (fun K => He.ga K q.1, q.2.map (·.1))
def dctsB (er : Er) (K : PySem.W.Frag) : Bool := er.dcts.all fun q => He.valsB K (He.ga K q.1) (q.2.map fun z => (z.1, toDv z.2)) && q.2.all fun z => isAt z.2
/-- what is looked at of K besides the facts -/
def exB (T : List FE) (tups : List (Str × List PV)) (excs : List Str) (er : Er) (K : PySem.W.Frag) : Bool := tupsB tups K && er.own.all (errB K excs) && (T.all fun f => PySem.W.codeHdIn K (He.cT K (f.x, none)).1 (He.cT K (f.x, none)).2) && oneL (tsOf K) && dctsB er K && er.oex.all (oexB K er.file excs)
def tabsAll (g : Addr → Option Obj) (K : PySem.W.Frag) : Bool := (tsA K).all fun p => match g p.2.1 with
  | some o => He.emptyTab o
  | none => false
structure SaysP (fa : List He.Fa) (fn : List He.DefD) (ts : List He.Tab) (ex : PySem.W.Frag → Bool) (w : World) (h : Heap) (K : PySem.W.Frag) : Prop where
  t : He.SaysT fa fn ts w K
  ex : ex K = true
  out : ∀ p ∈ tsA K, K.lookup p.2.1 = none
  empty : ∀ p ∈ tsA K, h.get? p.2.1 = some { cls := .none, data := .fields #[] }
def obP (n : Nat) (fa : List He.Fa) (fn : List He.DefD) (ts : List He.Tab) (ex : PySem.W.Frag → Bool) (g : Addr → Option Obj) : He.AlT × Bool := (He.obsT fa fn ts (He.frT g (He.asD g n)), ex (He.frT g (He.asD g n)) && tabsAll g (He.frT g (He.asD g n)))
theorem saysP_gen {as : List Addr} {fa : List He.Fa} {fn : List He.DefD} {ts : List He.Tab} {ex : PySem.W.Frag → Bool} {w : World} {h : Heap} (e : ((He.obsT fa fn ts (He.frT h.get? as), ex (He.frT h.get? as) && tabsAll h.get? (He.frT h.get? as)) : He.AlT × Bool) = (He.valT fn ts w, true)) : SaysP fa fn ts ex w h (He.frT h.get? as) := by
  have e1 : He.obsT fa fn ts (He.frT h.get? as) = He.valT fn ts w := congrArg (fun z : He.AlT × Bool => z.1) e
  have e2 : (ex (He.frT h.get? as) && tabsAll h.get? (He.frT h.get? as)) = true := congrArg (fun z : He.AlT × Bool => z.2) e
  rw [Bool.and_eq_true] at e2
  obtain ⟨h1, h2⟩ := e2
  have key : ∀ p ∈ tsA (He.frT h.get? as), ∃ o, h.get? p.2.1 = some o ∧ He.emptyTab o = true := fun p hp => by
    have h3 := List.all_eq_true.mp h2 p hp
    cases q : h.get? p.2.1 with
    | none => rw [q] at h3; cases h3
    | some o => rw [q] at h3; exact ⟨o, rfl, h3⟩
  refine ⟨e1, h1, fun p hp => ?_, fun p hp => ?_⟩
  · obtain ⟨o, q, z⟩ := key p hp
    exact He.frT_none q z
  · obtain ⟨o, q, z⟩ := key p hp
    rw [q, He.emptyTab_eq z]
theorem saysP_of {n : Nat} {fa : List He.Fa} {fn : List He.DefD} {ts : List He.Tab} {ex : PySem.W.Frag → Bool} {w : World} {h : Heap} (e : obP n fa fn ts ex h.get? = (He.valT fn ts w, true)) : SaysP fa fn ts ex w h (He.frT h.get? (He.asD h.get? n)) := saysP_gen e
def hookP (n : Nat) (fa : List He.Fa) (fn : List He.DefD) (ts : List He.Tab) (ex : PySem.W.Frag → Bool) : PySem.W.Hook where
  α := He.AlT × Bool
  obs := fun s => obP n fa fn ts ex s.heap.get?
  val := fun w => (He.valT fn ts w, true)
  says := fun w h => ∃ K : PySem.W.Frag, K.In h ∧ SaysP fa fn ts ex w h K
  of := fun _ _ e => ⟨_, He.frT_in, saysP_of e⟩
  keeps := fun _ _ _ ⟨K, hK, c⟩ k => ⟨K, PySem.W.Frag.In.keeps hK k, ⟨c.t, c.ex, c.out, fun p hp => k _ _ (c.empty p hp)⟩⟩
theorem obP_eq {n : Nat} {fa : List He.Fa} {fn : List He.DefD} {ts : List He.Tab} {ex : PySem.W.Frag → Bool} {g : Addr → Option Obj} {s : Shared} (h : ∀ a, g a = s.heap.get? a) : obP n fa fn ts ex g = (hookP n fa fn ts ex).obs s := by
  have e : g = s.heap.get? := funext h
  rw [e]; rfl
/-! ### with classes of errors that keep a number -/
structure SaysQ (fa : List He.Fa) (fn : List He.DefD) (ts : List He.Tab) (ex : PySem.W.Frag → Bool) (inis : List IniD) (w : World) (h : Heap) (K : PySem.W.Frag) : Prop where
  p : SaysP fa fn ts ex w h K
  ini : ∀ d ∈ inis, iniO K d.x = d.val
def asQ (g : Addr → Option Obj) (n : Nat) : List Addr := PySem.cStatics :: He.asD g n
def obQ (n : Nat) (fa : List He.Fa) (fn : List He.DefD) (ts : List He.Tab) (ex : PySem.W.Frag → Bool) (inis : List IniD) (g : Addr → Option Obj) : (He.AlT × Bool) × List IniW := ((He.obsT fa fn ts (He.frT g (asQ g n)), ex (He.frT g (asQ g n)) && tabsAll g (He.frT g (asQ g n))), inis.map fun d => iniO (He.frT g (asQ g n)) d.x)
theorem map_at {α β : Type} {f g : α → β} : ∀ {l : List α}, l.map f = l.map g → ∀ x ∈ l, f x = g x
  | [], _, _, hx => nomatch hx
  | a :: l, h, x, hx => by
    rw [List.map_cons, List.map_cons] at h
    injection h with h1 h2
    rcases List.mem_cons.mp hx with rfl | hx
    · exact h1
    · exact map_at h2 x hx
def hookQ (n : Nat) (fa : List He.Fa) (fn : List He.DefD) (ts : List He.Tab) (ex : PySem.W.Frag → Bool) (inis : List IniD) : PySem.W.Hook where
  α := (He.AlT × Bool) × List IniW
  obs := fun s => obQ n fa fn ts ex inis s.heap.get?
  val := fun w => ((He.valT fn ts w, true), inis.map IniD.val)
  says := fun w h => ∃ K : PySem.W.Frag, K.In h ∧ SaysQ fa fn ts ex inis w h K
  of := fun _ _ e => ⟨_, He.frT_in, saysP_gen (congrArg Prod.fst e), map_at (congrArg Prod.snd e)⟩
  keeps := fun _ _ _ ⟨K, hK, c⟩ k => ⟨K, PySem.W.Frag.In.keeps hK k, ⟨⟨c.p.t, c.p.ex, c.p.out, fun p hp => k _ _ (c.p.empty p hp)⟩, c.ini⟩⟩
theorem obQ_eq {n : Nat} {fa : List He.Fa} {fn : List He.DefD} {ts : List He.Tab} {ex : PySem.W.Frag → Bool} {inis : List IniD} {g : Addr → Option Obj} {s : Shared} (h : ∀ a, g a = s.heap.get? a) : obQ n fa fn ts ex inis g = (hookQ n fa fn ts ex inis).obs s := by
  have e : g = s.heap.get? := funext h
  rw [e]; rfl
def faOf (T : List FE) (frees : List Str) (nums : List (Str × Int)) (txts : List (Str × Str)) (tups : List (Str × List PV)) (excs : List Str) (er : Er) : List He.Fa := T.map (fun f => .glo f.x) ++ frees.map .free ++ nums.map (fun q => .int q.1 q.2) ++ txts.map (fun q => .str q.1 q.2) ++ tups.map (fun q => .glo q.1) ++ excs.map .glo ++ er.dcts.map (fun q => .glo q.1)
end PP

set_option Elab.async false
set_option linter.all false
/-! PK: how a pure program is worked out. -/
namespace PP
open PySem
theorem call_ok {FN : Type} {P : FN → FnP FN} {k : Nat} {f : FN} {np nl : Nat} {body : List (Sm FN)} {args c : List PV} {r : R PV} (hp : P f = ⟨np, nl, body⟩) (hl : args.length = np) (h : finR (execSs (callK P k) body (startP np nl args) c) = r) : callK P (k + 1) f args c = r := by
  rw [callK, hp]
  simp only
  rw [if_pos hl, h]
theorem varv_0 {v : PV} {env : Env} : varv (.val v :: env) 0 = some v := rfl
theorem varv_s {s : Slot} {env : Env} {i : Nat} : varv (s :: env) (i + 1) = varv env i := by unfold varv; rw [List.getElem?_cons_succ]
theorem borv_0 {v : PV} {env : Env} : borv (.val v :: env) 0 = some v := rfl
theorem borv_0o {v : PV} {env : Env} : borv (.own v :: env) 0 = some v := rfl
theorem borv_s {s : Slot} {env : Env} {i : Nat} : borv (s :: env) (i + 1) = borv env i := by unfold borv; rw [List.getElem?_cons_succ]
theorem truthR_ok {v : PV} {c : List PV} {b : Bool} (h : truth v = some b) : truthR (.ok v c) = .ok b c := by
  unfold truthR; rw [R.bind_ok, h]
theorem truthR_bl {b : Bool} {c : List PV} : truthR (.ok (.bl b) c) = .ok b c := rfl
/-- the turns of a comprehension that leave the cup alone -/
theorem loopC_pure {α : Type} {f : PV → Nat → List PV → R (List PV)} {g : α → List PV} {φ : α → PV} {c : List PV} : ∀ (xs : List α) (n : Nat), (∀ x ∈ xs, ∀ m, m < LIM → f (φ x) m c = .ok (g x) c) → (∀ x ∈ xs, (g x).length ≤ 1) → n + xs.length ≤ LIM → loopC f (xs.map φ) n c = .ok (xs.flatMap g) c
  | [], n, _, _, _ => rfl
  | x :: r, n, h, h1, hl => by
    rw [List.length_cons] at hl
    rw [List.map_cons, loopC, h x (List.mem_cons_self ..) n (by omega), R.calm_ok, R.bind_ok]
    have q := h1 x (List.mem_cons_self ..)
    rw [loopC_pure r _ (fun y hy => h y (List.mem_cons_of_mem _ hy)) (fun y hy => h1 y (List.mem_cons_of_mem _ hy)) (by omega), R.bind_ok, List.flatMap_cons]
theorem flatMap_if {α β : Type} (p : α → Bool) (y : α → β) : ∀ xs : List α, (xs.flatMap fun x => if p x then [y x] else []) = (xs.filter p).map y
  | [] => rfl
  | x :: r => by
    rw [List.flatMap_cons, flatMap_if p y r, List.filter_cons]
    cases p x <;> rfl
section
variable {FN : Type} {C : FN → List PV → List PV → R PV} {vs : List Nat} {t : Tg} {e : Ex FN} {it : Ie FN} {cond : Option (Ex FN)} {env : Env} {c : List PV}
theorem comp_pure {α : Type} (as : List α) (φ : α → PV) (p : α → Bool) (y : α → PV) (hi : evalI C it env c = .ok (as.map φ) c)
    (hx : ∀ x ∈ as, ∃ env1, bindT t (φ x) (wipeP env vs) = some env1 ∧ condR C cond env1 c = .ok (p x) c ∧ (p x = true → evalE C e env1 c = .ok (y x) c)) (hl : as.length ≤ LIM) :
    evalE C (.comp vs e t it cond) env c = .ok (.lst ((as.filter p).map y)) c := by
  rw [evalE, hi, R.bind_ok, loopC_pure (g := fun x => if p x then [y x] else []) as 0 ?_ ?_ (by omega), R.bind_ok, flatMap_if]
  · intro x hm m hlt
    obtain ⟨env1, h1, h2, h3⟩ := hx x hm
    rw [h1]
    simp only
    rw [h2, R.bind_ok]
    cases hp : p x with
    | false => rfl
    | true =>
      simp only [if_true]
      rw [h3 hp, R.bind_ok]
      simp [hlt]
  · intro x hm
    split <;> simp
/-- with no condition -/
theorem comp_map {α : Type} (as : List α) (φ : α → PV) (y : α → PV) (hi : evalI C it env c = .ok (as.map φ) c)
    (hx : ∀ x ∈ as, ∃ env1, bindT t (φ x) (wipeP env vs) = some env1 ∧ evalE C e env1 c = .ok (y x) c) (hl : as.length ≤ LIM) :
    evalE C (.comp vs e t it none) env c = .ok (.lst (as.map y)) c := by
  rw [comp_pure as φ (fun _ => true) y hi (fun x hm => ?_) hl, List.filter_eq_self.mpr fun _ _ => rfl]
  obtain ⟨env1, h1, h2⟩ := hx x hm
  exact ⟨env1, h1, rfl, fun _ => h2⟩
/-- with rolls: what is left is a part -/
theorem loopC_part {f : PV → Nat → List PV → R (List PV)} {I : List PV → Prop} : ∀ (xs : List PV) (n : Nat) (c : List PV), I c → (∀ x ∈ xs, ∀ m c, m < LIM → I c → ∃ (b : Bool) (c' : List PV), f x m c = .ok (if b then [x] else []) c' ∧ I c') → n + xs.length ≤ LIM → ∃ ys c', loopC f xs n c = .ok ys c' ∧ I c' ∧ ys.Sublist xs
  | [], n, c, hc, _, _ => ⟨[], c, rfl, hc, .slnil⟩
  | x :: r, n, c, hc, h, hl => by
    rw [List.length_cons] at hl
    obtain ⟨b, c1, h1, i1⟩ := h x (List.mem_cons_self ..) n c (by omega) hc
    obtain ⟨ys, c2, h2, i2, s⟩ := loopC_part r (n + (if b then [x] else []).length) c1 i1 (fun y hy => h y (List.mem_cons_of_mem _ hy)) (by cases b <;> simp <;> omega)
    refine ⟨_, c2, by rw [loopC, h1, R.calm_ok, R.bind_ok, h2, R.bind_ok], i2, ?_⟩
    cases b
    · exact s.cons _
    · exact s.cons₂ _
theorem comp_part {I : List PV → Prop} {xs : List PV} (hc : I c) (hi : evalI C it env c = .ok xs c)
    (hx : ∀ x ∈ xs, ∃ env1, bindT t x (wipeP env vs) = some env1 ∧ ∀ c, I c → ∃ (b : Bool) (c' : List PV), condR C cond env1 c = .ok b c' ∧ I c' ∧ (b = true → evalE C e env1 c' = .ok x c')) (hl : xs.length ≤ LIM) :
    ∃ ys c', evalE C (.comp vs e t it cond) env c = .ok (.lst ys) c' ∧ I c' ∧ ys.Sublist xs := by
  rw [evalE, hi, R.bind_ok]
  obtain ⟨ys, c', h, i, s⟩ := loopC_part (I := I) (f := fun x n c => match bindT t x (wipeP env vs) with
        | some env1 => (condR C cond env1 c).bind fun k c => if k then (evalE C e env1 c).bind fun y c => guardR (decide (n < LIM)) (.ok [y] c) else .ok [] c
        | none => .stuck) xs 0 c hc (fun x hm m c hlt ic => by
    obtain ⟨env1, h1, h2⟩ := hx x hm
    obtain ⟨b, c', h3, i3, h4⟩ := h2 c ic
    refine ⟨b, c', ?_, i3⟩
    rw [h1]
    simp only
    rw [h3, R.bind_ok]
    cases b with
    | false => rfl
    | true =>
      simp only [if_true]
      rw [h4 rfl, R.bind_ok]
      simp [hlt]) (by omega)
  exact ⟨ys, c', congrArg (fun r : R (List PV) => r.bind fun ys c => R.ok (PV.lst ys) c) h, i, s⟩
/-- the turns of a loop -/
theorem forL_inv {f : PV → Env → List PV → SR} {I : Env → List PV → Prop} : ∀ (xs : List PV) (env : Env) (c : List PV), I env c → (∀ x ∈ xs, ∀ env c, I env c → ∃ env' c', f x env c = .nx env' c' ∧ I env' c') → ∃ env' c', forL f xs env c = .nx env' c' ∧ I env' c'
  | [], env, c, h, _ => ⟨env, c, rfl, h⟩
  | x :: r, env, c, h, hx => by
    obtain ⟨env1, c1, h1, i1⟩ := hx x (List.mem_cons_self ..) env c h
    obtain ⟨env2, c2, h2, i2⟩ := forL_inv r env1 c1 i1 fun y hy => hx y (List.mem_cons_of_mem _ hy)
    exact ⟨env2, c2, by rw [forL, h1, SR.bind_nx, h2], i2⟩
theorem fr_inv {b : List (Sm FN)} {I : Env → List PV → Prop} {xs c0 : List PV} (h : I env c) (hi : evalI C it env c0 = .ok xs c)
    (hx : ∀ x ∈ xs, ∀ env c, I env c → ∃ env1, bindT t x env = some env1 ∧ ∃ env' c', execSs C b env1 c = .nx env' c' ∧ I env' c') : ∃ env' c', execS C (.fr t it b) env c0 = .nx env' c' ∧ I env' c' := by
  obtain ⟨env', c', h1, h2⟩ := forL_inv (I := I) (f := fun x env c => match bindT t x env with
      | some env1 => execSs C b env1 c
      | none => .stuck) xs env c h fun x hm env c i => by
    obtain ⟨env1, h1, h2⟩ := hx x hm env c i
    rw [h1]; exact h2
  exact ⟨env', c', by rw [execS, hi, R.st_ok]; exact h1, h2⟩
end
section
variable {FN : Type} {C : FN → List PV → List PV → R PV} {t : Tg} {it : Ie FN} {env : Env} {c : List PV}
/-- the turns of a loop, counted down -/
theorem forL_count {f : PV → Env → List PV → SR} {I : Nat → Env → List PV → Prop} : ∀ (xs : List PV) (env : Env) (c : List PV), I xs.length env c → (∀ x ∈ xs, ∀ m env c, I (m + 1) env c → ∃ env' c', f x env c = .nx env' c' ∧ I m env' c') → ∃ env' c', forL f xs env c = .nx env' c' ∧ I 0 env' c'
  | [], env, c, h, _ => ⟨env, c, rfl, h⟩
  | x :: r, env, c, h, hx => by
    obtain ⟨env1, c1, h1, i1⟩ := hx x (List.mem_cons_self ..) r.length env c h
    obtain ⟨env2, c2, h2, i2⟩ := forL_count r env1 c1 i1 fun y hy => hx y (List.mem_cons_of_mem _ hy)
    exact ⟨env2, c2, by rw [forL, h1, SR.bind_nx, h2], i2⟩
theorem fr_count {b : List (Sm FN)} {I : Nat → Env → List PV → Prop} {xs c0 : List PV} (h : I xs.length env c) (hi : evalI C it env c0 = .ok xs c)
    (hx : ∀ x ∈ xs, ∀ m env c, I (m + 1) env c → ∃ env1, bindT t x env = some env1 ∧ ∃ env' c', execSs C b env1 c = .nx env' c' ∧ I m env' c') : ∃ env' c', execS C (.fr t it b) env c0 = .nx env' c' ∧ I 0 env' c' := by
  obtain ⟨env', c', h1, h2⟩ := forL_count (I := I) (f := fun x env c => match bindT t x env with
      | some env1 => execSs C b env1 c
      | none => .stuck) xs env c h fun x hm m env c i => by
    obtain ⟨env1, h1, h2⟩ := hx x hm m env c i
    rw [h1]; exact h2
  exact ⟨env', c', by rw [execS, hi, R.st_ok]; exact h1, h2⟩
end
section
variable {FN : Type} {C : FN → List PV → List PV → R PV} {vs : List Nat} {t : Tg} {e : Ex FN} {it : Ie FN} {env : Env} {c : List PV}
/-- a loop that gathers -/
theorem forL_fold {α S : Type} {f : PV → Env → List PV → SR} {φ : α → PV} {I : S → Env → List PV → Prop} {g : S → α → S} : ∀ (xs : List α) (s : S) (env : Env) (c : List PV), I s env c → (∀ x ∈ xs, ∀ s env c, I s env c → ∃ env' c', f (φ x) env c = .nx env' c' ∧ I (g s x) env' c') → ∃ env' c', forL f (xs.map φ) env c = .nx env' c' ∧ I (xs.foldl g s) env' c'
  | [], s, env, c, h, _ => ⟨env, c, rfl, h⟩
  | x :: r, s, env, c, h, hx => by
    obtain ⟨env1, c1, h1, i1⟩ := hx x (List.mem_cons_self ..) s env c h
    obtain ⟨env2, c2, h2, i2⟩ := forL_fold r (g s x) env1 c1 i1 fun y hy => hx y (List.mem_cons_of_mem _ hy)
    exact ⟨env2, c2, by rw [List.map_cons, forL, h1, SR.bind_nx, h2], i2⟩
theorem fr_fold {α S : Type} {b : List (Sm FN)} {φ : α → PV} {I : S → Env → List PV → Prop} {g : S → α → S} {as : List α} {s : S} {c0 : List PV} (h : I s env c) (hi : evalI C it env c0 = .ok (as.map φ) c)
    (hx : ∀ x ∈ as, ∀ s env c, I s env c → ∃ env1, bindT t (φ x) env = some env1 ∧ ∃ env' c', execSs C b env1 c = .nx env' c' ∧ I (g s x) env' c') : ∃ env' c', execS C (.fr t it b) env c0 = .nx env' c' ∧ I (as.foldl g s) env' c' := by
  obtain ⟨env', c', h1, h2⟩ := forL_fold (I := I) (g := g) (φ := φ) (f := fun x env c => match bindT t x env with
      | some env1 => execSs C b env1 c
      | none => .stuck) as s env c h fun x hm s env c i => by
    obtain ⟨env1, h1, h2⟩ := hx x hm s env c i
    rw [h1]; exact h2
  exact ⟨env', c', by rw [execS, hi, R.st_ok]; exact h1, h2⟩
/-- a loop, by what has been gone through -/
theorem forL_pre {α : Type} {f : PV → Env → List PV → SR} {φ : α → PV} {I : List α → Env → List PV → Prop} {as : List α} (hx : ∀ pre x post, as = pre ++ x :: post → ∀ env c, I pre env c → ∃ env' c', f (φ x) env c = .nx env' c' ∧ I (pre ++ [x]) env' c') : ∀ (xs pre : List α) (env : Env) (c : List PV), as = pre ++ xs → I pre env c → ∃ env' c', forL f (xs.map φ) env c = .nx env' c' ∧ I as env' c'
  | [], pre, env, c, e, h => ⟨env, c, rfl, by rw [e, List.append_nil]; exact h⟩
  | x :: r, pre, env, c, e, h => by
    obtain ⟨env1, c1, h1, i1⟩ := hx pre x r e env c h
    obtain ⟨env2, c2, h2, i2⟩ := forL_pre hx r (pre ++ [x]) env1 c1 (by rw [e, List.append_assoc]; rfl) i1
    exact ⟨env2, c2, by rw [List.map_cons, forL, h1, SR.bind_nx, h2], i2⟩
theorem fr_pre {α : Type} {b : List (Sm FN)} {φ : α → PV} {I : List α → Env → List PV → Prop} {as : List α} {c0 : List PV} (h : I [] env c) (hi : evalI C it env c0 = .ok (as.map φ) c)
    (hx : ∀ pre x post, as = pre ++ x :: post → ∀ env c, I pre env c → ∃ env1, bindT t (φ x) env = some env1 ∧ ∃ env' c', execSs C b env1 c = .nx env' c' ∧ I (pre ++ [x]) env' c') : ∃ env' c', execS C (.fr t it b) env c0 = .nx env' c' ∧ I as env' c' := by
  obtain ⟨env', c', h1, h2⟩ := forL_pre (I := I) (φ := φ) (as := as) (f := fun x env c => match bindT t x env with
      | some env1 => execSs C b env1 c
      | none => .stuck) (fun pre x post e env c i => by
    obtain ⟨env1, h1, h2⟩ := hx pre x post e env c i
    simp only [h1]
    exact h2) as [] env c rfl h
  exact ⟨env', c', by rw [execS, hi, R.st_ok]; exact h1, h2⟩
/-- with rolls: each item by itself -/
theorem loopC_all {α : Type} {f : PV → Nat → List PV → R (List PV)} {I : List PV → Prop} {φ : α → PV} {G : PV → Prop} : ∀ (xs : List α) (n : Nat) (c : List PV), I c → (∀ x ∈ xs, ∀ m c, m < LIM → I c → ∃ y c', f (φ x) m c = .ok [y] c' ∧ I c' ∧ G y) → n + xs.length ≤ LIM → ∃ ys c', loopC f (xs.map φ) n c = .ok ys c' ∧ I c' ∧ ys.length = xs.length ∧ ∀ y ∈ ys, G y
  | [], n, c, hc, _, _ => ⟨[], c, rfl, hc, rfl, fun _ h => nomatch h⟩
  | x :: r, n, c, hc, h, hl => by
    rw [List.length_cons] at hl
    obtain ⟨y, c1, h1, i1, g1⟩ := h x (List.mem_cons_self ..) n c (by omega) hc
    obtain ⟨ys, c2, h2, i2, l2, g2⟩ := loopC_all r (n + 1) c1 i1 (fun y hy => h y (List.mem_cons_of_mem _ hy)) (by omega)
    refine ⟨y :: ys, c2, by rw [List.map_cons, loopC, h1, R.calm_ok, R.bind_ok]; show (loopC f (r.map φ) (n + 1) c1).bind _ = _; rw [h2]; rfl, i2, by rw [List.length_cons, List.length_cons, l2], fun z hz => ?_⟩
    rcases List.mem_cons.mp hz with rfl | hz
    · exact g1
    · exact g2 z hz
theorem comp_all {α : Type} {I : List PV → Prop} {as : List α} {φ : α → PV} {G : PV → Prop} {c0 : List PV} (hc : I c) (hi : evalI C it env c0 = .ok (as.map φ) c)
    (hx : ∀ x ∈ as, ∃ env1, bindT t (φ x) (wipeP env vs) = some env1 ∧ ∀ c, I c → ∃ y c', evalE C e env1 c = .ok y c' ∧ I c' ∧ G y) (hl : as.length ≤ LIM) :
    ∃ ys c', evalE C (.comp vs e t it none) env c0 = .ok (.lst ys) c' ∧ I c' ∧ ys.length = as.length ∧ ∀ y ∈ ys, G y := by
  rw [evalE, hi, R.bind_ok]
  obtain ⟨ys, c', h, i, s, g⟩ := loopC_all (I := I) (G := G) (φ := φ) (f := fun x n c => match bindT t x (wipeP env vs) with
        | some env1 => (condR C none env1 c).bind fun k c => if k then (evalE C e env1 c).bind fun y c => guardR (decide (n < LIM)) (.ok [y] c) else .ok [] c
        | none => .stuck) as 0 c hc (fun x hm m c hlt ic => by
    obtain ⟨env1, h1, h2⟩ := hx x hm
    obtain ⟨y, c', h3, i3, g3⟩ := h2 c ic
    refine ⟨y, c', ?_, i3, g3⟩
    rw [h1]
    simp only
    rw [condR, R.bind_ok, if_pos rfl, h3, R.bind_ok]
    simp [hlt]) (by omega)
  exact ⟨ys, c', congrArg (fun r : R (List PV) => r.bind fun ys c => R.ok (PV.lst ys) c) h, i, s, g⟩
end
theorem mkTup_0 : mkTup [] = some (.tup []) := rfl
theorem mkTup_1 {a1 : PV} : mkTup [a1] = some (.tup [a1]) := rfl
theorem mkTup_2 {a1 a2 : PV} : mkTup [a1, a2] = some (.tup [a1, a2]) := rfl
theorem mkTup_3 {a1 a2 a3 : PV} : mkTup [a1, a2, a3] = some (.tup [a1, a2, a3]) := rfl
theorem mkTup_4 {a1 a2 a3 a4 : PV} : mkTup [a1, a2, a3, a4] = some (.tup [a1, a2, a3, a4]) := rfl
theorem mkTup_5 {a1 a2 a3 a4 a5 : PV} : mkTup [a1, a2, a3, a4, a5] = some (.tup [a1, a2, a3, a4, a5]) := rfl
theorem mkTup_6 {a1 a2 a3 a4 a5 a6 : PV} : mkTup [a1, a2, a3, a4, a5, a6] = some (.tup [a1, a2, a3, a4, a5, a6]) := rfl
theorem mkTup_7 {a1 a2 a3 a4 a5 a6 a7 : PV} : mkTup [a1, a2, a3, a4, a5, a6, a7] = some (.tup [a1, a2, a3, a4, a5, a6, a7]) := rfl
theorem mkTup_8 {a1 a2 a3 a4 a5 a6 a7 a8 : PV} : mkTup [a1, a2, a3, a4, a5, a6, a7, a8] = some (.tup [a1, a2, a3, a4, a5, a6, a7, a8]) := rfl
theorem mkLst_0 : mkLst [] = some (.lst []) := rfl
theorem mkLst_1 {a1 : PV} : mkLst [a1] = some (.lst [a1]) := rfl
theorem mkLst_2 {a1 a2 : PV} : mkLst [a1, a2] = some (.lst [a1, a2]) := rfl
theorem mkLst_3 {a1 a2 a3 : PV} : mkLst [a1, a2, a3] = some (.lst [a1, a2, a3]) := rfl
theorem mkLst_4 {a1 a2 a3 a4 : PV} : mkLst [a1, a2, a3, a4] = some (.lst [a1, a2, a3, a4]) := rfl
theorem mkLst_5 {a1 a2 a3 a4 a5 : PV} : mkLst [a1, a2, a3, a4, a5] = some (.lst [a1, a2, a3, a4, a5]) := rfl
theorem mkLst_6 {a1 a2 a3 a4 a5 a6 : PV} : mkLst [a1, a2, a3, a4, a5, a6] = some (.lst [a1, a2, a3, a4, a5, a6]) := rfl
theorem mkLst_7 {a1 a2 a3 a4 a5 a6 a7 : PV} : mkLst [a1, a2, a3, a4, a5, a6, a7] = some (.lst [a1, a2, a3, a4, a5, a6, a7]) := rfl
theorem mkLst_8 {a1 a2 a3 a4 a5 a6 a7 a8 : PV} : mkLst [a1, a2, a3, a4, a5, a6, a7, a8] = some (.lst [a1, a2, a3, a4, a5, a6, a7, a8]) := rfl
theorem mkLst_9 {a1 a2 a3 a4 a5 a6 a7 a8 a9 : PV} : mkLst [a1, a2, a3, a4, a5, a6, a7, a8, a9] = some (.lst [a1, a2, a3, a4, a5, a6, a7, a8, a9]) := rfl
theorem mkLst_10 {a1 a2 a3 a4 a5 a6 a7 a8 a9 a10 : PV} : mkLst [a1, a2, a3, a4, a5, a6, a7, a8, a9, a10] = some (.lst [a1, a2, a3, a4, a5, a6, a7, a8, a9, a10]) := rfl
theorem mkLst_11 {a1 a2 a3 a4 a5 a6 a7 a8 a9 a10 a11 : PV} : mkLst [a1, a2, a3, a4, a5, a6, a7, a8, a9, a10, a11] = some (.lst [a1, a2, a3, a4, a5, a6, a7, a8, a9, a10, a11]) := rfl
theorem mkLst_12 {a1 a2 a3 a4 a5 a6 a7 a8 a9 a10 a11 a12 : PV} : mkLst [a1, a2, a3, a4, a5, a6, a7, a8, a9, a10, a11, a12] = some (.lst [a1, a2, a3, a4, a5, a6, a7, a8, a9, a10, a11, a12]) := rfl
theorem mkLst_13 {a1 a2 a3 a4 a5 a6 a7 a8 a9 a10 a11 a12 a13 : PV} : mkLst [a1, a2, a3, a4, a5, a6, a7, a8, a9, a10, a11, a12, a13] = some (.lst [a1, a2, a3, a4, a5, a6, a7, a8, a9, a10, a11, a12, a13]) := rfl
theorem mkLst_14 {a1 a2 a3 a4 a5 a6 a7 a8 a9 a10 a11 a12 a13 a14 : PV} : mkLst [a1, a2, a3, a4, a5, a6, a7, a8, a9, a10, a11, a12, a13, a14] = some (.lst [a1, a2, a3, a4, a5, a6, a7, a8, a9, a10, a11, a12, a13, a14]) := rfl
theorem mkLst_15 {a1 a2 a3 a4 a5 a6 a7 a8 a9 a10 a11 a12 a13 a14 a15 : PV} : mkLst [a1, a2, a3, a4, a5, a6, a7, a8, a9, a10, a11, a12, a13, a14, a15] = some (.lst [a1, a2, a3, a4, a5, a6, a7, a8, a9, a10, a11, a12, a13, a14, a15]) := rfl
theorem mkLst_16 {a1 a2 a3 a4 a5 a6 a7 a8 a9 a10 a11 a12 a13 a14 a15 a16 : PV} : mkLst [a1, a2, a3, a4, a5, a6, a7, a8, a9, a10, a11, a12, a13, a14, a15, a16] = some (.lst [a1, a2, a3, a4, a5, a6, a7, a8, a9, a10, a11, a12, a13, a14, a15, a16]) := rfl
theorem mkTup_s {xs : List PV} (h : xs.length ≤ LIM) : mkTup xs = some (.tup xs) := if_pos h
theorem mkLst_s {xs : List PV} (h : xs.length ≤ LIM) : mkLst xs = some (.lst xs) := if_pos h
theorem len_le0 {α : Type} : ([] : List α).length ≤ LIM := Nat.zero_le _
theorem len_le1 {α : Type} {a : α} {xs : List α} : (a :: xs).length ≤ LIM ↔ xs.length < LIM := Iff.rfl
theorem dat_int {i : Int} : dat (.int i) = true := rfl
theorem dat_bl {i : Bool} : dat (.bl i) = true := rfl
theorem dat_non : dat .non = true := rfl
theorem peq_int {i j : Int} : peq (.int i) (.int j) = decide (i = j) := by rw [peq, Bool.eq_iff_iff]; simp
theorem peq_bl {i j : Bool} : peq (.bl i) (.bl j) = (i == j) := rfl
theorem peq_nonnon : peq .non .non = true := rfl
theorem ixP_nat {n i : Nat} (h : i < n) : ixP n (i : Int) = some i := by
  unfold ixP
  rw [if_pos (by omega), if_pos (by omega)]; rfl
theorem item_tup {xs : List PV} {i : Nat} {x : PV} {c : List PV} (h : xs[i]? = some x) : item (.tup xs) (.int i) c = some x := by
  unfold item
  simp only
  rw [ixP_nat (List.getElem?_eq_some_iff.mp h).1]; exact h
theorem item_lst {xs : List PV} {i : Nat} {x : PV} {c : List PV} (h : xs[i]? = some x) : item (.lst xs) (.int i) c = some x := by
  unfold item
  simp only
  rw [ixP_nat (List.getElem?_eq_some_iff.mp h).1]; exact h
theorem popAt_nat {xs : List PV} {j : Nat} (h : j < xs.length) (hl : xs.length ≤ LIM) : popAt xs (j : Int) = some (xs[j], xs.eraseIdx j) := by
  unfold popAt
  rw [if_neg (by omega), ixP_nat h, Option.bind_some, List.getElem?_eq_getElem h]; rfl
theorem item_0 {a : PV} {xs c : List PV} : item (.tup (a :: xs)) (.int 0) c = some a := item_tup (i := 0) rfl
theorem item_1 {a b : PV} {xs c : List PV} : item (.tup (a :: b :: xs)) (.int 1) c = some b := item_tup (i := 1) rfl
theorem item_2 {a b d : PV} {xs c : List PV} : item (.tup (a :: b :: d :: xs)) (.int 2) c = some d := item_tup (i := 2) rfl
theorem item_3 {a b d e : PV} {xs c : List PV} : item (.tup (a :: b :: d :: e :: xs)) (.int 3) c = some e := item_tup (i := 3) rfl
theorem item_c0 {a b : PV} : item .cup (.int 0) [a, b] = some a := rfl
theorem item_c1 {a b : PV} : item .cup (.int 1) [a, b] = some b := rfl

/-! ### the meaning, first-order -/
def WB : Nat := 999980
section
variable {FN : Type} (C : FN → List PV → List PV → R PV)
def optB (o : Option Bool) (c : List PV) : R Bool := match o with
  | some b => .ok b c
  | none => .stuck
def kBin (o : Bop) (b : Ex FN) (env : Env) (r : R PV) : R PV := r.bind fun x c => (evalE C b env c).bind fun y c => pureR (binop o x y) c
def kBin2 (o : Bop) (x : PV) (r : R PV) : R PV := r.bind fun y c => pureR (binop o x y) c
def kCmp (o : Cop) (b : Ex FN) (env : Env) (r : R PV) : R PV := r.bind fun x c => (evalE C b env c).bind fun y c => pureR (cmpop o x y) c
def kCmp2 (o : Cop) (x : PV) (r : R PV) : R PV := r.bind fun y c => pureR (cmpop o x y) c
def kNeg (r : R PV) : R PV := r.bind fun x c => match x with
    | .int i => .ok (.int (-i)) c
    | _ => .stuck
def kNt (r : R Bool) : R PV := r.bind fun b c => .ok (.bl (!b)) c
def kAnd (b : Ex FN) (env : Env) (r : R PV) : R PV := r.bind fun x c => match truth x with
    | some true => evalE C b env c
    | some false => .ok x c
    | none => .stuck
def kAnd2 (b : Ex FN) (env : Env) (x : PV) (o : Option Bool) (c : List PV) : R PV := match o with
    | some true => evalE C b env c
    | some false => .ok x c
    | none => .stuck
def kOr (b : Ex FN) (env : Env) (r : R PV) : R PV := r.bind fun x c => match truth x with
    | some true => .ok x c
    | some false => evalE C b env c
    | none => .stuck
def kOr2 (b : Ex FN) (env : Env) (x : PV) (o : Option Bool) (c : List PV) : R PV := match o with
    | some true => .ok x c
    | some false => evalE C b env c
    | none => .stuck
def kIte (a b : Ex FN) (env : Env) (r : R Bool) : R PV := r.bind fun k c => if k then evalE C a env c else evalE C b env c
def kCh (b d : Ex FN) (env : Env) (r : R PV) : R PV := r.bind fun x c => (evalE C b env c).bind fun y c => match cmpop .le x y with
    | some (.bl true) => (evalE C d env c).bind fun z c => pureR (cmpop .le y z) c
    | some (.bl false) => .ok (.bl false) c
    | _ => .stuck
def kCh2 (d : Ex FN) (env : Env) (x : PV) (r : R PV) : R PV := r.bind fun y c => match cmpop .le x y with
    | some (.bl true) => (evalE C d env c).bind fun z c => pureR (cmpop .le y z) c
    | some (.bl false) => .ok (.bl false) c
    | _ => .stuck
def kCh3 (d : Ex FN) (env : Env) (y : PV) (o : Option PV) (c : List PV) : R PV := match o with
    | some (.bl true) => (evalE C d env c).bind fun z c => pureR (cmpop .le y z) c
    | some (.bl false) => .ok (.bl false) c
    | _ => .stuck
def kTup (r : R (List PV)) : R PV := r.bind fun xs c => pureR (mkTup xs) c
def kLst (r : R (List PV)) : R PV := r.bind fun xs c => pureR (mkLst xs) c
def kIx (b : Ex FN) (env : Env) (r : R PV) : R PV := r.bind fun x c => (evalE C b env c).bind fun y c => pureR (item x y c) c
def kIx2 (x : PV) (r : R PV) : R PV := r.bind fun y c => pureR (item x y c) c
def kSl (lo hi : Option (Ex FN)) (env : Env) (r : R PV) : R PV := r.bind fun x c => (evalO C lo env c).bind fun l c => (evalO C hi env c).bind fun h c => pureR (slice x l h) c
def kSl2 (hi : Option (Ex FN)) (env : Env) (x : PV) (r : R (Option Int)) : R PV := r.bind fun l c => (evalO C hi env c).bind fun h c => pureR (slice x l h) c
def kSl3 (x : PV) (l : Option Int) (r : R (Option Int)) : R PV := r.bind fun h c => pureR (slice x l h) c
def kCall (f : FN) (r : R (List PV)) : R PV := r.bind fun xs c => C f xs c
def kBlt (b : Blt) (r : R (List PV)) : R PV := r.bind fun xs c => pureR (bltop b xs) c
def kMth (m : Mth) (es : List (Ex FN)) (env : Env) (r : R PV) : R PV := r.bind fun x c => guardR (recv m x) ((evalEs C es env c).bind fun xs c => pureR (mthop m x xs) c)
def kMth2 (m : Mth) (x : PV) (r : R (List PV)) : R PV := r.bind fun xs c => pureR (mthop m x xs) c
def kPick (ks : List Str) (e : Ex FN) (env : Env) (r : R (List PV)) : R PV := r.bind fun vs c => (evalE C e env c).bind fun x c => pickR ks vs x c
def kDc (b : Ex FN) (env : Env) (r : R PV) : R PV := r.bind fun x c => (pureR (bltop .dchk [x]) c).bind fun x c => (evalE C b env c).bind fun y c => pureR (bltop .dcat [x, y]) c
def kDc1 (b : Ex FN) (env : Env) (r : R PV) : R PV := r.bind fun x c => (evalE C b env c).bind fun y c => pureR (bltop .dcat [x, y]) c
def kDc2 (x : PV) (r : R PV) : R PV := r.bind fun y c => pureR (bltop .dcat [x, y]) c
def kDa (k v : Ex FN) (env : Env) (r : R PV) : R PV := r.bind fun x c => (pureR (bltop .dchk [x]) c).bind fun x c => (evalE C k env c).bind fun y c => (evalE C v env c).bind fun u c => pureR (bltop .dadd [x, y, u]) c
def kDa1 (k v : Ex FN) (env : Env) (r : R PV) : R PV := r.bind fun x c => (evalE C k env c).bind fun y c => (evalE C v env c).bind fun u c => pureR (bltop .dadd [x, y, u]) c
def kDa2 (v : Ex FN) (env : Env) (x : PV) (r : R PV) : R PV := r.bind fun y c => (evalE C v env c).bind fun u c => pureR (bltop .dadd [x, y, u]) c
def kDa3 (x y : PV) (r : R PV) : R PV := r.bind fun u c => pureR (bltop .dadd [x, y, u]) c
def kPick2 (ks : List Str) (vs : List PV) (r : R PV) : R PV := r.bind fun x c => pickR ks vs x c
def kIs (t : Ty) (r : R PV) : R PV := r.bind fun x c => pureR (blV (isTy t x)) c
def kEs (es : List (Ex FN)) (env : Env) (r : R PV) : R (List PV) := r.bind fun x c => (evalEs C es env c).bind fun xs c => .ok (x :: xs) c
def kEs2 (x : PV) (r : R (List PV)) : R (List PV) := r.bind fun xs c => .ok (x :: xs) c
def kO (r : R PV) : R (Option Int) := r.bind fun x c => match x with
    | .int i => .ok (some i) c
    | _ => .stuck
def kSeq (r : R PV) : R (List PV) := r.bind fun x c => seqR (asSeq x) c
def kR1 (r : R PV) : R (List PV) := r.bind fun x c => match x with
    | .int b => if okR b then .ok (rng 0 b) c else .stuck
    | _ => .stuck
def kR2 (b : Ex FN) (env : Env) (r : R PV) : R (List PV) := r.bind fun x c => (evalE C b env c).bind fun y c => match x, y with
    | .int i, .int j => if okR i && okR j then .ok (rng i j) c else .stuck
    | _, _ => .stuck
def kR3 (x : PV) (r : R PV) : R (List PV) := r.bind fun y c => match x, y with
    | .int i, .int j => if okR i && okR j then .ok (rng i j) c else .stuck
    | _, _ => .stuck
def kZip (b : Ex FN) (env : Env) (r : R PV) : R (List PV) := r.bind fun x c => (evalE C b env c).bind fun y c => match x, y with
    | .lst xs, .lst ys => .ok (zipV xs ys) c
    | .tup xs, .tup ys => .ok (zipV xs ys) c
    | .lst xs, .tup ys => .ok (zipV xs ys) c
    | .tup xs, .lst ys => .ok (zipV xs ys) c
    | _, _ => .stuck
def kZip2 (x : PV) (r : R PV) : R (List PV) := r.bind fun y c => match x, y with
    | .lst xs, .lst ys => .ok (zipV xs ys) c
    | .tup xs, .tup ys => .ok (zipV xs ys) c
    | .lst xs, .tup ys => .ok (zipV xs ys) c
    | .tup xs, .lst ys => .ok (zipV xs ys) c
    | _, _ => .stuck
def kEnum (r : R PV) : R (List PV) := r.bind fun x c => match x with
    | .lst xs => .ok (enumV 0 xs) c
    | .tup xs => .ok (enumV 0 xs) c
    | _ => .stuck
def kAsg (t : Tg) (env : Env) (r : R PV) : SR := r.st env fun v c => optS (bindT t v env) c
def kOwn (i : Nat) (env : Env) (r : R PV) : SR := (slotR true r).st env fun s c => .nx (env.set i s) c
def kSlot (o : Bool) (x : Option PV) (z : PV) (c : List PV) : R Slot := if o then (match x with
  | some v => .ok (.own v) c
  | none => .stuck) else .ok (.val z) c
def kPar (i : Nat) (oj : Bool) (j : Nat) (b : Ex FN) (env : Env) (r : R Slot) : SR := r.st env fun s c => (slotR oj (evalE C b env c)).st env fun t c => .nx ((env.set i s).set j t) c
def kPar3a (i : Nat) (j : Nat) (b : Ex FN) (l : Nat) (d : Ex FN) (env : Env) (r : R Slot) : SR := r.st env fun s c => (slotR false (evalE C b env c)).st env fun t c => (slotR false (evalE C d env c)).st env fun u c => .nx (((env.set i s).set j t).set l u) c
def kPar3b (i : Nat) (j : Nat) (l : Nat) (d : Ex FN) (env : Env) (s : Slot) (r : R Slot) : SR := r.st env fun t c => (slotR false (evalE C d env c)).st env fun u c => .nx (((env.set i s).set j t).set l u) c
def kPar3c (i : Nat) (j : Nat) (l : Nat) (env : Env) (s t : Slot) (r : R Slot) : SR := r.st env fun u c => .nx (((env.set i s).set j t).set l u) c
def kPar2 (i : Nat) (j : Nat) (env : Env) (s : Slot) (r : R Slot) : SR := r.st env fun t c => .nx ((env.set i s).set j t) c
def kOwn2 (i : Nat) (env : Env) (r : R Slot) : SR := r.st env fun s c => .nx (env.set i s) c
def kApp (i : Nat) (e : Ex FN) (env : Env) (c : List PV) (o : Option Slot) : SR := match o with
    | some (.own (.lst xs)) => (evalE C e env c).st env fun v c => if xs.length < LIM then .nx (env.set i (.own (.lst (xs ++ [v])))) c else .stuck
    | _ => .stuck
def kApp2 (i : Nat) (env : Env) (xs : List PV) (r : R PV) : SR := r.st env fun v c => if xs.length < LIM then .nx (env.set i (.own (.lst (xs ++ [v])))) c else .stuck
def kIfe (a b : List (Sm FN)) (env : Env) (r : R Bool) : SR := r.st env fun k c => if k then execSs C a env c else execSs C b env c
def kW (t : Ex FN) (b : List (Sm FN)) (n : Nat) (env : Env) (c : List PV) : SR := whileN (fun env c => truthR (evalE C t env c)) (fun env c => execSs C b env c) n env c
def kWt (t : Ex FN) (b : List (Sm FN)) (n : Nat) (env : Env) (r : R Bool) : SR := r.st env fun k c => if k then (execSs C b env c).bind fun env c => kW C t b n env c else .nx env c
def kWs (t : Ex FN) (b : List (Sm FN)) (n : Nat) (x : SR) : SR := x.bind fun env c => kW C t b n env c
def kRet (env : Env) (r : R PV) : SR := r.st env fun v c => .rt v c
def kExp (env : Env) (r : R PV) : SR := r.st env fun _ c => .nx env c
def kSs (r : List (Sm FN)) (x : SR) : SR := x.bind fun env c => execSs C r env c
def kSetC (i j : Nat) (env : Env) (r : R PV) : SR := r.st env fun v c => match env[i]? with
    | some (.val .cup) => if j < c.length then .nx env (c.set j v) else .stuck
    | _ => .stuck
def kSetC2 (j : Nat) (env : Env) (v : PV) (c : List PV) (o : Option Slot) : SR := match o with
    | some (.val .cup) => if j < c.length then .nx env (c.set j v) else .stuck
    | _ => .stuck
def kRc (env : Env) (r : R (List PV)) : SR := r.st env fun xs c => match c with
    | [] => if xs.isEmpty then .stuck else if xs.length ≤ LIM then .rt .cup xs else .stuck
    | _ => .stuck
def kAP (k i : Nat) (e : Ex FN) (env : Env) (c : List PV) (o1 o2 : Option Slot) : SR := match o1, o2 with
    | some (.val (.tup ys)), some (.own (.lst xs)) => (evalE C e env c).st env fun v c => (match v with
      | .int n => (match popAt xs n with
        | some (x, r) => if ys.length < LIM then .nx ((env.set i (.own (.lst r))).set k (.val (.tup (ys ++ [x])))) c else .stuck
        | none => .stuck)
      | _ => .stuck)
    | _, _ => .stuck
def kAP2 (k i : Nat) (env : Env) (ys xs : List PV) (r : R PV) : SR := r.st env fun v c => (match v with
      | .int n => (match popAt xs n with
        | some (x, r) => if ys.length < LIM then .nx ((env.set i (.own (.lst r))).set k (.val (.tup (ys ++ [x])))) c else .stuck
        | none => .stuck)
      | _ => .stuck)
def kAP3 (k i : Nat) (env : Env) (ys : List PV) (c : List PV) (o : Option (PV × List PV)) : SR := match o with
        | some (x, r) => if ys.length < LIM then .nx ((env.set i (.own (.lst r))).set k (.val (.tup (ys ++ [x])))) c else .stuck
        | none => .stuck
variable {C}
variable {a b d t e : Ex FN} {es : List (Ex FN)} {env : Env} {c : List PV} {v x y z : PV} {xs : List PV} {i j : Nat} {o : Bop} {q : Cop} {lo hi : Option (Ex FN)}
theorem e_con : evalE C (.con v) env c = .ok v c := by rw [evalE]
theorem e_var : evalE C (.var i) env c = pureR (varv env i) c := by rw [evalE]
theorem e_bor : evalE C (.bor i) env c = pureR (borv env i) c := by rw [evalE]
theorem e_bin : evalE C (.bin o a b) env c = kBin C o b env (evalE C a env c) := by rw [evalE]; rfl
theorem k_bin : kBin C o b env (.ok x c) = kBin2 o x (evalE C b env c) := rfl
theorem k_bin2 : kBin2 o x (.ok y c) = pureR (binop o x y) c := rfl
theorem e_cmp : evalE C (.cmp q a b) env c = kCmp C q b env (evalE C a env c) := by rw [evalE]; rfl
theorem k_cmp : kCmp C q b env (.ok x c) = kCmp2 q x (evalE C b env c) := rfl
theorem k_cmp2 : kCmp2 q x (.ok y c) = pureR (cmpop q x y) c := rfl
theorem e_neg : evalE C (.neg a) env c = kNeg (evalE C a env c) := by rw [evalE]; rfl
theorem k_neg {n : Int} : kNeg (.ok (.int n) c) = .ok (.int (-n)) c := rfl
theorem e_nt : evalE C (.nt a) env c = kNt (truthR (evalE C a env c)) := by rw [evalE]; rfl
theorem k_nt {k : Bool} : kNt (.ok k c) = .ok (.bl (!k)) c := rfl
theorem k_truth : truthR (.ok v c) = optB (truth v) c := rfl
theorem k_optB {k : Bool} : optB (some k) c = .ok k c := rfl
theorem e_and : evalE C (.and a b) env c = kAnd C b env (evalE C a env c) := by rw [evalE]; rfl
theorem k_and : kAnd C b env (.ok x c) = kAnd2 C b env x (truth x) c := rfl
theorem k_andT : kAnd2 C b env x (some true) c = evalE C b env c := rfl
theorem k_andF : kAnd2 C b env x (some false) c = .ok x c := rfl
theorem e_or : evalE C (.or a b) env c = kOr C b env (evalE C a env c) := by rw [evalE]; rfl
theorem k_or : kOr C b env (.ok x c) = kOr2 C b env x (truth x) c := rfl
theorem k_orT : kOr2 C b env x (some true) c = .ok x c := rfl
theorem k_orF : kOr2 C b env x (some false) c = evalE C b env c := rfl
theorem e_ite : evalE C (.ite t a b) env c = kIte C a b env (truthR (evalE C t env c)) := by rw [evalE]; rfl
theorem k_iteT : kIte C a b env (.ok true c) = evalE C a env c := rfl
theorem k_iteF : kIte C a b env (.ok false c) = evalE C b env c := rfl
theorem e_chain : evalE C (.chain a b d) env c = kCh C b d env (evalE C a env c) := by rw [evalE]; rfl
theorem k_ch : kCh C b d env (.ok x c) = kCh2 C d env x (evalE C b env c) := rfl
theorem k_ch2 : kCh2 C d env x (.ok y c) = kCh3 C d env y (cmpop .le x y) c := rfl
theorem k_ch3T : kCh3 C d env y (some (.bl true)) c = kCmp2 .le y (evalE C d env c) := rfl
theorem k_ch3F : kCh3 C d env y (some (.bl false)) c = .ok (.bl false) c := rfl
theorem e_tup : evalE C (.tup es) env c = kTup (evalEs C es env c) := by rw [evalE]; rfl
theorem k_tup : kTup (.ok xs c) = pureR (mkTup xs) c := rfl
theorem e_lst : evalE C (.lst es) env c = kLst (evalEs C es env c) := by rw [evalE]; rfl
theorem k_lst : kLst (.ok xs c) = pureR (mkLst xs) c := rfl
theorem e_ix : evalE C (.ix a b) env c = kIx C b env (evalE C a env c) := by rw [evalE]; rfl
theorem k_ix : kIx C b env (.ok x c) = kIx2 x (evalE C b env c) := rfl
theorem k_ix2 : kIx2 x (.ok y c) = pureR (item x y c) c := rfl
theorem e_sl : evalE C (.sl a lo hi) env c = kSl C lo hi env (evalE C a env c) := by rw [evalE]; rfl
theorem k_sl : kSl C lo hi env (.ok x c) = kSl2 C hi env x (evalO C lo env c) := rfl
theorem k_sl2 {l : Option Int} : kSl2 C hi env x (.ok l c) = kSl3 x l (evalO C hi env c) := rfl
theorem k_sl3 {l h : Option Int} : kSl3 x l (.ok h c) = pureR (slice x l h) c := rfl
theorem e_call {f : FN} : evalE C (.call f es) env c = kCall C f (evalEs C es env c) := by rw [evalE]; rfl
theorem k_call {f : FN} : kCall C f (.ok xs c) = C f xs c := rfl
theorem e_blt {m : Blt} : evalE C (.blt m es) env c = kBlt m (evalEs C es env c) := by rw [evalE]; rfl
theorem k_blt {m : Blt} : kBlt m (.ok xs c) = pureR (bltop m xs) c := rfl
theorem e_mth {m : Mth} : evalE C (.mth m a es) env c = kMth C m es env (evalE C a env c) := by rw [evalE]; rfl
theorem k_mth {m : Mth} (h : recv m x = true) : kMth C m es env (.ok x c) = kMth2 m x (evalEs C es env c) := by
  show guardR (recv m x) _ = _
  rw [h]; rfl
theorem k_mth2 {m : Mth} : kMth2 m x (.ok xs c) = pureR (mthop m x xs) c := rfl
theorem e_isin {t : Ty} : evalE C (.isin a t) env c = kIs t (evalE C a env c) := by rw [evalE]; rfl
theorem k_is {t : Ty} : kIs t (.ok x c) = pureR (blV (isTy t x)) c := rfl
theorem e_pick {ks : List Str} : evalE C (.pick ks es a) env c = kPick C ks a env (evalEs C es env c) := by rw [evalE]; rfl
theorem k_pick {ks : List Str} : kPick C ks a env (.ok xs c) = kPick2 ks xs (evalE C a env c) := rfl
theorem k_pick2 {ks : List Str} {s : Str} : kPick2 ks xs (.ok (.str s) c) = pureR (pickV ks xs s) c := rfl
theorem e_pickC {kvs : List (Str × PV)} : evalE C (.pickC kvs a) env c = kPick2 (kvs.map (·.1)) (kvs.map (·.2)) (evalE C a env c) := by rw [evalE]; rfl
def kInC (neg : Bool) (ks : List Str) (x : R PV) : R PV := x.bind fun x c => inC neg ks x c
theorem e_inC {neg : Bool} {kvs : List (Str × PV)} : evalE C (.inC neg kvs a) env c = kInC neg (kvs.map (·.1)) (evalE C a env c) := by rw [evalE]; rfl
theorem k_inC {neg : Bool} {ks : List Str} {s : Str} : kInC neg ks (.ok (.str s) c) = .ok (.bl (decide (s ∈ ks) != neg)) c := rfl
theorem e_told {hs : List (Str × Option Str)} {v : Str} : evalE C (.told hs v a) env c = toldR hs v (evalE C a env c) := by rw [evalE]
theorem k_told {hs : List (Str × Option Str)} {v : Str} {x : PV} : toldR hs v (.ok x c) = .ok (.str v) c := rfl
theorem k_toldX {hs : List (Str × Option Str)} {v cl : Str} {x : PV} : toldR hs v (.exc cl x c) = pureR ((takeX hs cl).bind (fillX x)) c := rfl
theorem s_tryR : execS C (.tryR a) env c = (noX (evalE C a env c)).st env fun v c => .rt v c := by rw [execS]
theorem k_tryR {x : PV} : ((noX (.ok x c : R PV)).st env fun v c => .rt v c) = .rt x c := rfl
theorem s_rse {cl : Str} : execS C (.rse cl) env c = .exc cl .non env c := by rw [execS]
theorem e_dcat : evalE C (.dcat a b) env c = kDc C b env (evalE C a env c) := by rw [evalE]; rfl
theorem k_dc : kDc C b env (.ok x c) = kDc1 C b env (pureR (bltop .dchk [x]) c) := rfl
theorem k_dc1 : kDc1 C b env (.ok x c) = kDc2 x (evalE C b env c) := rfl
theorem k_dc2 : kDc2 x (.ok y c) = pureR (bltop .dcat [x, y]) c := rfl
theorem e_dadd : evalE C (.dadd a b d) env c = kDa C b d env (evalE C a env c) := by rw [evalE]; rfl
theorem k_da : kDa C b d env (.ok x c) = kDa1 C b d env (pureR (bltop .dchk [x]) c) := rfl
theorem k_da1 : kDa1 C b d env (.ok x c) = kDa2 C d env x (evalE C b env c) := rfl
theorem k_da2 : kDa2 C d env x (.ok y c) = kDa3 x y (evalE C d env c) := rfl
theorem k_da3 : kDa3 x y (.ok z c) = pureR (bltop .dadd [x, y, z]) c := rfl
theorem es_nil : evalEs C [] env c = .ok [] c := by rw [evalEs]
theorem es_cons : evalEs C (a :: es) env c = kEs C es env (evalE C a env c) := by rw [evalEs]; rfl
theorem k_es : kEs C es env (.ok x c) = kEs2 x (evalEs C es env c) := rfl
theorem k_es2 : kEs2 x (.ok xs c) = .ok (x :: xs) c := rfl
theorem o_none : evalO C none env c = .ok none c := by rw [evalO]
theorem o_some : evalO C (some a) env c = kO (evalE C a env c) := by rw [evalO]; rfl
theorem k_o {n : Int} : kO (.ok (.int n) c) = .ok (some n) c := rfl
theorem c_none : condR C none env c = .ok true c := by rw [condR]
theorem c_some : condR C (some a) env c = truthR (evalE C a env c) := by rw [condR]; rfl
theorem i_seq : evalI C (.seq a) env c = kSeq (evalE C a env c) := by rw [evalI]; rfl
theorem k_seqT : kSeq (.ok (.tup xs) c) = .ok xs c := rfl
theorem k_seqD {kvs : List (PV × PV)} : kSeq (.ok (.dic kvs) c) = .ok (kvs.map (·.1)) c := rfl
theorem k_seqL : kSeq (.ok (.lst xs) c) = .ok xs c := rfl
theorem i_r1 : evalI C (.range1 a) env c = kR1 (evalE C a env c) := by rw [evalI]; rfl
theorem k_r1 {n : Int} (h : okR n = true) : kR1 (.ok (.int n) c) = .ok (rng 0 n) c := by
  show (if okR n then _ else _) = _
  rw [if_pos h]
theorem i_r2 : evalI C (.range2 a b) env c = kR2 C b env (evalE C a env c) := by rw [evalI]; rfl
theorem k_r2 : kR2 C b env (.ok x c) = kR3 x (evalE C b env c) := rfl
theorem k_r3 {m n : Int} (h1 : okR m = true) (h : okR n = true) : kR3 (.int m) (.ok (.int n) c) = .ok (rng m n) c := by
  show (if okR m && okR n then _ else _) = _
  rw [if_pos (by rw [h1, h]; rfl)]
theorem i_zip : evalI C (.zip a b) env c = kZip C b env (evalE C a env c) := by rw [evalI]; rfl
theorem k_zip : kZip C b env (.ok x c) = kZip2 x (evalE C b env c) := rfl
theorem k_zipT {ys : List PV} : kZip2 (.tup xs) (.ok (.tup ys) c) = .ok (zipV xs ys) c := rfl
theorem k_zipLT {ys : List PV} : kZip2 (.lst xs) (.ok (.tup ys) c) = .ok (zipV xs ys) c := rfl
theorem k_zipL {ys : List PV} : kZip2 (.lst xs) (.ok (.lst ys) c) = .ok (zipV xs ys) c := rfl
theorem i_enum : evalI C (.enum a) env c = kEnum (evalE C a env c) := by rw [evalI]; rfl
theorem k_enum : kEnum (.ok (.lst xs) c) = .ok (enumV 0 xs) c := rfl
theorem k_enumT : kEnum (.ok (.tup xs) c) = .ok (enumV 0 xs) c := rfl
variable {tg : Tg} {r ss : List (Sm FN)} {s : Sm FN} {it : Ie FN} {env' : Env}
theorem s_asg : execS C (.asg tg a) env c = kAsg tg env (evalE C a env c) := by rw [execS]; rfl
theorem k_asg : kAsg tg env (.ok v c) = optS (bindT tg v env) c := rfl
theorem s_own : execS C (.own i a) env c = kOwn2 i env (slotR true (evalE C a env c)) := by rw [execS]; rfl
theorem k_own2 {w : Slot} : kOwn2 i env (.ok w c) = .nx (env.set i w) c := rfl
theorem k_slotL : slotR true (.ok (.lst xs) c) = .ok (.own (.lst xs)) c := rfl
theorem k_slotD {kv : List (PV × PV)} : slotR true (.ok (.dic kv) c) = .ok (.own (.dic kv)) c := rfl
theorem k_slotI {ks : List Int} {vs : List PV} : slotR true (.ok (.dki ks vs) c) = .ok (.own (.dki ks vs)) c := rfl
theorem k_slotV : slotR false (.ok v c) = .ok (.val v) c := rfl
theorem s_par {oi oj : Bool} : execS C (.par oi i a oj j b) env c = kPar C i oj j b env (slotR oi (evalE C a env c)) := by rw [execS]; rfl
theorem k_par {oj : Bool} {w : Slot} : kPar C i oj j b env (.ok w c) = kPar2 i j env w (slotR oj (evalE C b env c)) := rfl
theorem k_par2 {w u : Slot} : kPar2 i j env w (.ok u c) = .nx ((env.set i w).set j u) c := rfl
theorem s_par3 {l : Nat} : execS C (.par3 i a j b l d) env c = kPar3a C i j b l d env (slotR false (evalE C a env c)) := by rw [execS]; rfl
theorem k_par3a {l : Nat} {w : Slot} : kPar3a C i j b l d env (.ok w c) = kPar3b C i j l d env w (slotR false (evalE C b env c)) := rfl
theorem k_par3b {l : Nat} {w u : Slot} : kPar3b C i j l d env w (.ok u c) = kPar3c i j l env w u (slotR false (evalE C d env c)) := rfl
theorem k_par3c {l : Nat} {w u q : Slot} : kPar3c i j l env w u (.ok q c) = .nx (((env.set i w).set j u).set l q) c := rfl
theorem s_frz {is : List Nat} : execS C (.frz is) env c = .nx (frzP env is) c := by rw [execS]
theorem s_app : execS C (.app i a) env c = kApp C i a env c env[i]? := by rw [execS]; rfl
theorem k_app : kApp C i a env c (some (.own (.lst xs))) = kApp2 i env xs (evalE C a env c) := rfl
theorem k_app2 (h : xs.length < LIM) : kApp2 i env xs (.ok v c) = .nx (env.set i (.own (.lst (xs ++ [v])))) c := by
  show (if _ then _ else _) = _
  rw [if_pos h]
theorem s_ife : execS C (.ife t r ss) env c = kIfe C r ss env (truthR (evalE C t env c)) := by rw [execS]; rfl
theorem k_ifeT : kIfe C r ss env (.ok true c) = execSs C r env c := rfl
theorem k_ifeF : kIfe C r ss env (.ok false c) = execSs C ss env c := rfl
theorem s_whl : execS C (.whl t r) env c = kW C t r (WB + 20) env c := by rw [execS]; rfl
theorem k_w {n : Nat} : kW C t r (n + 1) env c = kWt C t r n env (truthR (evalE C t env c)) := rfl
theorem k_wT {n : Nat} : kWt C t r n env (.ok true c) = kWs C t r n (execSs C r env c) := rfl
theorem k_wF {n : Nat} : kWt C t r n env (.ok false c) = .nx env c := rfl
theorem k_wN {n : Nat} : kWs C t r n (.nx env c) = kW C t r n env c := rfl
theorem k_wR {n : Nat} : kWs C t r n (.rt v c) = .rt v c := rfl
theorem s_ret : execS C (.ret a) env c = kRet env (evalE C a env c) := by rw [execS]; rfl
theorem k_ret : kRet env (.ok v c) = .rt v c := rfl
theorem s_exp : execS C (.exp a) env c = kExp env (evalE C a env c) := by rw [execS]; rfl
theorem k_exp : kExp env (.ok v c) = .nx env c := rfl
def kSetD3 (i : Nat) (env : Env) (kvs : List (PV × PV)) (v : PV) (r : R PV) : SR := r.st env fun k c => if isKey k && decide (kvs.length < LIM) then .nx (env.set i (.own (.dic (dput kvs k v)))) c else .stuck
def kSetI3 (i : Nat) (env : Env) (ks : List Int) (vs : List PV) (v : PV) (r : R PV) : SR := r.st env fun k c => match k with
    | .int n => if decide (n ∉ ks) && decide (ks.length < LIM) then .nx (env.set i (.own (.dki (ks ++ [n]) (vs ++ [v])))) c else .stuck
    | _ => .stuck
def kSetD (C : FN → List PV → List PV → R PV) (i : Nat) (k : Ex FN) (env : Env) (r : R PV) : SR := r.st env fun v c => match env[i]? with
    | some (.own (.dic kvs)) => kSetD3 i env kvs v (evalE C k env c)
    | some (.own (.dki ks vs)) => kSetI3 i env ks vs v (evalE C k env c)
    | _ => .stuck
theorem s_setD {k : Ex FN} : execS C (.setD i k a) env c = kSetD C i k env (evalE C a env c) := by rw [execS]; rfl
theorem k_setD {k : Ex FN} {kvs : List (PV × PV)} (h : env[i]? = some (.own (.dic kvs))) : kSetD C i k env (.ok v c) = kSetD3 i env kvs v (evalE C k env c) := by
  unfold kSetD
  rw [R.st_ok, h]
theorem k_setD3 {kvs : List (PV × PV)} {k : PV} (h1 : isKey k = true) (h2 : kvs.length < LIM) : kSetD3 i env kvs v (.ok k c) = .nx (env.set i (.own (.dic (dput kvs k v)))) c := by
  unfold kSetD3
  rw [R.st_ok, h1, decide_eq_true h2]; rfl
theorem k_setI {k : Ex FN} {ks : List Int} {vs : List PV} (h : env[i]? = some (.own (.dki ks vs))) : kSetD C i k env (.ok v c) = kSetI3 i env ks vs v (evalE C k env c) := by
  unfold kSetD
  rw [R.st_ok, h]
theorem k_setI3 {ks : List Int} {vs : List PV} {n : Int} (h1 : n ∉ ks) (h2 : ks.length < LIM) : kSetI3 i env ks vs v (.ok (.int n) c) = .nx (env.set i (.own (.dki (ks ++ [n]) (vs ++ [v])))) c := by
  unfold kSetI3
  rw [R.st_ok]
  simp only
  rw [decide_eq_true h1, decide_eq_true h2]; rfl
theorem s_setC : execS C (.setC i j a) env c = kSetC i j env (evalE C a env c) := by rw [execS]; rfl
theorem k_setC : kSetC i j env (.ok v c) = kSetC2 j env v c env[i]? := rfl
theorem k_setC2 (h : j < c.length) : kSetC2 j env v c (some (.val .cup)) = .nx env (c.set j v) := by
  show (if _ then _ else _) = _
  rw [if_pos h]
theorem k_cup0 : kSetC2 0 env v [x, y] (some (.val .cup)) = .nx env [v, y] := rfl
theorem k_cup1 : kSetC2 1 env v [x, y] (some (.val .cup)) = .nx env [x, v] := rfl
theorem s_ap {k : Nat} : execS C (.addPop k i a) env c = kAP C k i a env c env[k]? env[i]? := by rw [execS]; rfl
theorem k_ap {k : Nat} {ys : List PV} : kAP C k i a env c (some (.val (.tup ys))) (some (.own (.lst xs))) = kAP2 k i env ys xs (evalE C a env c) := rfl
theorem k_ap2 {k : Nat} {ys : List PV} {n : Int} : kAP2 k i env ys xs (.ok (.int n) c) = kAP3 k i env ys c (popAt xs n) := rfl
theorem k_ap3 {k : Nat} {ys rr : List PV} (h : ys.length < LIM) : kAP3 k i env ys c (some (x, rr)) = .nx ((env.set i (.own (.lst rr))).set k (.val (.tup (ys ++ [x])))) c := by
  show (if _ then _ else _) = _
  rw [if_pos h]
theorem s_rc : execS C (.retCup es) env c = kRc env (evalEs C es env c) := by rw [execS]; rfl
theorem k_rc (h : xs.isEmpty = false) (hl : xs.length ≤ LIM) : kRc env (.ok xs []) = .rt .cup xs := by
  show (if _ then _ else if _ then _ else _) = _
  rw [h, if_neg (by decide), if_pos hl]
theorem ss_nil : execSs C [] env c = .nx env c := by rw [execSs]
theorem ss_cons : execSs C (s :: r) env c = kSs C r (execS C s env c) := by rw [execSs]; rfl
theorem k_ssN : kSs C r (.nx env c) = execSs C r env c := rfl
theorem k_ssR : kSs C r (.rt v c) = .rt v c := rfl
end
end PP

set_option linter.all false
set_option maxRecDepth 100000
namespace K44
open PP
abbrev n_is_whole : Nat := 0
abbrev n_is_tuple_of : Nat := 1
abbrev n_are_whole : Nat := 2
abbrev n_pairs_of : Nat := 3
abbrev n_pair_of : Nat := 4
abbrev n_fits_tie : Nat := 5
abbrev n_fits_company : Nat := 6
abbrev n_company_by : Nat := 7
abbrev n_ties_in : Nat := 8
abbrev n_part_by : Nat := 9
abbrev n_need_named : Nat := 10
abbrev n_need_company : Nat := 11
abbrev n_answer_of : Nat := 12
abbrev n_behind : Nat := 13
abbrev n_run_by : Nat := 14
abbrev n_are_two_named : Nat := 15
abbrev n_are_answers : Nat := 16
abbrev n_fits_deed : Nat := 17
abbrev n_fits_choice : Nat := 18
abbrev n_items_in : Nat := 19
abbrev n_fits_script : Nat := 20
abbrev n_fits_stock : Nat := 21
abbrev n_led_from : Nat := 22
abbrev n_counted_ways : Nat := 23
abbrev n_orders_of : Nat := 24
abbrev n_named_anew : Nat := 25
abbrev n_all_names : Nat := 26
abbrev n_need_stock : Nat := 27
abbrev n_need_goal : Nat := 28
abbrev n_companies_led : Nat := 29
abbrev n_count_ways : Nat := 30
abbrev n_way_but_names : Nat := 31
abbrev n_all_views : Nat := 32
abbrev n_table_by : Nat := 33
abbrev n_tables_by : Nat := 34
abbrev n_united : Nat := 35
abbrev n_is_united : Nat := 36
abbrev n_lasting_in : Nat := 37
abbrev n_way_of_lots : Nat := 38
abbrev n_need_one_or_two : Nat := 39
abbrev n_lasting_pair : Nat := 40
abbrev n_forgetting_way : Nat := 41
abbrev n_turned_by : Nat := 42
abbrev n_fits_wish : Nat := 43
abbrev n_brought_in : Nat := 44
abbrev n_need_wish : Nat := 45
abbrev n_turned_view : Nat := 46
abbrev n_bringing_way : Nat := 47
abbrev n_brought_views : Nat := 48
abbrev n__law_cup : Nat := 49
abbrev n__law_roll : Nat := 50
abbrev n__law_book : Nat := 51
abbrev n__law_error : Nat := 52
abbrev n__law_no_named : Nat := 53
abbrev n__law_no_stock : Nat := 54
abbrev n_law : Nat := 55
def b__law_error_hs : List (PySem.Str × Option PySem.Str) := [("InvalidCompany", some "company"), ("InvalidGoal", some "goal"), ("InvalidNamed", some "named"), ("InvalidNumber", some "number"), ("InvalidPairs", some "pairs"), ("InvalidStock", some "stock"), ("InvalidWish", some "wish"), ("TooMany", some "many\x00"), ("BesidesError", some "other")]
/-- is_whole: 0 value 1 low 2 high -/
def b_is_whole : List (Sm Nat) := [.ret (.and (.isin (.var 0) .int) (.and (.nt (.isin (.var 0) .bool)) (.chain (.var 1) (.var 0) (.var 2))))]
/-- is_tuple_of: 0 value 1 low 2 high -/
def b_is_tuple_of : List (Sm Nat) := [.ret (.and (.isin (.var 0) .tuple) (.chain (.var 1) (.blt .len [.var 0]) (.var 2)))]
/-- are_whole: 0 value 1 low 2 high 3 item -/
def b_are_whole_c0 : Ex Nat := .comp [3] (.call n_is_whole [.var 3, .var 1, .var 2]) (.name 3) (.seq (.var 0)) none
def b_are_whole : List (Sm Nat) := [.ret (.blt .all [b_are_whole_c0])]
/-- pairs_of: 0 people 1 one 2 other -/
def b_pairs_of_c0 : Ex Nat := .comp2 [1, 2] [2] (.tup [.var 1, .var 2]) (.name 1) (.range1 (.var 0)) none (.name 2) (.range2 (.bin .add (.var 1) (.con (.int 1))) (.var 0)) none
def b_pairs_of : List (Sm Nat) := [.ret b_pairs_of_c0]
/-- pair_of: 0 one 1 other -/
def b_pair_of : List (Sm Nat) := [.ret (.tup [.blt .min2 [.var 0, .var 1], .blt .max2 [.var 0, .var 1]])]
/-- fits_tie: 0 people 1 value -/
def b_fits_tie : List (Sm Nat) := [.ret (.and (.call n_is_tuple_of [.var 1, .con (.int 2), .con (.int 2)]) (.and (.call n_are_whole [.var 1, .con (.int 0), .bin .sub (.var 0) (.con (.int 1))]) (.cmp .lt (.ix (.var 1) (.con (.int 0))) (.ix (.var 1) (.con (.int 1))))))]
/-- fits_company: 0 named 1 value 2 tie 3 one 4 other -/
def b_fits_company_c0 : Ex Nat := .comp [2] (.call n_fits_tie [.ix (.var 1) (.con (.int 0)), .var 2]) (.name 2) (.seq (.ix (.var 1) (.con (.int 1)))) none
def b_fits_company_c1 : Ex Nat := .comp [3, 4] (.cmp .lt (.var 3) (.var 4)) (.tup [.name 3, .name 4]) (.zip (.ix (.var 1) (.con (.int 1))) (.sl (.ix (.var 1) (.con (.int 1))) (some (.con (.int 1))) none)) none
def b_fits_company : List (Sm Nat) := [.ife (.or (.nt (.call n_is_tuple_of [.var 1, .con (.int 2), .con (.int 2)])) (.or (.nt (.call n_is_whole [.ix (.var 1) (.con (.int 0)), .var 0, .con (.int 9)])) (.nt (.isin (.ix (.var 1) (.con (.int 1))) .tuple)))) [.ret (.con (.bl false))] [],
  .ife (.nt (.blt .all [b_fits_company_c0])) [.ret (.con (.bl false))] [],
  .ret (.blt .all [b_fits_company_c1])]
/-- company_by: 0 people 1 ties 2 pair -/
def b_company_by_c0 : Ex Nat := .comp [2] (.var 2) (.name 2) (.seq (.call n_pairs_of [.var 0])) (some (.ix (.var 1) (.var 2)))
def b_company_by : List (Sm Nat) := [.ret (.tup [.var 0, .blt .tuple [b_company_by_c0]])]
/-- ties_in: 0 company 1 pair -/
def b_ties_in_c0 : Ex Nat := .comp [1] (.tup [.var 1, .cmp .inn (.var 1) (.ix (.var 0) (.con (.int 1)))]) (.name 1) (.seq (.call n_pairs_of [.ix (.var 0) (.con (.int 0))])) none
def b_ties_in : List (Sm Nat) := [.ret (.blt .dict [b_ties_in_c0])]
/-- part_by: 0 named 1 company 2 besides 3 people 4 ties 5 known 6 pair -/
def b_part_by_c0 : Ex Nat := .comp [6] (.tup [.var 6, .ix (.var 4) (.call n_pair_of [.ix (.var 3) (.ix (.var 6) (.con (.int 0))), .ix (.var 3) (.ix (.var 6) (.con (.int 1)))])]) (.name 6) (.seq (.call n_pairs_of [.blt .len [.var 3]])) none
def b_part_by : List (Sm Nat) := [.asg (.tup [.name 3, .name 4]) (.tup [.bin .add (.blt .listRange1 [.var 0]) (.blt .list [.var 2]), .call n_ties_in [.var 1]]),
  .asg (.name 5) (.blt .dict [b_part_by_c0]),
  .ret (.call n_company_by [.blt .len [.var 3], .var 5])]
/-- need_named: 0 value -/
def b_need_named : List (Sm Nat) := [.ife (.nt (.call n_is_whole [.var 0, .con (.int 1), .con (.int 3)])) [.rse "InvalidNamed"] []]
/-- need_company: 0 named 1 value -/
def b_need_company : List (Sm Nat) := [.ife (.nt (.call n_fits_company [.var 0, .var 1])) [.rse "InvalidCompany"] []]
/-- answer_of: 0 ties 1 deed 2 one 3 other 4 know 5 many 6 person 7 third -/
def b_answer_of_c0 : Ex Nat := .comp [6] (.con (.int 1)) (.name 6) (.seq (.tup [.var 2, .var 3])) (some (.ix (.var 0) (.call n_pair_of [.ix (.var 1) (.con (.int 1)), .var 6])))
def b_answer_of : List (Sm Nat) := [.asg (.name 4) (.ix (.var 0) (.tup [.var 2, .var 3])),
  .ife (.cmp .eq (.ix (.var 1) (.con (.int 0))) (.con (.str "pairs"))) [.ife (.cmp .inn (.ix (.var 1) (.con (.int 1))) (.tup [.var 2, .var 3])) [.ret (.var 4)] [], .asg (.name 5) (.blt .sum [b_answer_of_c0]), .ret (.cmp .eq (.ix (.ix (.var 1) (.con (.int 2))) (.bin .add (.bin .mul (.con (.int 3)) (.blt .int [.var 4])) (.var 5))) (.con (.int 1)))] [],
  .ife (.cmp .eq (.ix (.var 1) (.con (.int 0))) (.con (.str "takes"))) [.ife (.or (.cmp .eq (.cmp .inn (.ix (.var 1) (.con (.int 1))) (.tup [.var 2, .var 3])) (.cmp .inn (.ix (.var 1) (.con (.int 2))) (.tup [.var 2, .var 3]))) (.cmp .nin (.ix (.var 1) (.con (.int 1))) (.tup [.var 2, .var 3]))) [.ret (.var 4)] [], .asg (.name 7) (.bin .sub (.bin .add (.var 2) (.var 3)) (.ix (.var 1) (.con (.int 1)))), .ret (.cmp .eq (.ix (.ix (.var 1) (.con (.int 3))) (.bin .add (.bin .mul (.con (.int 2)) (.blt .int [.var 4])) (.blt .int [.ix (.var 0) (.call n_pair_of [.ix (.var 1) (.con (.int 2)), .var 7])]))) (.con (.int 1)))] [],
  .ife (.cmp .ne (.call n_pair_of [.ix (.var 1) (.con (.int 1)), .ix (.var 1) (.con (.int 2))]) (.tup [.var 2, .var 3])) [.ret (.var 4)] [],
  .ret (.ite (.cmp .eq (.ix (.var 1) (.con (.int 3))) (.con (.str "turn"))) (.nt (.var 4)) (.cmp .eq (.ix (.var 1) (.con (.int 3))) (.con (.str "know"))))]
/-- behind: 0 company 1 deed 2 ties 3 pairs 4 pair -/
def b_behind_c0 : Ex Nat := .comp [4] (.tup [.var 4, .call n_answer_of [.var 2, .var 1, .ix (.var 4) (.con (.int 0)), .ix (.var 4) (.con (.int 1))]]) (.name 4) (.seq (.var 3)) none
def b_behind : List (Sm Nat) := [.asg (.name 2) (.call n_ties_in [.var 0]),
  .asg (.name 3) (.call n_pairs_of [.ix (.var 0) (.con (.int 0))]),
  .ret (.call n_company_by [.ix (.var 0) (.con (.int 0)), .blt .dict [b_behind_c0]])]
/-- run_by: 0 company 1 script 2 found 3 left 4 item -/
def b_run_by_l0 : List (Sm Nat) := [.par false 4 (.ix (.var 3) (.con (.int 0))) false 3 (.sl (.var 3) (some (.con (.int 1))) none), .ife (.cmp .eq (.ix (.var 4) (.con (.int 0))) (.con (.str "ask"))) [.asg (.name 3) (.bin .add (.blt .list [.ite (.cmp .inn (.call n_pair_of [.ix (.var 4) (.con (.int 1)), .ix (.var 4) (.con (.int 2))]) (.ix (.var 0) (.con (.int 1)))) (.ix (.var 4) (.con (.int 3))) (.ix (.var 4) (.con (.int 4)))]) (.var 3))] [.par false 0 (.call n_behind [.var 0, .var 4]) false 2 (.bin .add (.var 2) (.lst [.var 4]))]]
def b_run_by_w0 : Sm Nat := .whl (.cmp .ne (.var 3) (.lst [])) b_run_by_l0
def b_run_by : List (Sm Nat) := [.par false 2 (.lst []) false 3 (.blt .list [.var 1]),
  b_run_by_w0,
  .ret (.tup [.var 0, .var 2])]
/-- are_two_named: 0 named 1 one 2 other -/
def b_are_two_named : List (Sm Nat) := [.ret (.and (.call n_is_whole [.var 1, .con (.int 0), .bin .sub (.var 0) (.con (.int 1))]) (.and (.call n_is_whole [.var 2, .con (.int 0), .bin .sub (.var 0) (.con (.int 1))]) (.cmp .ne (.var 1) (.var 2))))]
/-- are_answers: 0 value 1 many -/
def b_are_answers : List (Sm Nat) := [.ret (.and (.call n_is_tuple_of [.var 0, .var 1, .var 1]) (.call n_are_whole [.var 0, .con (.int 0), .con (.int 1)]))]
/-- fits_deed: 0 named 1 value -/
def b_fits_deed : List (Sm Nat) := [.ife (.or (.nt (.call n_is_tuple_of [.var 1, .con (.int 3), .con (.int 4)])) (.nt (.isin (.ix (.var 1) (.con (.int 0))) .str))) [.ret (.con (.bl false))] [],
  .ife (.cmp .eq (.ix (.var 1) (.con (.int 0))) (.con (.str "pairs"))) [.ret (.and (.cmp .eq (.blt .len [.var 1]) (.con (.int 3))) (.and (.call n_is_whole [.ix (.var 1) (.con (.int 1)), .con (.int 0), .bin .sub (.var 0) (.con (.int 1))]) (.call n_are_answers [.ix (.var 1) (.con (.int 2)), .con (.int 6)])))] [],
  .ife (.or (.cmp .ne (.blt .len [.var 1]) (.con (.int 4))) (.nt (.call n_are_two_named [.var 0, .ix (.var 1) (.con (.int 1)), .ix (.var 1) (.con (.int 2))]))) [.ret (.con (.bl false))] [],
  .ife (.cmp .eq (.ix (.var 1) (.con (.int 0))) (.con (.str "takes"))) [.ret (.call n_are_answers [.ix (.var 1) (.con (.int 3)), .con (.int 4)])] [],
  .ret (.and (.cmp .eq (.ix (.var 1) (.con (.int 0))) (.con (.str "tie"))) (.and (.isin (.ix (.var 1) (.con (.int 3))) .str) (.cmp .inn (.ix (.var 1) (.con (.int 3))) (.con (.tup [.str "know", .str "part", .str "turn"])))))]
/-- fits_choice: 0 named 1 value -/
def b_fits_choice : List (Sm Nat) := [.ife (.or (.nt (.call n_is_tuple_of [.var 1, .con (.int 5), .con (.int 5)])) (.or (.nt (.isin (.ix (.var 1) (.con (.int 0))) .str)) (.cmp .ne (.ix (.var 1) (.con (.int 0))) (.con (.str "ask"))))) [.ret (.con (.bl false))] [],
  .ret (.and (.call n_are_two_named [.var 0, .ix (.var 1) (.con (.int 1)), .ix (.var 1) (.con (.int 2))]) (.and (.isin (.ix (.var 1) (.con (.int 3))) .tuple) (.isin (.ix (.var 1) (.con (.int 4))) .tuple)))]
/-- items_in: 0 named 1 value 2 found 3 line 4 script 5 depth 6 item -/
def b_items_in_c0 : Ex Nat := .comp [6] (.tup [.var 6, .var 5]) (.name 6) (.seq (.var 4)) none
def b_items_in_l0 : List (Sm Nat) := [.ife (.call n_fits_choice [.var 0, .var 6]) [.asg (.name 3) (.bin .add (.var 3) (.lst [.tup [.ix (.var 6) (.con (.int 3)), .bin .add (.var 5) (.con (.int 1))], .tup [.ix (.var 6) (.con (.int 4)), .bin .add (.var 5) (.con (.int 1))]]))] [.ife (.nt (.call n_fits_deed [.var 0, .var 6])) [.ret (.con .non)] []]]
def b_items_in_f0 : Sm Nat := .fr (.name 6) (.seq (.var 4)) b_items_in_l0
def b_items_in_l1 : List (Sm Nat) := [.asg (.tup [.tup [.name 4, .name 5], .name 3]) (.tup [.ix (.var 3) (.con (.int 0)), .sl (.var 3) (some (.con (.int 1))) none]), .asg (.name 2) (.bin .add (.var 2) b_items_in_c0), .ife (.cmp .gt (.blt .len [.var 2]) (.con (.int 30))) [.ret (.con .non)] [], b_items_in_f0]
def b_items_in_w0 : Sm Nat := .whl (.cmp .ne (.var 3) (.lst [])) b_items_in_l1
def b_items_in : List (Sm Nat) := [.par false 2 (.lst []) false 3 (.lst [.tup [.var 1, .con (.int 0)]]),
  b_items_in_w0,
  .ret (.var 2)]
/-- fits_script: 0 named 1 value 2 items 3 item 4 depth -/
def b_fits_script_c0 : Ex Nat := .comp [3, 4] (.cmp .lt (.var 4) (.con (.int 4))) (.tup [.name 3, .name 4]) (.seq (.var 2)) (some (.cmp .eq (.ix (.var 3) (.con (.int 0))) (.con (.str "ask"))))
def b_fits_script : List (Sm Nat) := [.asg (.name 2) (.ite (.isin (.var 1) .tuple) (.call n_items_in [.var 0, .var 1]) (.con .non)),
  .ife (.cmp .is (.var 2) (.con .non)) [.ret (.con (.bl false))] [],
  .ret (.blt .all [b_fits_script_c0])]
/-- fits_stock: 0 named 1 value 2 script -/
def b_fits_stock_c0 : Ex Nat := .comp [2] (.call n_fits_script [.var 0, .var 2]) (.name 2) (.seq (.var 1)) none
def b_fits_stock : List (Sm Nat) := [.ret (.and (.call n_is_tuple_of [.var 1, .con (.int 1), .con (.int 6)]) (.blt .all [b_fits_stock_c0]))]
/-- led_from: 0 companies 1 stock 2 found 3 line 4 here 5 at 6 script 7 there 8 company -/
def b_led_from_c0 : Ex Nat := .comp [8] (.ix (.call n_run_by [.var 8, .var 6]) (.con (.int 0))) (.name 8) (.seq (.var 4)) none
def b_led_from_l0 : List (Sm Nat) := [.asg (.name 7) (.blt .tuple [b_led_from_c0]), .ife (.cmp .nin (.var 7) (.var 2)) [.par false 2 (.dadd (.var 2) (.var 7) (.bin .add (.ix (.var 2) (.var 4)) (.tup [.var 5]))) false 3 (.bin .add (.var 3) (.lst [.var 7])), .ife (.cmp .gt (.blt .len [.var 2]) (.con (.int 1000))) [.rsa "TooMany" (.con (.int 1000))] []] []]
def b_led_from_f0 : Sm Nat := .fr (.tup [.name 5, .name 6]) (.enum (.var 1)) b_led_from_l0
def b_led_from_l1 : List (Sm Nat) := [.par false 4 (.ix (.var 3) (.con (.int 0))) false 3 (.sl (.var 3) (some (.con (.int 1))) none), b_led_from_f0]
def b_led_from_w0 : Sm Nat := .whl (.cmp .ne (.var 3) (.lst [])) b_led_from_l1
def b_led_from : List (Sm Nat) := [.par false 2 (.blt .done [.var 0, .tup []]) false 3 (.lst [.var 0]),
  b_led_from_w0,
  .ret (.var 2)]
/-- counted_ways: 0 company 1 goal 2 stock 3 many 4 here 5 turn 6 later 7 some 8 script 9 there -/
def b_counted_ways_l0 : List (Sm Nat) := [.asg (.name 9) (.ix (.call n_run_by [.var 7, .var 8]) (.con (.int 0))), .asg (.name 6) (.dadd (.var 6) (.var 9) (.bin .add (.mth .get2 (.var 6) [.var 9, .con (.int 0)]) (.ix (.var 4) (.var 7))))]
def b_counted_ways_f0 : Sm Nat := .fr (.name 8) (.seq (.var 2)) b_counted_ways_l0
def b_counted_ways_l1 : List (Sm Nat) := [b_counted_ways_f0]
def b_counted_ways_f1 : Sm Nat := .fr (.name 7) (.seq (.var 4)) b_counted_ways_l1
def b_counted_ways_l2 : List (Sm Nat) := [.asg (.name 6) (.blt .dnew []), b_counted_ways_f1, .asg (.name 4) (.var 6)]
def b_counted_ways_f2 : Sm Nat := .fr (.name 5) (.range1 (.var 3)) b_counted_ways_l2
def b_counted_ways : List (Sm Nat) := [.asg (.name 4) (.blt .done [.var 0, .con (.int 1)]),
  b_counted_ways_f2,
  .ret (.mth .get2 (.var 4) [.var 1, .con (.int 0)])]
/-- orders_of: 0 people 1 found 2 turn 3 some 4 person -/
def b_orders_of_c0 : Ex Nat := .comp2 [3, 4] [4] (.bin .add (.var 3) (.tup [.var 4])) (.name 3) (.seq (.var 1)) none (.name 4) (.seq (.var 0)) (some (.cmp .nin (.var 4) (.var 3)))
def b_orders_of_l0 : List (Sm Nat) := [.asg (.name 1) b_orders_of_c0]
def b_orders_of_f0 : Sm Nat := .fr (.name 2) (.seq (.var 0)) b_orders_of_l0
def b_orders_of : List (Sm Nat) := [.asg (.name 1) (.lst [.tup []]),
  b_orders_of_f0,
  .ret (.var 1)]
/-- named_anew: 0 company 1 order 2 one 3 other -/
def b_named_anew_c0 : Ex Nat := .comp [2, 3] (.call n_pair_of [.ix (.var 1) (.var 2), .ix (.var 1) (.var 3)]) (.tup [.name 2, .name 3]) (.seq (.ix (.var 0) (.con (.int 1)))) none
def b_named_anew : List (Sm Nat) := [.ret (.tup [.ix (.var 0) (.con (.int 0)), .blt .tuple [.blt .sorted [b_named_anew_c0]]])]
/-- all_names: 0 named 1 company 2 first 3 order -/
def b_all_names_c0 : Ex Nat := .comp [3] (.call n_named_anew [.var 1, .bin .add (.var 2) (.var 3)]) (.name 3) (.seq (.call n_orders_of [.blt .listRange2 [.var 0, .ix (.var 1) (.con (.int 0))]])) none
def b_all_names : List (Sm Nat) := [.asg (.name 2) (.blt .tupRange1 [.var 0]),
  .ret b_all_names_c0]
/-- need_stock: 0 named 1 value -/
def b_need_stock : List (Sm Nat) := [.ife (.nt (.call n_fits_stock [.var 0, .var 1])) [.rse "InvalidStock"] []]
/-- need_goal: 0 named 1 company 2 value -/
def b_need_goal : List (Sm Nat) := [.ife (.or (.nt (.call n_fits_company [.var 0, .var 2])) (.cmp .ne (.ix (.var 2) (.con (.int 0))) (.ix (.var 1) (.con (.int 0))))) [.rse "InvalidGoal"] []]
/-- companies_led: 0 named 1 company 2 stock 3 some -/
def b_companies_led_c0 : Ex Nat := .comp [3] (.ix (.var 3) (.con (.int 0))) (.name 3) (.seq (.call n_led_from [.tup [.var 1], .var 2])) none
def b_companies_led : List (Sm Nat) := [.exp (.call n_need_named [.var 0]),
  .exp (.call n_need_company [.var 0, .var 1]),
  .exp (.call n_need_stock [.var 0, .var 2]),
  .ret (.blt .tuple [b_companies_led_c0])]
/-- count_ways: 0 named 1 company 2 goal 3 stock 4 many -/
def b_count_ways : List (Sm Nat) := [.exp (.call n_need_named [.var 0]),
  .exp (.call n_need_company [.var 0, .var 1]),
  .exp (.call n_need_goal [.var 0, .var 1, .var 2]),
  .exp (.call n_need_stock [.var 0, .var 3]),
  .ife (.nt (.call n_is_whole [.var 4, .con (.int 0), .con (.int 60)])) [.rse "InvalidNumber"] [],
  .exp (.call n_led_from [.tup [.var 1], .var 3]),
  .ret (.call n_counted_ways [.var 1, .var 2, .var 3, .var 4])]
/-- way_but_names: 0 named 1 company 2 goal 3 stock 4 found 5 goals 6 some 7 ways -/
def b_way_but_names_c0 : Ex Nat := .comp [6] (.tup [.tup [.var 6], .con (.bl true)]) (.name 6) (.seq (.call n_all_names [.var 0, .var 2])) none
def b_way_but_names_c1 : Ex Nat := .comp [6] (.tup [.blt .len [.ix (.var 4) (.var 6)], .ix (.var 4) (.var 6)]) (.name 6) (.seq (.var 4)) (some (.cmp .inn (.var 6) (.var 5)))
def b_way_but_names : List (Sm Nat) := [.exp (.call n_need_named [.var 0]),
  .exp (.call n_need_company [.var 0, .var 1]),
  .exp (.call n_need_goal [.var 0, .var 1, .var 2]),
  .exp (.call n_need_stock [.var 0, .var 3]),
  .ife (.cmp .gt (.bin .sub (.ix (.var 1) (.con (.int 0))) (.var 0)) (.con (.int 5))) [.rsa "TooMany" (.con (.int 5))] [],
  .asg (.name 4) (.call n_led_from [.tup [.var 1], .var 3]),
  .asg (.name 5) (.blt .dictM [b_way_but_names_c0]),
  .asg (.name 7) b_way_but_names_c1,
  .ret (.ite (.cmp .ne (.var 7) (.lst [])) (.ix (.blt .minT [.var 7]) (.con (.int 1))) (.con .non))]
/-- all_views: 0 named 1 found 2 pair 3 ties -/
def b_all_views_c0 : Ex Nat := .comp [3] (.bin .add (.var 3) (.tup [.var 2])) (.name 3) (.seq (.var 1)) none
def b_all_views_l0 : List (Sm Nat) := [.asg (.name 1) (.bin .add (.var 1) b_all_views_c0)]
def b_all_views_f0 : Sm Nat := .fr (.name 2) (.seq (.call n_pairs_of [.bin .add (.var 0) (.con (.int 2))])) b_all_views_l0
def b_all_views_c1 : Ex Nat := .comp [3] (.tup [.bin .add (.var 0) (.con (.int 2)), .var 3]) (.name 3) (.seq (.blt .sorted [.var 1])) none
def b_all_views : List (Sm Nat) := [.asg (.name 1) (.lst [.tup []]),
  b_all_views_f0,
  .ret b_all_views_c1]
/-- table_by: 0 named 1 script 2 views 3 numbers 4 at 5 view -/
def b_table_by_c0 : Ex Nat := .comp [4, 5] (.tup [.var 5, .var 4]) (.tup [.name 4, .name 5]) (.enum (.var 2)) none
def b_table_by_c1 : Ex Nat := .comp [5] (.ix (.var 3) (.ix (.call n_run_by [.var 5, .var 1]) (.con (.int 0)))) (.name 5) (.seq (.var 2)) none
def b_table_by : List (Sm Nat) := [.asg (.name 2) (.call n_all_views [.var 0]),
  .asg (.name 3) (.blt .dict [b_table_by_c0]),
  .ret (.blt .tuple [b_table_by_c1])]
/-- tables_by: 0 named 1 stock 2 script -/
def b_tables_by_c0 : Ex Nat := .comp [2] (.call n_table_by [.var 0, .var 2]) (.name 2) (.seq (.var 1)) none
def b_tables_by : List (Sm Nat) := [.ret b_tables_by_c0]
/-- united: 0 tables 1 many 2 found 3 pairs 4 one 5 other 6 is_new 7 fresh 8 pair -/
def b_united_c0 : Ex Nat := .comp2 [4, 5] [5] (.tup [.var 4, .var 5]) (.name 4) (.range1 (.var 1)) none (.name 5) (.range2 (.bin .add (.var 4) (.con (.int 1))) (.var 1)) none
def b_united_c1 : Ex Nat := .comp [8] (.var 8) (.name 8) (.seq (.var 3)) (some (.and (.cmp .nin (.var 8) (.var 2)) (.call n_is_united [.var 2, .var 0, .var 8])))
def b_united_c2 : Ex Nat := .comp [8] (.tup [.var 8, .con (.bl true)]) (.name 8) (.seq (.var 7)) none
def b_united_l0 : List (Sm Nat) := [.asg (.name 7) b_united_c1, .asg (.tup [.name 2, .name 6]) (.tup [.dcat (.var 2) (.blt .dict [b_united_c2]), .cmp .ne (.var 7) (.lst [])])]
def b_united_w0 : Sm Nat := .whl (.var 6) b_united_l0
def b_united : List (Sm Nat) := [.asg (.tup [.name 2, .name 3]) (.tup [.blt .dnew [], b_united_c0]),
  .asg (.name 6) (.con (.bl true)),
  b_united_w0,
  .ret (.var 2)]
/-- is_united: 0 found 1 tables 2 pair 3 table 4 one 5 other -/
def b_is_united_l0 : List (Sm Nat) := [.par false 4 (.ix (.var 3) (.ix (.var 2) (.con (.int 0)))) false 5 (.ix (.var 3) (.ix (.var 2) (.con (.int 1)))), .ife (.or (.cmp .eq (.var 4) (.var 5)) (.cmp .inn (.tup [.blt .min2 [.var 4, .var 5], .blt .max2 [.var 4, .var 5]]) (.var 0))) [.ret (.con (.bl true))] []]
def b_is_united_f0 : Sm Nat := .fr (.name 3) (.seq (.var 1)) b_is_united_l0
def b_is_united : List (Sm Nat) := [b_is_united_f0,
  .ret (.con (.bl false))]
/-- lasting_in: 0 tables 1 many 2 found 3 one 4 other -/
def b_lasting_in_l0 : List (Sm Nat) := [.ife (.cmp .nin (.tup [.var 3, .var 4]) (.var 2)) [.ret (.tup [.var 3, .var 4])] []]
def b_lasting_in_f0 : Sm Nat := .fr (.name 4) (.range2 (.bin .add (.var 3) (.con (.int 1))) (.var 1)) b_lasting_in_l0
def b_lasting_in_l1 : List (Sm Nat) := [b_lasting_in_f0]
def b_lasting_in_f1 : Sm Nat := .fr (.name 3) (.range1 (.var 1)) b_lasting_in_l1
def b_lasting_in : List (Sm Nat) := [.asg (.name 2) (.call n_united [.var 0, .var 1]),
  b_lasting_in_f1,
  .ret (.con .non)]
/-- way_of_lots: 0 tables 1 many 2 is_sought 3 start 4 line 5 met 6 lot 7 way 8 at 9 table 10 there 11 view -/
def b_way_of_lots_c0 : Ex Nat := .comp [11] (.ix (.var 9) (.var 11)) (.name 11) (.seq (.var 6)) none
def b_way_of_lots_l0 : List (Sm Nat) := [.asg (.name 10) (.blt .tuple [.blt .sortedSet [b_way_of_lots_c0]]), .ife .bad [.ret (.bin .add (.var 7) (.tup [.var 8]))] [], .ife (.cmp .nin (.var 10) (.var 5)) [.par false 4 (.bin .add (.var 4) (.lst [.tup [.var 10, .bin .add (.var 7) (.tup [.var 8])]])) false 5 (.dadd (.var 5) (.var 10) (.con (.bl true))), .ife (.cmp .gt (.blt .len [.var 5]) (.con (.int 1000))) [.rsa "TooMany" (.con (.int 1000))] []] []]
def b_way_of_lots_f0 : Sm Nat := .fr (.tup [.name 8, .name 9]) (.enum (.var 0)) b_way_of_lots_l0
def b_way_of_lots_l1 : List (Sm Nat) := [.asg (.tup [.tup [.name 6, .name 7], .name 4]) (.tup [.ix (.var 4) (.con (.int 0)), .sl (.var 4) (some (.con (.int 1))) none]), b_way_of_lots_f0]
def b_way_of_lots_w0 : Sm Nat := .whl (.cmp .ne (.var 4) (.lst [])) b_way_of_lots_l1
def b_way_of_lots : List (Sm Nat) := [.asg (.name 3) (.blt .tupRange1 [.var 1]),
  .par false 4 (.lst [.tup [.var 3, .tup []]]) false 5 (.blt .done [.var 3, .con (.bl true)]),
  .ife .bad [.ret (.tup [])] [],
  b_way_of_lots_w0,
  .ret (.con .non)]
/-- need_one_or_two: 0 value -/
def b_need_one_or_two : List (Sm Nat) := [.ife (.nt (.call n_is_whole [.var 0, .con (.int 1), .con (.int 2)])) [.rse "InvalidNamed"] []]
/-- lasting_pair: 0 named 1 stock -/
def b_lasting_pair : List (Sm Nat) := [.exp (.call n_need_one_or_two [.var 0]),
  .exp (.call n_need_stock [.var 0, .var 1]),
  .ret (.call n_lasting_in [.call n_tables_by [.var 0, .var 1], .blt .len [.call n_all_views [.var 0]]])]
/-- forgetting_way: 0 named 1 stock 2 tables 3 many -/
def b_forgetting_way : List (Sm Nat) := [.exp (.call n_need_one_or_two [.var 0]),
  .exp (.call n_need_stock [.var 0, .var 1]),
  .par false 2 (.call n_tables_by [.var 0, .var 1]) false 3 (.blt .len [.call n_all_views [.var 0]]),
  .ife (.cmp .isn (.call n_lasting_in [.var 2, .var 3]) (.con .non)) [.ret (.con .non)] [],
  .ret (.call n_way_of_lots [.var 2, .var 3, .bad])]
/-- turned_by: 0 named 1 views 2 view -/
def b_turned_by_c0 : Ex Nat := .comp [2] (.mth .index (.var 1) [.call n_part_by [.var 0, .var 2, .tup [.bin .add (.var 0) (.con (.int 1)), .var 0]]]) (.name 2) (.seq (.var 1)) none
def b_turned_by : List (Sm Nat) := [.asg (.name 1) (.call n_all_views [.var 0]),
  .ret b_turned_by_c0]
/-- fits_wish: 0 named 1 value 2 turned 3 one 4 other 5 view -/
def b_fits_wish_c0 : Ex Nat := .comp [3, 4] (.cmp .lt (.var 3) (.var 4)) (.tup [.name 3, .name 4]) (.zip (.var 1) (.sl (.var 1) (some (.con (.int 1))) none)) none
def b_fits_wish_c1 : Ex Nat := .comp [5] (.cmp .inn (.ix (.var 2) (.var 5)) (.var 1)) (.name 5) (.seq (.var 1)) none
def b_fits_wish : List (Sm Nat) := [.ife (.or (.nt (.isin (.var 1) .tuple)) (.nt (.call n_are_whole [.var 1, .con (.int 0), .bin .sub (.blt .len [.call n_all_views [.var 0]]) (.con (.int 1))]))) [.ret (.con (.bl false))] [],
  .asg (.name 2) (.call n_turned_by [.var 0]),
  .ret (.and (.blt .all [b_fits_wish_c0]) (.blt .all [b_fits_wish_c1]))]
/-- brought_in: 0 tables 1 many 2 wish 3 found 4 is_new 5 view 6 fresh 7 table -/
def b_brought_in_c0 : Ex Nat := .comp [5] (.tup [.var 5, .con (.bl true)]) (.name 5) (.seq (.var 2)) none
def b_brought_in_c1 : Ex Nat := .comp [7] (.cmp .inn (.ix (.var 7) (.var 5)) (.var 3)) (.name 7) (.seq (.var 0)) none
def b_brought_in_c2 : Ex Nat := .comp [5] (.var 5) (.name 5) (.range1 (.var 1)) (some (.and (.cmp .nin (.var 5) (.var 3)) (.blt .any [b_brought_in_c1])))
def b_brought_in_c3 : Ex Nat := .comp [5] (.tup [.var 5, .con (.bl true)]) (.name 5) (.seq (.var 6)) none
def b_brought_in_l0 : List (Sm Nat) := [.asg (.name 6) b_brought_in_c2, .asg (.tup [.name 3, .name 4]) (.tup [.dcat (.var 3) (.blt .dict [b_brought_in_c3]), .cmp .ne (.var 6) (.lst [])])]
def b_brought_in_w0 : Sm Nat := .whl (.var 4) b_brought_in_l0
def b_brought_in : List (Sm Nat) := [.asg (.tup [.name 3, .name 4]) (.tup [.blt .dict [b_brought_in_c0], .con (.bl true)]),
  b_brought_in_w0,
  .ret (.blt .tuple [.blt .sorted [.var 3]])]
/-- need_wish: 0 named 1 value -/
def b_need_wish : List (Sm Nat) := [.ife (.nt (.call n_fits_wish [.var 0, .var 1])) [.rse "InvalidWish"] []]
/-- turned_view: 0 named 1 number -/
def b_turned_view : List (Sm Nat) := [.exp (.call n_need_one_or_two [.var 0]),
  .ife (.nt (.call n_is_whole [.var 1, .con (.int 0), .bin .sub (.blt .len [.call n_all_views [.var 0]]) (.con (.int 1))])) [.rse "InvalidNumber"] [],
  .ret (.ix (.call n_turned_by [.var 0]) (.var 1))]
/-- bringing_way: 0 named 1 stock 2 wish 3 view -/
def b_bringing_way : List (Sm Nat) := [.exp (.call n_need_one_or_two [.var 0]),
  .exp (.call n_need_stock [.var 0, .var 1]),
  .exp (.call n_need_wish [.var 0, .var 2]),
  .ret (.call n_way_of_lots [.call n_tables_by [.var 0, .var 1], .blt .len [.call n_all_views [.var 0]], .bad])]
/-- brought_views: 0 named 1 stock 2 wish -/
def b_brought_views : List (Sm Nat) := [.exp (.call n_need_one_or_two [.var 0]),
  .exp (.call n_need_stock [.var 0, .var 1]),
  .exp (.call n_need_wish [.var 0, .var 2]),
  .ret (.call n_brought_in [.call n_tables_by [.var 0, .var 1], .blt .len [.call n_all_views [.var 0]], .var 2])]
/-- _law_cup: 0 _law_script 1 _law_cell -/
def b__law_cup : List (Sm Nat) := [.asg (.name 1) (.blt .abs [.ix (.bin .add (.blt .list [.var 0]) (.lst [.con (.int 0)])) (.con (.int 0))]),
  .retCup [.ite (.cmp .ge (.var 1) (.bin .pow (.con (.int 10)) (.con (.int 18)))) (.bin .fdiv (.var 1) (.con (.int 43))) (.con (.int 0)), .bin .add (.bin .mod (.blt .int [.bin .add (.bin .mul (.var 1) (.con (.int 251))) (.con (.int 2111))]) (.con (.int 2077503301))) (.con (.int 137))]]
/-- _law_roll: 0 _law_cup_here 1 _law_many 2 _law_found 3 _law_deep -/
def b__law_roll : List (Sm Nat) := [.ife (.cmp .gt (.ix (.var 0) (.con (.int 0))) (.con (.int 0))) [.asg (.name 2) (.bin .mod (.blt .int [.ix (.var 0) (.con (.int 0))]) (.var 1)), .setC 0 0 (.bin .fdiv (.ix (.var 0) (.con (.int 0))) (.var 1)), .ret (.var 2)] [],
  .setC 0 1 (.bin .mod (.blt .int [.bin .add (.bin .mul (.ix (.var 0) (.con (.int 1))) (.con (.int 30983))) (.con (.int 7933))]) (.con (.int 2147483563))),
  .asg (.name 3) (.bin .mod (.blt .int [.bin .mul (.ix (.var 0) (.con (.int 1))) (.bin .add (.ix (.var 0) (.con (.int 1))) (.con (.int 197)))]) (.con (.int 2147483587))),
  .ret (.bin .mod (.blt .int [.bin .fdiv (.var 3) (.con (.int 773))]) (.var 1))]
/-- _law_book: 0 _law_stock -/
def b__law_book : List (Sm Nat) := [.asg (.name 0) (.tup [.tup [.tup [.con (.str "tie"), .con (.int 0), .con (.int 1), .con (.str "turn")]], .tup [.tup [.con (.str "takes"), .con (.int 0), .con (.int 1), .tup [.con (.int 0), .con (.int 1), .con (.int 0), .con (.int 1)]]]]),
  .ret (.tup [.tup [.con (.int 4), .tup [.tup [.con (.int 0), .con (.int 2)], .tup [.con (.int 1), .con (.int 3)]]], .var 0, .tup [.tup [.tup [.con (.str "pairs"), .con (.int 0), .tup [.con (.int 1), .con (.int 1), .con (.int 1), .con (.int 0), .con (.int 0), .con (.int 0)]]]]])]
/-- _law_error: 0 _law_call 1 e -/
def b__law_error : List (Sm Nat) := [.bad,
  .ret (.con (.str ""))]
/-- _law_no_named: 0 _law_odd 1 _law_words 2 _law_call -/
def b__law_no_named_l0 : List (Sm Nat) := [.app 1 (.told b__law_error_hs "" (.callv [("lasting_pair", n_lasting_pair), ("forgetting_way", n_forgetting_way), ("turned_view", n_turned_view)] 2 [.var 0, .con .non]))]
def b__law_no_named_f0 : Sm Nat := .fr (.name 2) (.seq (.tup [.fnm "lasting_pair", .fnm "forgetting_way", .fnm "turned_view"])) b__law_no_named_l0
def b__law_no_named_l1 : List (Sm Nat) := [.app 1 (.told b__law_error_hs "" (.callv [("bringing_way", n_bringing_way), ("brought_views", n_brought_views)] 2 [.var 0, .con .non, .con .non]))]
def b__law_no_named_f1 : Sm Nat := .fr (.name 2) (.seq (.tup [.fnm "bringing_way", .fnm "brought_views"])) b__law_no_named_l1
def b__law_no_named : List (Sm Nat) := [.own 1 (.lst [.told b__law_error_hs "" (.call n_companies_led [.var 0, .con .non, .con .non])]),
  .app 1 (.told b__law_error_hs "" (.call n_count_ways [.var 0, .con .non, .con .non, .con .non, .con .non])),
  .app 1 (.told b__law_error_hs "" (.call n_way_but_names [.var 0, .con .non, .con .non, .con .non])),
  b__law_no_named_f0,
  b__law_no_named_f1,
  .ret (.cmp .eq (.bor 1) (.bin .mul (.lst [.con (.str "named")]) (.con (.int 8))))]
/-- _law_no_stock: 0 _law_company 1 _law_odd 2 _law_words 3 _law_call -/
def b__law_no_stock_l0 : List (Sm Nat) := [.app 2 (.told b__law_error_hs "" (.callv [("lasting_pair", n_lasting_pair), ("forgetting_way", n_forgetting_way)] 3 [.con (.int 2), .var 1]))]
def b__law_no_stock_f0 : Sm Nat := .fr (.name 3) (.seq (.tup [.fnm "lasting_pair", .fnm "forgetting_way"])) b__law_no_stock_l0
def b__law_no_stock_l1 : List (Sm Nat) := [.app 2 (.told b__law_error_hs "" (.callv [("bringing_way", n_bringing_way), ("brought_views", n_brought_views)] 3 [.con (.int 2), .var 1, .con .non]))]
def b__law_no_stock_f1 : Sm Nat := .fr (.name 3) (.seq (.tup [.fnm "bringing_way", .fnm "brought_views"])) b__law_no_stock_l1
def b__law_no_stock : List (Sm Nat) := [.own 2 (.lst [.told b__law_error_hs "" (.call n_companies_led [.con (.int 2), .var 0, .var 1])]),
  .app 2 (.told b__law_error_hs "" (.call n_count_ways [.con (.int 2), .var 0, .var 0, .var 1, .con .non])),
  .app 2 (.told b__law_error_hs "" (.call n_way_but_names [.con (.int 2), .var 0, .var 0, .var 1])),
  b__law_no_stock_f0,
  b__law_no_stock_f1,
  .ret (.cmp .eq (.bor 2) (.bin .mul (.lst [.con (.str "stock")]) (.con (.int 7))))]
/-- law: 0 _law_script 1 _law_cup_here 2 _law_p 3 _law_stock 4 _law_turning 5 _law_odd 6 _law_words -/
def b_law_l0 : List (Sm Nat) := [.ife (.nt (.call n__law_no_named [.var 5])) [.ret (.con (.bl false))] []]
def b_law_f0 : Sm Nat := .fr (.name 5) (.seq (.tup [.con .non, .con (.int 0), .con (.int 4), .con (.bl true), .con (.str "1"), .neg (.con (.int 1))])) b_law_l0
def b_law_l1 : List (Sm Nat) := [.ife (.nt (.call n__law_no_stock [.var 2, .var 5])) [.ret (.con (.bl false))] []]
def b_law_f1 : Sm Nat := .fr (.name 5) (.seq (.tup [.con .non, .tup [], .lst [.tup []], .tup [.con .non], .tup [.tup [.tup [.con (.str "tie"), .con (.int 0), .con (.int 2), .con (.str "turn")]]], .bin .mul (.tup [.tup []]) (.con (.int 7)), .tup [.tup [], .con (.str "")]])) b_law_l1
def b_law_l2 : List (Sm Nat) := [.own 6 (.lst [.told b__law_error_hs "" (.call n_companies_led [.con (.int 2), .var 5, .con .non])]), .app 6 (.told b__law_error_hs "" (.call n_count_ways [.con (.int 2), .var 5, .con .non, .con .non, .con .non])), .app 6 (.told b__law_error_hs "" (.call n_way_but_names [.con (.int 2), .var 5, .con .non, .con .non])), .app 6 (.told b__law_error_hs "" (.call n_count_ways [.con (.int 2), .var 2, .var 5, .con .non, .con .non])), .app 6 (.told b__law_error_hs "" (.call n_way_but_names [.con (.int 2), .var 2, .var 5, .con .non])), .ife (.cmp .ne (.bor 6) (.bin .add (.bin .mul (.lst [.con (.str "company")]) (.con (.int 3))) (.bin .mul (.lst [.con (.str "goal")]) (.con (.int 2))))) [.ret (.con (.bl false))] []]
def b_law_f2 : Sm Nat := .fr (.name 5) (.seq (.tup [.con .non, .tup [.con (.int 1), .tup []], .tup [.con (.int 10), .tup []], .tup [.con (.int 4), .tup [.tup [.con (.int 2), .con (.int 1)]]], .lst [.con (.int 4), .tup []], .tup [.con (.int 4), .tup [.tup [.con (.int 0), .con (.int 4)]]]])) b_law_l2
def b_law_l3 : List (Sm Nat) := [.ife (.cmp .ne (.told b__law_error_hs "" (.call n_count_ways [.con (.int 2), .var 2, .var 2, .var 3, .var 5])) (.con (.str "number"))) [.ret (.con (.bl false))] []]
def b_law_f3 : Sm Nat := .fr (.name 5) (.seq (.tup [.con .non, .neg (.con (.int 1)), .con (.int 61), .con (.bl true), .con (.str "1")])) b_law_l3
def b_law_l4 : List (Sm Nat) := [.ife (.cmp .ne (.told b__law_error_hs "" (.call n_turned_view [.con (.int 1), .var 5])) (.con (.str "number"))) [.ret (.con (.bl false))] []]
def b_law_f4 : Sm Nat := .fr (.name 5) (.seq (.tup [.con .non, .neg (.con (.int 1)), .con (.int 8), .con (.bl true), .con (.str "1")])) b_law_l4
def b_law_l5 : List (Sm Nat) := [.own 6 (.lst [.told b__law_error_hs "" (.call n_bringing_way [.con (.int 1), .var 4, .var 5])]), .app 6 (.told b__law_error_hs "" (.call n_brought_views [.con (.int 1), .var 4, .var 5])), .ife (.cmp .ne (.bor 6) (.bin .mul (.lst [.con (.str "wish")]) (.con (.int 2)))) [.ret (.con (.bl false))] []]
def b_law_f5 : Sm Nat := .fr (.name 5) (.seq (.tup [.con .non, .lst [.con (.int 0)], .tup [.con (.int 0), .con (.int 0)], .tup [.con (.int 5), .con (.int 1)], .tup [.con (.int 1)], .tup [.con (.int 8)], .tup [.con (.bl true)], .tup [.neg (.con (.int 1))], .con (.int 0), .tup [.con (.int 0), .con (.int 1)]])) b_law_l5
def b_law : List (Sm Nat) := [.asg (.name 1) (.call n__law_cup [.var 0]),
  .asg (.tup [.name 2, .name 3, .name 4]) (.call n__law_book []),
  b_law_f0,
  .own 6 (.lst [.told b__law_error_hs "" (.call n_lasting_pair [.con (.int 3), .con .non])]),
  .app 6 (.told b__law_error_hs "" (.call n_forgetting_way [.con (.int 3), .con .non])),
  .app 6 (.told b__law_error_hs "" (.call n_turned_view [.con (.int 3), .con .non])),
  .app 6 (.told b__law_error_hs "" (.call n_bringing_way [.con (.int 3), .con .non, .con .non])),
  .app 6 (.told b__law_error_hs "" (.call n_brought_views [.con (.int 3), .con .non, .con .non])),
  .ife (.cmp .ne (.bor 6) (.bin .mul (.lst [.con (.str "named")]) (.con (.int 5)))) [.ret (.con (.bl false))] [],
  b_law_f1,
  b_law_f2,
  .own 6 (.lst [.told b__law_error_hs "" (.call n_count_ways [.con (.int 2), .var 2, .tup [.con (.int 5), .tup []], .con .non, .con .non])]),
  .app 6 (.told b__law_error_hs "" (.call n_way_but_names [.con (.int 2), .var 2, .tup [.con (.int 3), .tup []], .con .non])),
  .ife (.cmp .ne (.bor 6) (.bin .mul (.lst [.con (.str "goal")]) (.con (.int 2)))) [.ret (.con (.bl false))] [],
  b_law_f3,
  b_law_f4,
  b_law_f5,
  .own 6 (.lst [.told b__law_error_hs "" (.call n_way_but_names [.con (.int 2), .tup [.con (.int 8), .tup []], .tup [.con (.int 8), .tup []], .var 3])]),
  .app 6 (.told b__law_error_hs "" (.call n_turned_view [.con (.int 2), .con (.int 64)])),
  .ife (.cmp .ne (.bor 6) (.lst [.con (.str "many5"), .con (.str "number")])) [.ret (.con (.bl false))] [],
  .ret (.and (.cmp .eq (.call n_way_but_names [.con (.int 2), .tup [.con (.int 7), .tup []], .tup [.con (.int 7), .tup []], .tup [.tup []]]) (.tup [])) (.and (.cmp .eq (.call n_companies_led [.con (.int 3), .tup [.con (.int 9), .tup []], .tup [.tup []]]) (.tup [.tup [.con (.int 9), .tup []]])) (.cmp .lt (.call n__law_roll [.var 1, .con (.int 5)]) (.con (.int 5)))))]
def P : Nat → FnP Nat
  | 0 => ⟨3, 3, b_is_whole⟩
  | 1 => ⟨3, 3, b_is_tuple_of⟩
  | 2 => ⟨3, 4, b_are_whole⟩
  | 3 => ⟨1, 3, b_pairs_of⟩
  | 4 => ⟨2, 2, b_pair_of⟩
  | 5 => ⟨2, 2, b_fits_tie⟩
  | 6 => ⟨2, 5, b_fits_company⟩
  | 7 => ⟨2, 3, b_company_by⟩
  | 8 => ⟨1, 2, b_ties_in⟩
  | 9 => ⟨3, 7, b_part_by⟩
  | 10 => ⟨1, 1, b_need_named⟩
  | 11 => ⟨2, 2, b_need_company⟩
  | 12 => ⟨4, 8, b_answer_of⟩
  | 13 => ⟨2, 5, b_behind⟩
  | 14 => ⟨2, 5, b_run_by⟩
  | 15 => ⟨3, 3, b_are_two_named⟩
  | 16 => ⟨2, 2, b_are_answers⟩
  | 17 => ⟨2, 2, b_fits_deed⟩
  | 18 => ⟨2, 2, b_fits_choice⟩
  | 19 => ⟨2, 7, b_items_in⟩
  | 20 => ⟨2, 5, b_fits_script⟩
  | 21 => ⟨2, 3, b_fits_stock⟩
  | 22 => ⟨2, 9, b_led_from⟩
  | 23 => ⟨4, 10, b_counted_ways⟩
  | 24 => ⟨1, 5, b_orders_of⟩
  | 25 => ⟨2, 4, b_named_anew⟩
  | 26 => ⟨2, 4, b_all_names⟩
  | 27 => ⟨2, 2, b_need_stock⟩
  | 28 => ⟨3, 3, b_need_goal⟩
  | 29 => ⟨3, 4, b_companies_led⟩
  | 30 => ⟨5, 5, b_count_ways⟩
  | 31 => ⟨4, 8, b_way_but_names⟩
  | 32 => ⟨1, 4, b_all_views⟩
  | 33 => ⟨2, 6, b_table_by⟩
  | 34 => ⟨2, 3, b_tables_by⟩
  | 35 => ⟨2, 9, b_united⟩
  | 36 => ⟨3, 6, b_is_united⟩
  | 37 => ⟨2, 5, b_lasting_in⟩
  | 38 => ⟨3, 12, b_way_of_lots⟩
  | 39 => ⟨1, 1, b_need_one_or_two⟩
  | 40 => ⟨2, 2, b_lasting_pair⟩
  | 41 => ⟨2, 4, b_forgetting_way⟩
  | 42 => ⟨1, 3, b_turned_by⟩
  | 43 => ⟨2, 6, b_fits_wish⟩
  | 44 => ⟨3, 8, b_brought_in⟩
  | 45 => ⟨2, 2, b_need_wish⟩
  | 46 => ⟨2, 2, b_turned_view⟩
  | 47 => ⟨3, 4, b_bringing_way⟩
  | 48 => ⟨3, 3, b_brought_views⟩
  | 49 => ⟨1, 2, b__law_cup⟩
  | 50 => ⟨2, 4, b__law_roll⟩
  | 51 => ⟨0, 1, b__law_book⟩
  | 52 => ⟨1, 2, b__law_error⟩
  | 53 => ⟨1, 3, b__law_no_named⟩
  | 54 => ⟨2, 4, b__law_no_stock⟩
  | 55 => ⟨1, 7, b_law⟩
  | _ => ⟨0, 0, [.bad]⟩
end K44

set_option Elab.async false
set_option linter.all false
set_option maxRecDepth 100000
set_option maxHeartbeats 0
namespace K44
open PySem PySem.Spec PyProof.Rows L2 PP
def top (i : Nat) : Stmt := PySem.Challenge.pw_twobesides_k44_whole_errors_of_leading.main.body.getD i (.Pass ⟨0, 0, 0, 0⟩)
def mkF (x q : Str) (i : Nat) (N ps : List Str) : FE := ⟨x, defArgs (top i), defBody (top i), defScope (top i), N, ps, q⟩
def T : List FE := ([mkF "is_whole" "is_whole" 13 ["value", "low", "high"] ["value", "low", "high"], mkF "is_tuple_of" "is_tuple_of" 14 ["value", "low", "high"] ["value", "low", "high"], mkF "are_whole" "are_whole" 15 ["value", "low", "high", "item"] ["value", "low", "high"], mkF "pairs_of" "pairs_of" 16 ["people", "one", "other"] ["people"], mkF "pair_of" "pair_of" 17 ["one", "other"] ["one", "other"], mkF "fits_tie" "fits_tie" 18 ["people", "value"] ["people", "value"], mkF "fits_company" "fits_company" 19 ["named", "value", "tie", "one", "other"] ["named", "value"], mkF "company_by" "company_by" 20 ["people", "ties", "pair"] ["people", "ties"], mkF "ties_in" "ties_in" 21 ["company", "pair"] ["company"], mkF "part_by" "part_by" 22 ["named", "company", "besides", "people", "ties", "known", "pair"] ["named", "company", "besides"], mkF "need_named" "need_named" 23 ["value"] ["value"], mkF "need_company" "need_company" 24 ["named", "value"] ["named", "value"]] : List FE) ++ ([mkF "answer_of" "answer_of" 26 ["ties", "deed", "one", "other", "know", "many", "person", "third"] ["ties", "deed", "one", "other"], mkF "behind" "behind" 27 ["company", "deed", "ties", "pairs", "pair"] ["company", "deed"], mkF "run_by" "run_by" 28 ["company", "script", "found", "left", "item"] ["company", "script"], mkF "are_two_named" "are_two_named" 33 ["named", "one", "other"] ["named", "one", "other"], mkF "are_answers" "are_answers" 34 ["value", "many"] ["value", "many"], mkF "fits_deed" "fits_deed" 35 ["named", "value"] ["named", "value"], mkF "fits_choice" "fits_choice" 36 ["named", "value"] ["named", "value"], mkF "items_in" "items_in" 37 ["named", "value", "found", "line", "script", "depth", "item"] ["named", "value"], mkF "fits_script" "fits_script" 38 ["named", "value", "items", "item", "depth"] ["named", "value"], mkF "fits_stock" "fits_stock" 44 ["named", "value", "script"] ["named", "value"], mkF "led_from" "led_from" 45 ["companies", "stock", "found", "line", "here", "at", "script", "there", "company"] ["companies", "stock"], mkF "counted_ways" "counted_ways" 46 ["company", "goal", "stock", "many", "here", "turn", "later", "some", "script", "there"] ["company", "goal", "stock", "many"]] : List FE) ++ ([mkF "orders_of" "orders_of" 47 ["people", "found", "turn", "some", "person"] ["people"], mkF "named_anew" "named_anew" 48 ["company", "order", "one", "other"] ["company", "order"], mkF "all_names" "all_names" 49 ["named", "company", "first", "order"] ["named", "company"], mkF "need_stock" "need_stock" 50 ["named", "value"] ["named", "value"], mkF "need_goal" "need_goal" 51 ["named", "company", "value"] ["named", "company", "value"], mkF "companies_led" "companies_led" 52 ["named", "company", "stock", "some"] ["named", "company", "stock"], mkF "count_ways" "count_ways" 53 ["named", "company", "goal", "stock", "many"] ["named", "company", "goal", "stock", "many"], mkF "way_but_names" "way_but_names" 54 ["named", "company", "goal", "stock", "found", "goals", "some", "ways"] ["named", "company", "goal", "stock"], mkF "all_views" "all_views" 56 ["named", "found", "pair", "ties"] ["named"], mkF "table_by" "table_by" 57 ["named", "script", "views", "numbers", "at", "view"] ["named", "script"], mkF "tables_by" "tables_by" 61 ["named", "stock", "script"] ["named", "stock"], mkF "united" "united" 62 ["tables", "many", "found", "pairs", "one", "other", "is_new", "fresh", "pair"] ["tables", "many"]] : List FE) ++ ([mkF "is_united" "is_united" 63 ["found", "tables", "pair", "table", "one", "other"] ["found", "tables", "pair"], mkF "lasting_in" "lasting_in" 64 ["tables", "many", "found", "one", "other"] ["tables", "many"], mkF "way_of_lots" "way_of_lots" 65 ["tables", "many", "is_sought", "start", "line", "met", "lot", "way", "at", "table", "there", "view"] ["tables", "many", "is_sought"], mkF "need_one_or_two" "need_one_or_two" 66 ["value"] ["value"], mkF "lasting_pair" "lasting_pair" 67 ["named", "stock"] ["named", "stock"], mkF "forgetting_way" "forgetting_way" 68 ["named", "stock", "tables", "many"] ["named", "stock"], mkF "turned_by" "turned_by" 70 ["named", "views", "view"] ["named"], mkF "fits_wish" "fits_wish" 71 ["named", "value", "turned", "one", "other", "view"] ["named", "value"], mkF "brought_in" "brought_in" 72 ["tables", "many", "wish", "found", "is_new", "view", "fresh", "table"] ["tables", "many", "wish"], mkF "need_wish" "need_wish" 73 ["named", "value"] ["named", "value"], mkF "turned_view" "turned_view" 74 ["named", "number"] ["named", "number"], mkF "bringing_way" "bringing_way" 75 ["named", "stock", "wish", "view"] ["named", "stock", "wish"]] : List FE) ++ ([mkF "brought_views" "brought_views" 76 ["named", "stock", "wish"] ["named", "stock", "wish"], mkF "_law_cup" "_law_cup" 78 ["_law_script", "_law_cell"] ["_law_script"], mkF "_law_roll" "_law_roll" 79 ["_law_cup_here", "_law_many", "_law_found", "_law_deep"] ["_law_cup_here", "_law_many"], mkF "_law_book" "_law_book" 80 ["_law_stock"] [], mkF "_law_error" "_law_error" 81 ["_law_call", "e"] ["_law_call"], mkF "_law_no_named" "_law_no_named" 82 ["_law_odd", "_law_words", "_law_call"] ["_law_odd"], mkF "_law_no_stock" "_law_no_stock" 83 ["_law_company", "_law_odd", "_law_words", "_law_call"] ["_law_company", "_law_odd"], mkF "law" "law" 84 ["_law_script", "_law_cup_here", "_law_p", "_law_stock", "_law_turning", "_law_odd", "_law_words"] ["_law_script"]] : List FE)
def frees : List Str := (["ValueError", "abs", "all", "any", "bool", "dict", "enumerate", "int", "isinstance", "len", "list", "max"] : List Str) ++ (["min", "range", "set", "sorted", "str", "sum", "super", "tuple", "zip", "InvalidScript", "InvalidPerson", "InvalidBesides"] : List Str) ++ (["NotTwo", "InvalidOrder", "InvalidText", "InvalidScripts", "InvalidLot", "InvalidWeaving", "InvalidSummary", "InvalidOwn", "InvalidOne", "InvalidTimes", "InvalidSupply", "InvalidFacts"] : List Str) ++ (["InvalidSided", "InvalidSidedScript", "InvalidBook", "InvalidGuest", "InvalidDeed", "InvalidFriends", "NothingToUndo", "NothingToRedo"] : List Str)
def nums : List (Str × Int) := ([("NAMED_companies", 3), ("PEOPLE", 9), ("ITEMS", 30), ("DEEPEST", 4), ("SCRIPTS", 6), ("MANY", 60), ("COMPANIES", 1000), ("BESIDES", 5), ("NAMED_forgetting", 2), ("LOTS", 1000)] : List (Str × Int))
def txts : List (Str × Str) := ([] : List (Str × Str))
def loose : List Str := (["BesidesError", "InvalidNamed", "InvalidCompany", "TooMany", "InvalidNumber", "InvalidStock", "InvalidGoal", "InvalidPairs", "InvalidWish", "NAMED_companies", "PEOPLE", "is_whole"] : List Str) ++ (["is_tuple_of", "are_whole", "pairs_of", "pair_of", "fits_tie", "fits_company", "company_by", "ties_in", "part_by", "need_named", "need_company", "answer_of"] : List Str) ++ (["behind", "run_by", "ITEMS", "DEEPEST", "WORDS", "are_two_named", "are_answers", "fits_deed", "fits_choice", "items_in", "fits_script", "SCRIPTS"] : List Str) ++ (["MANY", "COMPANIES", "BESIDES", "fits_stock", "led_from", "counted_ways", "orders_of", "named_anew", "all_names", "need_stock", "need_goal", "companies_led"] : List Str) ++ (["count_ways", "way_but_names", "all_views", "table_by", "NAMED_forgetting", "LOTS", "tables_by", "united", "is_united", "lasting_in", "way_of_lots", "need_one_or_two"] : List Str) ++ (["lasting_pair", "forgetting_way", "turned_by", "fits_wish", "brought_in", "need_wish", "turned_view", "bringing_way", "brought_views", "_law_cup", "_law_roll", "_law_book"] : List Str) ++ (["_law_error", "_law_no_named", "_law_no_stock"] : List Str)
def tups : List (Str × List PV) := [("WORDS", [.str "know", .str "part", .str "turn"])]
def excs : List Str := (["BesidesError", "InvalidNamed", "InvalidCompany", "TooMany", "InvalidNumber", "InvalidStock", "InvalidGoal", "InvalidPairs", "InvalidWish"] : List Str)
def er : Er := ⟨(["BesidesError", "InvalidNamed", "InvalidCompany", "InvalidNumber", "InvalidStock", "InvalidGoal", "InvalidPairs", "InvalidWish"] : List Str), [], [("_law_error", b__law_error_hs, "")], false, ["TooMany"], PySem.Challenge.pw_twobesides_k44_whole_errors_of_leading.main.file⟩
def clsB : Stmt → List Stmt
  | .ClassDef _ _ _ b _ _ _ _ _ _ _ => b
  | _ => []
def iniS (i j : Nat) : Stmt := (clsB (top i)).getD j (.Pass ⟨0, 0, 0, 0⟩)
def inis : List IniD := [⟨"TooMany", "TooMany.__init__", defArgs (iniS 4 0), defBody (iniS 4 0), defScope (iniS 4 0)⟩]
abbrev Rw : PySem.W.OpenRow := PySem.W.OpenLaw.row PySem.Challenge.rw_twobesides_k44_whole_errors_of_leading
abbrev fa : List He.Fa := faOf T frees nums txts tups excs er
abbrev fn : List He.DefD := T.map FE.d
abbrev exK : PySem.W.Frag → Bool := exB T tups excs er
abbrev tsK : List He.Tab := tsD er
abbrev hk : PySem.W.Hook := hookQ 4 fa fn tsK exK inis
def ob (s : PySem.W.SharedT) : (He.AlT × Bool) × List IniW := obQ 4 fa fn tsK exK inis (HandSHeadRun.getT s)
theorem ob_eq (s : PySem.W.SharedT) : ob s = hk.obs s.abs := obQ_eq (HandSHeadRun.getT_eq s)
theorem run (w : World) : HandSHeadRun.RunEq Rw (PySem.W.view Rw.prog [84]) hk ob 6000 loose w := by
  intro os
  kernel_rfl
end K44

set_option Elab.async false
set_option linter.all false
set_option maxRecDepth 100000
set_option maxHeartbeats 4000000
/-! PP2b: tuple * 0, tuple * 1, () * n. -/
namespace PP
open PySem PySem.Spec PyProof.Rows L2
theorem tuple_mulS (l : Addr) (items : Array Value) (n : Nat) (dd : Option Addr) (sl : Array (Option Value)) (x : Int) (u : Tok) (c0 : (decide (x < -(2 ^ 63)) || decide (x ≥ 2 ^ 63)) = false) (c1 : (items.isEmpty || x == 1) = true) :
    Meets (Builtin.«tuple.__mul__» ⟨[.ref l, .int x u], []⟩) (fun _ R s => s.heap.get? l = some { cls := .type "tuple", dict := dd, data := .seq items n, slots := sl } ∧
      R (.ok (.ret (Value.ref l))) s) :=
  .of_wp fun prog w A R s h => by
    obtain ⟨hp, g, d, tk, os⟩ := s
    obtain ⟨hl, h⟩ := h
    have f1 := AutoSeq1.idx_int
    wp_walk using wpAny_loadPart' hl
    repeat (first
      | (refine wpAny_ite_false (decide_eq_false (by rw [c0]; exact Bool.false_ne_true)) ?_; wp_walk using wpAny_loadPart' hl)
      | (refine wpAny_ite_true (decide_eq_true c1) ?_; wp_walk using wpAny_loadPart' hl))
    exact ⟨_, rfl, h⟩
theorem tuple_mulZ (l : Addr) (items : Array Value) (n : Nat) (dd : Option Addr) (sl : Array (Option Value)) (x : Int) (u : Tok) (c0 : (decide (x < -(2 ^ 63)) || decide (x ≥ 2 ^ 63)) = false) (c1 : (items.isEmpty || x == 1) = false) (c2 : (decide (x ≤ 0) || items.isEmpty) = true) :
    Meets (Builtin.«tuple.__mul__» ⟨[.ref l, .int x u], []⟩) (fun _ R s => s.heap.get? l = some { cls := .type "tuple", dict := dd, data := .seq items n, slots := sl } ∧
      R (.ok (.ret (Value.ref s.heap.objs.size))) { s with heap := s.heap.push { cls := Value.type "tuple", data := Data.seq #[] }, toks := s.toks }) :=
  .of_wp fun prog w A R s h => by
    obtain ⟨hp, g, d, tk, os⟩ := s
    obtain ⟨hl, h⟩ := h
    have f1 := AutoSeq1.idx_int
    wp_walk using wpAny_loadPart' hl
    repeat (first
      | (refine wpAny_ite_false (decide_eq_false (by rw [c0]; exact Bool.false_ne_true)) ?_; wp_walk using wpAny_loadPart' hl)
      | (refine wpAny_ite_false (decide_eq_false (by rw [c1]; exact Bool.false_ne_true)) ?_; wp_walk using wpAny_loadPart' hl)
      | (refine wpAny_ite_true (decide_eq_true c2) ?_; wp_walk using wpAny_loadPart' hl))
    exact ⟨_, rfl, h⟩
def rRepS (K : PySem.W.Frag) : R2 := fun x y H Q => ∃ l k xs, x = .ref l ∧ y = .int k ∧ SqT K H l xs ∧ 0 ≤ k ∧ k ≤ 1000 ∧
  (xs = [] ∨ k = 1 → Q (.ref l) H) ∧ (¬ (xs = [] ∨ k = 1) → k = 0 ∧ ∀ p, H p = none → Q (.ref p) (upd H p (.tup [])))
section
variable {X : Cx}
theorem op_repS : OpR X (binaryOp .Mult) (rRepS X.K) := by
  intro pins s σ H x y v u Q I rx ry h
  obtain ⟨l, k, xs, rfl, rfl, hT, h1, h2, q1, q2⟩ := h
  cases rx
  obtain ⟨t, rfl⟩ := ry
  obtain ⟨its, r, ⟨⟨cls, dd, data, sl⟩, ho, hc, n, hd⟩, hs⟩ := I.tuple hT
  simp only at hc hd
  subst hc hd
  have hle : its.length = xs.length := r.length.symm
  have hi : its.toArray.isEmpty = decide (xs = []) := by
    cases its with
    | nil => rw [List.eq_nil_of_length_eq_zero hle.symm]; rfl
    | cons a b =>
      rw [decide_eq_false (by rintro rfl; simp at hle)]; rfl
  have c0 : (decide (k < -(2 ^ 63)) || decide (k ≥ 2 ^ 63)) = false := by
    rw [decide_eq_false (by omega), decide_eq_false (by omega)] <;> rfl
  by_cases hc : xs = [] ∨ k = 1
  · have c1 : (its.toArray.isEmpty || k == 1) = true := by
      rw [hi, Bool.or_eq_true, decide_eq_true_eq, beq_iff_eq]; exact hc
    exact wpAny_binaryOp_repeat_ref (T := "tuple") (U := "int") (by decide) ⟨_, ho, rfl⟩ (fun s' => typeIs_int s' k t) noFill_tuple_mul F.fills_int_mul F.slot_int_rmul repeat_tuple F.slot_int_index.lookup
      (call_meets F.slot_int_rmul (typeIs_int s k t) F.entry_int_rmul (F.args_int_rmul_2 _ _) (int_rmul_tuple k t l its.toArray n dd sl)
        ⟨ho, rfl, ⟨_, ho, rfl⟩, call_meets F.slot_tuple_mul ⟨_, ho, rfl⟩ F.entry_tuple_mul (F.args_tuple_mul_2 _ _) (tuple_mulS l its.toArray n dd sl k t c0 c1) ⟨ho, .ref l, H, I, rfl, q1 hc⟩⟩)
  · obtain ⟨rfl, q3⟩ := q2 hc
    have hx : xs ≠ [] := fun e => hc (.inl e)
    have c1 : (its.toArray.isEmpty || (0 : Int) == 1) = false := by
      rw [hi, decide_eq_false hx]; rfl
    have c2 : (decide ((0 : Int) ≤ 0) || its.toArray.isEmpty) = true := by simp
    refine wpAny_binaryOp_repeat_ref (T := "tuple") (U := "int") (by decide) ⟨_, ho, rfl⟩ (fun s' => typeIs_int s' 0 t) noFill_tuple_mul F.fills_int_mul F.slot_int_rmul repeat_tuple F.slot_int_index.lookup
      (call_meets F.slot_int_rmul (typeIs_int s 0 t) F.entry_int_rmul (F.args_int_rmul_2 _ _) (int_rmul_tuple 0 t l its.toArray n dd sl)
        ⟨ho, rfl, ⟨_, ho, rfl⟩, call_meets F.slot_tuple_mul ⟨_, ho, rfl⟩ F.entry_tuple_mul (F.args_tuple_mul_2 _ _) (tuple_mulZ l its.toArray n dd sl 0 t c0 c1 c2) ⟨ho, ?_⟩⟩)
    refine ⟨.ref s.heap.objs.size, _, I.laid (t' := s.toks) (o := .tup []) (fun b ob q => Heap.get?_push_of_some _ q) (Nat.le_refl _) ?_, rfl, q3 _ (I.hok.fresh (Nat.le_refl _))⟩
    exact ⟨by rw [sizeLine_eq]; exact Nat.zero_le _, [], .nil, IsTup.new _ _⟩
end
end PP

set_option Elab.async false
set_option linter.all false
set_option maxRecDepth 100000
/-! PP3: operations on values, by the hand layer's rules. -/
namespace PP
open PySem PySem.Spec PyProof.Rows L2

theorem reps_nil (n : Nat) : reps ([] : List PV) n = [] := by
  unfold reps; simp
theorem reps_one (xs : List PV) : reps xs 1 = xs := by
  unfold reps; simp
theorem lim_eq : sizeLine = LIM := by rw [sizeLine_eq]; rfl

/-! ### data -/
theorem toDs_map : ∀ xs : List PV, toDs xs = xs.map toD
  | [] => by simp [toDs]
  | x :: r => by simp [toDs, toDs_map r]
mutual
theorem small_shape : ∀ (n : Nat) (p : PV), small n p = true → (toD p).canLay0 = true ∧ (toD p).depth ≤ n
  | _, .non, _ => by simp [toD, PyData.canLay0, PyData.depth]
  | _, .bl _, _ => by simp [toD, PyData.canLay0, PyData.depth]
  | _, .int _, _ => by simp [toD, PyData.canLay0, PyData.depth]
  | n, .str s, h => by
    cases n <;> simpa [small, toD, PyData.canLay0, PyData.depth] using h
  | n + 1, .tup xs, h => by
    rw [small] at h
    obtain ⟨h1, h2⟩ := small_shapes n xs h
    rw [toD, PyData.canLay0, PyData.depth]
    exact ⟨h1, by omega⟩
  | n + 1, .lst xs, h => by
    rw [small] at h
    obtain ⟨h1, h2⟩ := small_shapes n xs h
    rw [toD, PyData.canLay0, PyData.depth]
    exact ⟨h1, by omega⟩
  | 0, .tup _, h => by simp [small] at h
  | 0, .lst _, h => by simp [small] at h
  | n, .dic _, h => by cases n <;> simp [small] at h
  | n, .dki _ _, h => by cases n <;> simp [small] at h
  | n, .cup, h => by cases n <;> simp [small] at h
  | n, .scr _, h => by cases n <;> simp [small] at h
  | n, .rg _ _, h => by cases n <;> simp [small] at h
  | n, .fnv _, h => by cases n <;> simp [small] at h
theorem small_shapes : ∀ (n : Nat) (xs : List PV), xs.all (small n) = true → PyData.canLayAll0 (toDs xs) = true ∧ PyData.depthAll (toDs xs) ≤ n
  | n, [], _ => by simp [toDs, PyData.canLayAll0, PyData.depthAll]
  | n, x :: xs, h => by
    rw [List.all_cons, Bool.and_eq_true] at h
    obtain ⟨a1, a2⟩ := small_shape n x h.1
    obtain ⟨b1, b2⟩ := small_shapes n xs h.2
    rw [toDs, PyData.canLayAll0, PyData.depthAll, a1, b1]
    exact ⟨rfl, by omega⟩
end
theorem dat_shaped {p : PV} (h : dat p = true) : SeqAt.shaped (toD p) = true := by
  obtain ⟨h1, h2⟩ := small_shape 60 p h
  unfold SeqAt.shaped
  rw [h1, decide_eq_true (show (toD p).depth ≤ 64 by omega)]
  rfl
mutual
theorem peq_eqv : ∀ (p q : PV) (n m : Nat), small n p = true → small m q = true → PyData.eqv (toD p) (toD q) = peq p q
  | .non, q, n, m, _, h => by
    cases q <;> first | (simp [toD, PyData.eqv, peq]; done) | (cases m <;> simp [small] at h)
  | .bl _, q, n, m, _, h => by
    cases q <;> first | (simp [toD, PyData.eqv, peq]; done) | (cases m <;> simp [small] at h)
  | .int _, q, n, m, _, h => by
    cases q <;> first | (simp [toD, PyData.eqv, peq]; done) | (cases m <;> simp [small] at h)
  | .str _, q, n, m, _, h => by
    cases q <;> first | (simp [toD, PyData.eqv, peq]; done) | (cases m <;> simp [small] at h)
  | .tup xs, q, n, m, h0, h => by
    cases q with
    | tup ys =>
      cases n with
      | zero => simp [small] at h0
      | succ n =>
        cases m with
        | zero => simp [small] at h
        | succ m =>
          rw [small] at h0 h
          rw [toD, toD, PyData.eqv, peq]
          exact peqL_eqv xs ys n m h0 h
    | _ => first | (simp [toD, PyData.eqv, peq]; done) | (cases m <;> simp [small] at h)
  | .lst xs, q, n, m, h0, h => by
    cases q with
    | lst ys =>
      cases n with
      | zero => simp [small] at h0
      | succ n =>
        cases m with
        | zero => simp [small] at h
        | succ m =>
          rw [small] at h0 h
          rw [toD, toD, PyData.eqv, peq]
          exact peqL_eqv xs ys n m h0 h
    | _ => first | (simp [toD, PyData.eqv, peq]; done) | (cases m <;> simp [small] at h)
  | .dic _, _, n, _, h, _ => by cases n <;> simp [small] at h
  | .dki _ _, _, n, _, h, _ => by cases n <;> simp [small] at h
  | .cup, _, n, _, h, _ => by cases n <;> simp [small] at h
  | .scr _, _, n, _, h, _ => by cases n <;> simp [small] at h
  | .rg _ _, _, n, _, h, _ => by cases n <;> simp [small] at h
  | .fnv _, _, n, _, h, _ => by cases n <;> simp [small] at h
theorem peqL_eqv : ∀ (xs ys : List PV) (n m : Nat), xs.all (small n) = true → ys.all (small m) = true → PyData.eqvAll (toDs xs) (toDs ys) = peqL xs ys
  | [], [], _, _, _, _ => by simp [toDs, PyData.eqvAll, peqL]
  | [], _ :: _, _, _, _, _ => by simp [toDs, PyData.eqvAll, peqL]
  | _ :: _, [], _, _, _, _ => by simp [toDs, PyData.eqvAll, peqL]
  | x :: xs, y :: ys, n, m, h0, h => by
    rw [List.all_cons, Bool.and_eq_true] at h0 h
    rw [toDs, toDs, PyData.eqvAll, peqL, peq_eqv x y n m h0.1 h.1, peqL_eqv xs ys n m h0.2 h.2]
end
section
variable {T : Wd} {g : Gh} {c : List PV} {H : Hp}
mutual
theorem Rp.dp (h : HR T g c H) : ∀ {v : V} {p : PV} (n : Nat), small n p = true → Rp T g v p → Dp T.K H v (toD p)
  | _, _, _, _, .non => by rw [toD]; exact .non
  | _, _, _, _, .bl b => by rw [toD]; exact .bl b
  | _, _, _, _, .int i => by rw [toD]; exact .int i
  | _, _, _, _, .str s => by rw [toD]; exact .str s
  | _, _, 0, s, .tup _ _ => by simp [small] at s
  | _, _, n + 1, s, .tup e r => by
    rw [small] at s
    rw [toD]
    exact .tup (h.sqT e) (RpL.dp h n s r)
  | _, _, 0, s, .lst _ _ => by simp [small] at s
  | _, _, n + 1, s, .lst e r => by
    rw [small] at s
    rw [toD]
    exact .lst (SqL.of (h.sub _ _ e)) (RpL.dp h n s r)
  | _, _, n, s, .dic _ _ _ _ _ _ _ => by cases n <;> simp [small] at s
  | _, _, n, s, .dki _ _ _ => by cases n <;> simp [small] at s
  | _, _, n, s, .cup _ => by cases n <;> simp [small] at s
  | _, _, n, s, .scr _ => by cases n <;> simp [small] at s
  | _, _, n, s, .rg _ => by cases n <;> simp [small] at s
  | _, _, n, s, .fnv _ => by cases n <;> simp [small] at s
theorem RpL.dp (h : HR T g c H) : ∀ {vs : List V} {ps : List PV} (n : Nat), ps.all (small n) = true → RpL T g vs ps → DpAll T.K H vs (toDs ps)
  | _, _, _, _, .nil => by rw [toDs]; exact .nil
  | _, _, n, s, .cons r t => by
    rw [List.all_cons, Bool.and_eq_true] at s
    rw [toDs]
    exact .cons (Rp.dp h n s.1 r) (RpL.dp h n s.2 t)
end
theorem Ct.dp (h : HR T g c H) {v : V} {p : PV} (n : Nat) (s : small n p = true) (x : Ct T g H v p) : Dp T.K H v (toD p) := by
  rcases x with x | ⟨a, rfl, o⟩
  · exact x.dp h n s
  · cases p with
    | lst ps =>
      obtain ⟨_, vs, e, r⟩ := o
      cases n with
      | zero => simp [small] at s
      | succ n =>
        rw [small] at s
        rw [toD]
        exact .lst (SqL.of e) (r.dp h n s)
    | dic kvs => cases n <;> simp [small] at s
    | dki ks ps => cases n <;> simp [small] at s
    | _ => exact o.elim
end

/-! ### what is wanted behind an operation -/
def Fin (T : Wd) (g : Gh) (H : Hp) (c : List PV) (Q : VK) (z : PV) : Prop := ∀ g' H' v, Pres g H g' H' → HR T g' c H' → Rp T g' v z → Q v H'
/-- .. the value an object of one's own -/
def FinO (T : Wd) (g : Gh) (H : Hp) (c : List PV) (Q : VK) (z : PV) : Prop := ∀ g' H' a, Pres g H g' H' → HR T g' c H' → Nt H a → g'.F a = none → g'.c ≠ some a → OwnR T g' H' a z → Q (.ref a) H'
theorem Fin.own {T : Wd} {g : Gh} {H : Hp} {c : List PV} {Q : VK} {z : PV} (f : Fin T g H c Q z) : FinO T g H c Q z := fun g' H' a x h na nf nc o => by
  obtain ⟨u, e, r, nt⟩ := o.rp nf
  exact f (g'.put a u) H' (.ref a) (x.freeze nf na) (h.freeze e nf nc nt) r
theorem Fin.here {T : Wd} {g : Gh} {H : Hp} {c : List PV} {Q : VK} {z : PV} {v : V} (f : Fin T g H c Q z) (h : HR T g c H) (r : Rp T g v z) : Q v H := f g H v Pres.refl h r
/-- a new tuple -/
theorem Fin.newT {T : Wd} {g : Gh} {H : Hp} {c : List PV} {Q : VK} {ps : List PV} {vs : List V} (f : Fin T g H c Q (.tup ps)) (h : HR T g c H) (r : RpL T g vs ps) : ∀ a, H a = none → Q (.ref a) (upd H a (.tup vs)) := fun a n => by
  obtain ⟨x, h'⟩ := h.alloc (o := .tup vs) n
  exact f _ _ _ x h' (.tup (SqT.of upd_same) (r.ext x.ext))
/-- a new list -/
theorem FinO.newL {T : Wd} {g : Gh} {H : Hp} {c : List PV} {Q : VK} {ps : List PV} {vs : List V} (f : FinO T g H c Q (.lst ps)) (h : HR T g c H) (r : RpL T g vs ps) : ∀ a, H a = none → Q (.ref a) (upd H a (.lst vs)) := fun a n => by
  obtain ⟨x, h'⟩ := h.fresh (o := .lst vs) n
  obtain ⟨n1, n2⟩ := h.ne n
  exact f _ _ a x h' (.of n) n1 n2 ⟨n2, vs, upd_same, r⟩

/-! ### binary operators -/
def bopOf : Bop → Operator
  | .add => .Add
  | .sub => .Sub
  | .mul => .Mult
  | .fdiv => .FloorDiv
  | .mod => .Mod
  | .pow => .Pow
def isLst : PV → Bool
  | .lst _ => true
  | _ => false
def rB (T : Wd) (f : PV → PV → Option PV) : R2 := fun x y H Q => ∃ g c p q z, HR T g c H ∧ Ct T g H x p ∧ Ct T g H y q ∧ f p q = some z ∧ Fin T g H c Q z
def rBO (T : Wd) (f : PV → PV → Option PV) : R2 := fun x y H Q => ∃ g c p q z, HR T g c H ∧ Ct T g H x p ∧ Ct T g H y q ∧ f p q = some z ∧ isLst z = true ∧ FinO T g H c Q z
section
variable {X : Cx}
theorem op_binO (o : Bop) : OpR X (binaryOp (bopOf o)) (rBO (wd X) (binop o)) := by
  intro pins s σ H x y v u Q I rx ry h
  obtain ⟨g, c, p, q, z, hr, cx, cy, e, hz, fin⟩ := h
  unfold binop at e
  split at e <;> first | (cases e; done) | skip
  all_goals first | (cases e; cases hz; done) | skip
  · unfold mkStr at e; split at e <;> cases e; cases hz
  · unfold mkTup at e; split at e <;> cases e; cases hz
  · rename_i xs ys
    unfold mkLst at e
    split at e <;> cases e
    rename_i hl
    obtain ⟨a, vs, rfl, ea, ra⟩ := cx.lst hr
    obtain ⟨b, ws, rfl, eb, rb⟩ := cy.lst hr
    refine op_cat pins s σ H _ _ v u Q I rx ry ⟨a, b, vs, ws, rfl, rfl, ea, eb, ?_, ?_⟩
    · rw [lim_eq, ra.length, rb.length]
      simpa using hl
    · exact fin.newL hr (ra.append rb)
  · split at e <;> cases e; cases hz
  · split at e <;> cases e; cases hz
  · rename_i xs n
    split at e <;> cases e
    rename_i hc
    obtain ⟨h1, h2, h3⟩ := hc
    obtain ⟨a, vs, rfl, ea, ra⟩ := cx.lst hr
    have hv := ra.length
    refine op_rep pins s σ H _ _ v u Q I rx ry ⟨a, n, vs, rfl, cy.int, ea, by omega, by omega, ?_, ?_⟩
    · rw [lim_eq]
      have a1 : vs.length * n.toNat ≤ 1000 * 1000 := Nat.mul_le_mul (by omega) (by omega)
      have a2 : 1000 * 1000 ≤ LIM := by decide
      omega
    · exact fin.newL hr (ra.rep n.toNat)
  · split at e
    · cases e; cases hz
    · split at e <;> cases e; cases hz
  · split at e <;> cases e; cases hz
  · split at e <;> cases e; cases hz
theorem op_bin (o : Bop) : OpR X (binaryOp (bopOf o)) (rB (wd X) (binop o)) := by
  intro pins s σ H x y v u Q I rx ry h
  obtain ⟨g, c, p, q, z, hr, cx, cy, e, fin⟩ := h
  by_cases hz : isLst z = true
  · exact op_binO o pins s σ H x y v u Q I rx ry ⟨g, c, p, q, z, hr, cx, cy, e, hz, fin.own⟩
  unfold binop at e
  split at e <;> first | (cases e; done) | skip
  · cases e
    exact op_add pins s σ H x y v u Q I rx ry ⟨_, _, cx.int, cy.int, fin.here hr (.int _)⟩
  · unfold mkStr at e
    split at e <;> cases e
    rename_i hl
    refine op_add_str pins s σ H x y v u Q I rx ry ⟨_, _, cx.str, cy.str, ?_, fin.here hr (.str _)⟩
    rw [lim_eq, ← Str.length_append]; exact hl
  · rename_i xs ys
    unfold mkTup at e
    split at e <;> cases e
    rename_i hl
    obtain ⟨a, vs, rfl, ea, ra⟩ := cx.tup hr
    obtain ⟨b, ws, rfl, eb, rb⟩ := cy.tup hr
    have hv := ra.length
    have hw := rb.length
    refine op_catA pins s σ H _ _ v u Q I rx ry ⟨a, b, vs, ws, rfl, rfl, ea, eb, ?_, fun h0 => ?_, fun _ h0 => ?_, fun _ _ => fin.newT hr (ra.append rb)⟩
    · rw [lim_eq, hv, hw]
      simpa using hl
    · subst h0
      cases ra
      rcases cy with cy | ⟨_, _, z⟩
      · exact fin.here hr cy
      · exact z.elim
    · subst h0
      cases rb
      rcases cx with cx | ⟨_, _, z⟩
      · exact fin.here hr (by rw [List.append_nil]; exact cx)
      · exact z.elim
  · unfold mkLst at e; split at e <;> cases e; exact absurd rfl hz
  · cases e
    exact op_sub pins s σ H x y v u Q I rx ry ⟨_, _, cx.int, cy.int, fin.here hr (.int _)⟩
  · rename_i i j
    split at e <;> cases e
    rename_i hs
    refine op_mul pins s σ H x y v u Q I rx ry ⟨_, _, cx.int, cy.int, ?_, fin.here hr (.int _)⟩
    unfold smallI at hs
    rw [Bool.or_eq_true] at hs
    exact hs.imp (fun z => of_decide_eq_true z) fun z => of_decide_eq_true z
  · rename_i xs n
    split at e <;> cases e
    rename_i hc
    obtain ⟨h1, h2, h3⟩ := hc
    by_cases h4 : 2 ≤ n ∧ 0 < xs.length
    · obtain ⟨a, vs, rfl, ea, ra⟩ := cx.tup hr
      have hv := ra.length
      refine op_repT pins s σ H _ _ v u Q I rx ry ⟨a, n, vs, rfl, cy.int, ea, ?_, h4.1, h2, by omega, fin.newT hr (ra.rep n.toNat)⟩
      rintro rfl
      rw [← hv] at h4; exact absurd h4.2 (Nat.lt_irrefl 0)
    · have hcx := cx
      obtain ⟨a, vs, rfl, ea, ra⟩ := cx.tup hr
      have hv := ra.length
      refine op_repS pins s σ H _ _ v u Q I rx ry ⟨a, n, vs, rfl, cy.int, ea, h1, h2, fun h => ?_, fun h => ?_⟩
      · have e : reps xs n.toNat = xs := by
          rcases h with rfl | rfl
          · have : xs = [] := List.eq_nil_of_length_eq_zero (by rw [← hv]; rfl)
            subst this
            exact reps_nil _
          · exact reps_one _
        rw [e] at fin
        rcases hcx with hcx | ⟨_, _, z⟩
        · exact fin.here hr hcx
        · exact z.elim
      · have h0 : n = 0 := by
          have : ¬ vs = [] := fun e => h (.inl e)
          have : 0 < vs.length := List.length_pos_iff.mpr this
          have : ¬ n = 1 := fun e => h (.inr e)
          omega
        subst h0
        exact ⟨rfl, fin.newT (vs := []) hr .nil⟩
  · split at e <;> cases e; exact absurd rfl hz
  · split at e
    · cases e
      rename_i hs
      exact op_fdiv pins s σ H x y v u Q I rx ry ⟨_, _, cx.int, cy.int, hs, fin.here hr (.int _)⟩
    · split at e <;> cases e
      rename_i hs
      exact op_fdivW pins s σ H x y v u Q I rx ry ⟨_, _, cx.int, cy.int, wide_div hs.1 hs.2 (by decide) (by decide), fin.here hr (.int _)⟩
  · split at e <;> cases e
    rename_i hs
    exact op_mod pins s σ H x y v u Q I rx ry ⟨_, _, cx.int, cy.int, hs, fin.here hr (.int _)⟩
  · split at e <;> cases e
    rename_i hs
    exact op_pow pins s σ H x y v u Q I rx ry ⟨_, _, cx.int, cy.int, hs, fin.here hr (.int _)⟩

/-! ### truth -/
theorem tru_pv {T : Wd} {g : Gh} {H : Hp} {c : List PV} {v : V} {p : PV} {b : Bool} (hr : HR T g c H) (x : Ct T g H v p) (e : truth p = some b) : TruV T.K v H b := by
  cases p with
  | non => rw [x.non]; cases e; rfl
  | bl _ => rw [x.bl]; cases e; rfl
  | int _ => rw [x.int]; cases e; rfl
  | str s =>
    rw [x.str]
    rw [truth] at e
    split at e <;> cases e
    rename_i hl
    exact ⟨by rw [lim_eq]; exact hl, rfl⟩
  | tup ps =>
    obtain ⟨a, vs, rfl, ea, ra⟩ := x.tup hr
    cases e
    refine .inr (.inl ⟨vs, ea, ?_⟩)
    cases ra <;> rfl
  | lst ps =>
    obtain ⟨a, vs, rfl, ea, ra⟩ := x.lst hr
    cases e
    refine .inl ⟨vs, SqL.of ea, ?_⟩
    cases ra <;> rfl
  | dic _ => cases e
  | dki _ _ => cases e
  | cup => cases e
  | scr _ => cases e
  | rg _ _ => cases e
  | fnv _ => cases e
end
end PP

set_option Elab.async false
set_option linter.all false
set_option maxRecDepth 100000
/-! PP3b: a > b of tuples of whole numbers. -/
namespace PP
open PySem PySem.Spec PyProof.Rows L2
mutual
theorem eqv_symm : ∀ x y : PyData, onlyI x = true → onlyI y = true → PyData.eqv x y = PyData.eqv y x
  | .int i, .int j, _, _ => by
    rw [PyData.eqv, PyData.eqv, Bool.eq_iff_iff, beq_iff_eq, beq_iff_eq]
    exact eq_comm
  | .int i, .tuple ys, _, _ => by simp [PyData.eqv]
  | .tuple xs, .int j, _, _ => by simp [PyData.eqv]
  | .tuple xs, .tuple ys, h1, h2 => by
    rw [onlyI] at h1 h2
    rw [PyData.eqv, PyData.eqv, eqv_symms xs ys h1 h2]
  | .none, _, h, _ => by simp [onlyI] at h
  | .bool _, _, h, _ => by simp [onlyI] at h
  | .str _, _, h, _ => by simp [onlyI] at h
  | .list _, _, h, _ => by simp [onlyI] at h
  | .int _, .none, _, h => by simp [onlyI] at h
  | .int _, .bool _, _, h => by simp [onlyI] at h
  | .int _, .str _, _, h => by simp [onlyI] at h
  | .int _, .list _, _, h => by simp [onlyI] at h
  | .tuple _, .none, _, h => by simp [onlyI] at h
  | .tuple _, .bool _, _, h => by simp [onlyI] at h
  | .tuple _, .str _, _, h => by simp [onlyI] at h
  | .tuple _, .list _, _, h => by simp [onlyI] at h
theorem eqv_symms : ∀ xs ys : List PyData, onlyIs xs = true → onlyIs ys = true → PyData.eqvAll xs ys = PyData.eqvAll ys xs
  | [], [], _, _ => rfl
  | [], _ :: _, _, _ => by simp [PyData.eqvAll]
  | _ :: _, [], _, _ => by simp [PyData.eqvAll]
  | x :: xs, y :: ys, h1, h2 => by
    rw [onlyIs, Bool.and_eq_true] at h1 h2
    rw [PyData.eqvAll, PyData.eqvAll, eqv_symm x y h1.1 h2.1, eqv_symms xs ys h1.2 h2.2]
end
mutual
theorem alike_symm : ∀ x y : PyData, onlyI x = true → onlyI y = true → W.alike x y = true → W.alike y x = true
  | .int i, .int j, _, _, _ => by simp [W.alike]
  | .int i, .tuple ys, _, _, h => by simp [W.alike] at h
  | .tuple xs, .int j, _, _, h => by simp [W.alike] at h
  | .tuple xs, .tuple ys, h1, h2, h => by
    rw [onlyI] at h1 h2
    rw [W.alike] at h ⊢
    exact alike_symms xs ys h1 h2 h
  | .none, _, h, _, _ => by simp [onlyI] at h
  | .bool _, _, h, _, _ => by simp [onlyI] at h
  | .str _, _, h, _, _ => by simp [onlyI] at h
  | .list _, _, h, _, _ => by simp [onlyI] at h
  | .int _, .none, _, h, _ => by simp [onlyI] at h
  | .int _, .bool _, _, h, _ => by simp [onlyI] at h
  | .int _, .str _, _, h, _ => by simp [onlyI] at h
  | .int _, .list _, _, h, _ => by simp [onlyI] at h
  | .tuple _, .none, _, h, _ => by simp [onlyI] at h
  | .tuple _, .bool _, _, h, _ => by simp [onlyI] at h
  | .tuple _, .str _, _, h, _ => by simp [onlyI] at h
  | .tuple _, .list _, _, h, _ => by simp [onlyI] at h
theorem alike_symms : ∀ xs ys : List PyData, onlyIs xs = true → onlyIs ys = true → W.alikeAll xs ys = true → W.alikeAll ys xs = true
  | [], [], _, _, _ => by simp [W.alikeAll]
  | [], _ :: _, _, _, _ => by simp [W.alikeAll]
  | _ :: _, [], _, _, _ => by simp [W.alikeAll]
  | x :: xs, y :: ys, h1, h2, h => by
    rw [onlyIs, Bool.and_eq_true] at h1 h2
    rw [W.alikeAll, Bool.and_eq_true] at h ⊢
    exact ⟨alike_symm x y h1.1 h2.1 h.1, alike_symms xs ys h1.2 h2.2 h.2⟩
end
def RcGt (A : Around) (s : Shared) (y x : Value) (k : Bool) : Prop := ∀ (prog : Program) (w : World) (E Q : Value → Shared → Prop), Q (.bool k) s → wpAny (model prog w) A (richCompare .Gt y x) Q E s
section
variable {prog : Program} {w : World} {A : Around} {E : Value → Shared → Prop} {s : Shared}
theorem zip_at {α β : Type} {xs : List α} {ys : List β} {j : Nat} (h : j < min xs.length ys.length) : (xs.zip ys).drop j = (xs[j]'(by omega), ys[j]'(by omega)) :: (xs.zip ys).drop (j + 1) := by
  rw [List.drop_eq_getElem_cons (by rw [List.length_zip]; exact h), List.getElem_zip]
theorem tuple_gtAt (l b : Addr) (items items2 : Array Value) (n n2 : Nat) (d1 d2 : Option Addr) (s1 s2 : Array (Option Value)) (e r : Nat → Bool) :
    Meets (Builtin.«tuple.__gt__» { pos := [.ref l, .ref b] }) fun A R s =>
      s.heap.get? l = some { cls := .type "tuple", dict := d1, data := .seq items n, slots := s1 } ∧ s.heap.get? b = some { cls := .type "tuple", dict := d2, data := .seq items2 n2, slots := s2 } ∧
      (∀ j (h1 : j < items.toList.length) (h2 : j < items2.toList.length), SeqAt.EqAt A.in1 s items.toList[j] items2.toList[j] (e j)) ∧ (∀ j (h1 : j < items.toList.length) (h2 : j < items2.toList.length), e j = false → RcGt A.in1 s items.toList[j] items2.toList[j] (r j)) ∧
      R (.ok (.ret (.bool (SeqAt.firstLt e r (decide (items2.size < items.size)) (List.range (min items.toList.length items2.toList.length)))))) s :=
  Meets.of_wp fun prog w A R s ⟨hl, hb, he, hr, h⟩ => by
    have f2 := AutoSeq1.sub_tuple_tuple
    refine wpAny_bind ?_
    wp_walk
    refine wpAny_forIn_list _ (fun rest b s' => b.1 = none ∧ s' = s ∧ ∃ j, rest = (items.toList.zip items2.toList).drop j ∧ R (.ok (.ret (.bool (SeqAt.firstLt e r (decide (items2.size < items.size)) ((List.range (min items.toList.length items2.toList.length)).drop j))))) s) _ ?_ ?_ _ _ ⟨rfl, rfl, 0, rfl, h⟩
    · rintro ⟨x, y⟩ rest ⟨b0, u⟩ s' ⟨h0, rfl, j, hj, h⟩
      simp only at h0
      subst h0
      have hjl : j < min items.toList.length items2.toList.length := by
        rcases Nat.lt_or_ge j (min items.toList.length items2.toList.length) with z | z
        · exact z
        · rw [List.drop_eq_nil_of_le (by rw [List.length_zip]; exact z)] at hj
          cases hj
      rw [zip_at hjl, List.cons.injEq, Prod.mk.injEq] at hj
      obtain ⟨⟨rfl, rfl⟩, rfl⟩ := hj
      have hd : (List.range (min items.toList.length items2.toList.length)).drop j = j :: (List.range (min items.toList.length items2.toList.length)).drop (j + 1) := by
        rw [List.drop_eq_getElem_cons (by rw [List.length_range]; exact hjl), List.getElem_range]
      rw [hd, SeqAt.firstLt] at h
      refine wpAny_bind (he j (by omega) (by omega) prog w _ _ ?_)
      cases ej : e j with
      | true =>
        rw [ej, if_pos rfl] at h
        exact wpAny_pure ⟨rfl, rfl, j + 1, rfl, h⟩
      | false =>
        rw [ej, if_neg Bool.false_ne_true] at h
        show wpAny _ _ (rule "tuple.compare.by-the-first-pair-that-differs" >>= fun _ => richCompare CmpOp.Gt _ _ >>= fun v => ret v >>= fun d => pure (ForInStep.done (some d, ()))) _ _ _
        refine wpAny_bind (wpAny_rule ?_)
        refine wpAny_bind (hr j (by omega) (by omega) ej prog w _ _ ?_)
        exact wpAny_bind (wpAny_pure (wpAny_pure (wpAny_pure ⟨_, rfl, h⟩)))
    · rintro ⟨b0, u⟩ s' ⟨h0, rfl, j, hj, h⟩
      simp only at h0
      subst h0
      have hj2 : min items.toList.length items2.toList.length ≤ j := by
        have := List.drop_eq_nil_iff.mp hj.symm
        rw [List.length_zip] at this
        exact this
      rw [List.drop_eq_nil_of_le (by rw [List.length_range]; exact hj2), SeqAt.firstLt] at h
      exact wpAny_pure ⟨_, rfl, h⟩
/-- u > v of tuples' references, by what tuple.__gt__ answers -/
theorem rc_gt_ref {l b : Addr} {Q : Value → Shared → Prop} {k : Bool} (tl : s.TypeIs (.ref l) "tuple") (tb : s.TypeIs (.ref b) "tuple") (hu : A.units < cLine)
    (h : wpAny (model prog w) A (call (.builtin "tuple.__gt__") [.ref l, .ref b]) (fun v s' => v = .bool k ∧ Q (.bool k) s') E s) : wpAny (model prog w) A (richCompare .Gt (.ref l) (.ref b)) Q E s := by
  unfold richCompare
  refine wpAny_holding ?_
  refine wpAny_bind (wpAny_cRoomFor hu ?_)
  generalize tc : tryCompare = TC
  wp_walk
  subst tc
  unfold tryCompare
  refine wpAny_bind (wpAny_callSpecialIfBound?_slot tl PySem.F.slot_tuple_gt ?_)
  refine wpAny_mono h (fun v s' hv => ?_) (fun _ _ e => e)
  obtain ⟨rfl, hq⟩ := hv
  exact wpAny_pure (wpAny_pure hq)
end
theorem firstLt_congr {e e' r : Nat → Bool} {fin : Bool} : ∀ {l : List Nat}, (∀ j ∈ l, e j = e' j) → SeqAt.firstLt e r fin l = SeqAt.firstLt e' r fin l
  | [], _ => by rw [SeqAt.firstLt, SeqAt.firstLt]
  | j :: l, h => by
    rw [SeqAt.firstLt, SeqAt.firstLt, h j List.mem_cons_self, firstLt_congr fun i hi => h i (List.mem_cons_of_mem _ hi)]
theorem onlyIs_at : ∀ {xs : List PyData} {j : Nat}, onlyIs xs = true → j < xs.length → onlyI (xs.getD j .none) = true
  | x :: xs, 0, h, _ => by
    rw [onlyIs, Bool.and_eq_true] at h
    exact h.1
  | x :: xs, j + 1, h, hj => by
    rw [onlyIs, Bool.and_eq_true] at h
    rw [List.getD_cons_succ]
    exact onlyIs_at h.2 (by simpa using hj)
def RG (x y : PyData) : Prop := ∀ (A : Around) (s : Shared) (u v : Value) (as bs : List Addr), Reads s.heap u x as → Reads s.heap v y bs → onlyI x = true → onlyI y = true → W.alike x y = true → A.units + min x.depth y.depth < cLine → RcGt A s u v (W.dataLt y x)
def RGs (xs ys : List PyData) : Prop := ∀ (A : Around) (s : Shared) (vs ws : List Value) (as bs : List Addr), ReadsAll s.heap vs xs as → ReadsAll s.heap ws ys bs → onlyIs xs = true → onlyIs ys = true → W.alikeAll xs ys = true → A.units + min (PyData.depthAll xs) (PyData.depthAll ys) < cLine →
    ∀ (j : Nat) (h1 : j < vs.length) (h2 : j < ws.length), SeqAt.pairEq xs ys j = false → RcGt A s vs[j] ws[j] (W.dataLt (ys.getD j .none) (xs.getD j .none))
theorem rg_int (i j : Int) : RG (.int i) (.int j) := fun A s u v as bs ra rb _ _ _ _ => by
  cases ra
  cases rb
  intro prog w E Q h
  rw [W.dataLt_int] at h
  exact (gt_int h : wpAny (model prog w) A (compareOp CmpOp.Gt _ _) Q E s)
theorem rg_tup {xs ys : List PyData} (ih : RGs xs ys) : RG (.tuple xs) (.tuple ys) := fun A s u v as bs ra rb o1 o2 hal hu => by
  rw [onlyI] at o1 o2
  have ha : W.alikeAll xs ys = true := by rwa [W.alike] at hal
  cases ra with
  | @tuple l o vs n _ as₁ h1 h2 h3 h4 =>
    cases rb with
    | @tuple l' o' vs' n' _ bs₁ k1 k2 k3 k4 =>
      have n1 : vs.toList.length = xs.length := SeqAt.ReadsAll.length _ _ _ h4
      have n2 : vs'.toList.length = ys.length := SeqAt.ReadsAll.length _ _ _ k4
      intro prog w E Q h
      obtain ⟨cls, dd, data, sl⟩ := o
      obtain ⟨cls', dd', data', sl'⟩ := o'
      simp only at h2 h3 k2 k3
      subst h2 h3 k2 k3
      refine rc_gt_ref (k := W.dataLt (.tuple ys) (.tuple xs)) ⟨_, h1, rfl⟩ ⟨_, k1, rfl⟩ (SeqAt.room_here hu) (call_meets PySem.F.slot_tuple_gt ⟨_, h1, rfl⟩ PySem.F.entry_tuple_gt (PySem.F.args_tuple_gt_2 _ _) (tuple_gtAt l l' vs vs' n n' dd dd' sl sl' (SeqAt.pairEq xs ys) (fun j => W.dataLt (ys.getD j .none) (xs.getD j .none))) ⟨h1, k1, ?_, ?_, ?_⟩)
      · exact W.eqAt_alikeAll xs ys A.in1 s vs.toList vs'.toList _ _ h4 k4 ha (SeqAt.room_in hu)
      · exact ih A.in1 s vs.toList vs'.toList _ _ h4 k4 o1 o2 ha (SeqAt.room_in hu)
      · have e : SeqAt.firstLt (SeqAt.pairEq xs ys) (fun j => W.dataLt (ys.getD j .none) (xs.getD j .none)) (decide (vs'.size < vs.size)) (List.range (min vs.toList.length vs'.toList.length)) = W.dataLt (.tuple ys) (.tuple xs) := by
          rw [W.dataLt_tuple, ← W.firstLt_toks ys xs (alike_symms xs ys o1 o2 ha), n1, n2, Nat.min_comm]
          have e1 : decide (vs'.size < vs.size) = decide (ys.length < xs.length) := by
            rw [← n1, ← n2]; simp
          rw [e1]
          refine firstLt_congr fun j hj => ?_
          have := List.mem_range.mp hj
          exact eqv_symm _ _ (onlyIs_at o1 (by omega)) (onlyIs_at o2 (by omega))
        show _ = _ ∧ _
        rw [e]
        exact ⟨rfl, h⟩
theorem rg_cons {x y : PyData} {xs ys : List PyData} (ih : RG x y) (ihs : RGs xs ys) : RGs (x :: xs) (y :: ys) := fun A s vs ws as bs ra rb o1 o2 ha hu j h1 h2 hj => by
  rw [onlyIs, Bool.and_eq_true] at o1 o2
  rw [W.alikeAll, Bool.and_eq_true] at ha
  rw [PyData.depthAll, PyData.depthAll] at hu
  cases ra with
  | cons r1 t1 =>
    cases rb with
    | cons r2 t2 =>
      cases j with
      | zero => exact ih A s _ _ _ _ r1 r2 o1.1 o2.1 ha.1 (by omega)
      | succ j =>
        have q := ihs A s _ _ _ _ t1 t2 o1.2 o2.2 ha.2 (by omega) j (by simpa using h1) (by simpa using h2) (by simpa [SeqAt.pairEq] using hj)
        simpa using q
theorem rg_nil {ys : List PyData} : RGs [] ys := fun A s vs ws as bs ra _ _ _ _ _ j h1 => by
  cases ra
  simp at h1
theorem rg_nil2 {xs : List PyData} : RGs xs [] := fun A s vs ws as bs _ rb _ _ _ _ j _ h2 => by
  cases rb
  simp at h2
mutual
theorem rcGt : ∀ x y : PyData, RG x y
  | .int i, y => by
    cases y with
    | int j => exact rg_int i j
    | tuple ys => exact fun A s u v as bs _ _ _ _ h _ => by simp [W.alike] at h
    | _ => exact fun A s u v as bs _ _ _ h _ _ => by simp [onlyI] at h
  | .tuple xs, .tuple ys => rg_tup (rcGtAll xs ys)
  | .tuple _, .int _ => fun A s u v as bs _ _ _ _ h _ => by simp [W.alike] at h
  | .tuple _, .none => fun A s u v as bs _ _ _ h _ _ => by simp [onlyI] at h
  | .tuple _, .bool _ => fun A s u v as bs _ _ _ h _ _ => by simp [onlyI] at h
  | .tuple _, .str _ => fun A s u v as bs _ _ _ h _ _ => by simp [onlyI] at h
  | .tuple _, .list _ => fun A s u v as bs _ _ _ h _ _ => by simp [onlyI] at h
  | .tuple _, .dict _ => fun A s u v as bs _ _ _ h _ _ => by simp [onlyI] at h
  | .dict _, _ => fun A s u v as bs _ _ h _ _ _ => by simp [onlyI] at h
  | .none, _ => fun A s u v as bs _ _ h _ _ _ => by simp [onlyI] at h
  | .bool _, _ => fun A s u v as bs _ _ h _ _ _ => by simp [onlyI] at h
  | .str _, _ => fun A s u v as bs _ _ h _ _ _ => by simp [onlyI] at h
  | .list _, _ => fun A s u v as bs _ _ h _ _ _ => by simp [onlyI] at h
theorem rcGtAll : ∀ xs ys : List PyData, RGs xs ys
  | [], _ => rg_nil
  | _ :: _, [] => rg_nil2
  | x :: xs, y :: ys => rg_cons (rcGt x y) (rcGtAll xs ys)
end
end PP

set_option Elab.async false
set_option linter.all false
set_option maxRecDepth 100000
/-! PP4: keys of dicts, comparisons, subscripts. -/
namespace PP
open PySem PySem.Spec PyProof.Rows L2

/-! ### keys -/
theorem nks_map : ∀ xs : List PV, nks xs = xs.map nk
  | [] => by simp [nks]
  | x :: r => by simp [nks, nks_map r]
mutual
theorem peq_nk : ∀ (p q : PV) (n m : Nat), keyd n p = true → keyd m q = true → peq p q = NestedKey.beq (nk p) (nk q)
  | .non, q, n, m, _, h => by
    cases q <;> first | (simp [peq, nk, NestedKey.beq]; done) | (cases m <;> simp [keyd] at h)
  | .bl a, q, n, m, _, h => by
    cases q with
    | bl b => cases a <;> cases b <;> simp [peq, nk, NestedKey.beq]
    | int j => cases a <;> simp [peq, nk, NestedKey.beq, Bool.beq_eq_decide_eq]
    | _ => first | (simp [peq, nk, NestedKey.beq]; done) | (cases m <;> simp [keyd] at h)
  | .int i, q, n, m, _, h => by
    cases q with
    | bl b => cases b <;> simp [peq, nk, NestedKey.beq, Bool.beq_eq_decide_eq]
    | int j => simp [peq, nk, NestedKey.beq, Bool.beq_eq_decide_eq]
    | _ => first | (simp [peq, nk, NestedKey.beq]; done) | (cases m <;> simp [keyd] at h)
  | .str _, q, n, m, _, h => by
    cases q with
    | str y => simp [peq, nk, NestedKey.beq, Bool.beq_eq_decide_eq]
    | _ => first | (simp [peq, nk, NestedKey.beq]; done) | (cases m <;> simp [keyd] at h)
  | .tup xs, q, n, m, h0, h => by
    cases q with
    | tup ys =>
      cases n with
      | zero => simp [keyd] at h0
      | succ n =>
        cases m with
        | zero => simp [keyd] at h
        | succ m =>
          rw [keyd] at h0 h
          rw [nk, nk, NestedKey.beq, peq]
          exact peqL_nk xs ys n m h0 h
    | _ => first | (simp [peq, nk, NestedKey.beq]; done) | (cases m <;> simp [keyd] at h)
  | .lst _, _, n, _, h, _ => by cases n <;> simp [keyd] at h
  | .dic _, _, n, _, h, _ => by cases n <;> simp [keyd] at h
  | .dki _ _, _, n, _, h, _ => by cases n <;> simp [keyd] at h
  | .cup, _, n, _, h, _ => by cases n <;> simp [keyd] at h
  | .scr _, _, n, _, h, _ => by cases n <;> simp [keyd] at h
  | .rg _ _, _, n, _, h, _ => by cases n <;> simp [keyd] at h
  | .fnv _, _, n, _, h, _ => by cases n <;> simp [keyd] at h
theorem peqL_nk : ∀ (xs ys : List PV) (n m : Nat), xs.all (keyd n) = true → ys.all (keyd m) = true → peqL xs ys = NestedKey.beqAll (nks xs) (nks ys)
  | [], [], _, _, _, _ => by simp [nks, NestedKey.beqAll, peqL]
  | [], _ :: _, _, _, _, _ => by simp [nks, NestedKey.beqAll, peqL]
  | _ :: _, [], _, _, _, _ => by simp [nks, NestedKey.beqAll, peqL]
  | x :: xs, y :: ys, n, m, h0, h => by
    rw [List.all_cons, Bool.and_eq_true] at h0 h
    rw [nks, nks, NestedKey.beqAll, peqL, peq_nk x y n m h0.1 h.1, peqL_nk xs ys n m h0.2 h.2]
end
theorem isKey_d {k : PV} (h : isKey k = true) : keyd 8 k = true := by
  cases k <;> simp [isKey] at h ⊢
  exact h
theorem key_eq {p q : PV} (hp : isKey p = true) (hq : isKey q = true) : peq p q = decide (nk p = nk q) := by
  rw [NestedKey.decide_eq]
  exact peq_nk p q 8 8 (isKey_d hp) (isKey_d hq)
section
variable {X : Cx} {pins : List (Addr × Obj)} {σ : L2.St} {H : Hp} {s : Shared} {g : Gh} {c : List PV}
mutual
theorem Rp.nested (I : Inv X pins σ H s) (hr : HR (wd X) g c H) : ∀ {v : V} {p : PV} {u : Value} (n : Nat), keyd n p = true → Rp (wd X) g v p → RelV v u → NestedIs s.heap (nk p) u ∧ (nk p).depth ≤ n
  | _, _, _, _, _, .non, r => by cases r; rw [nk]; exact ⟨.none, by simp [NestedKey.depth]⟩
  | _, _, _, _, _, .bl b, r => by cases r; rw [nk]; exact ⟨.bool rfl, by simp [NestedKey.depth]⟩
  | _, _, _, _, _, .int i, r => by obtain ⟨t, rfl⟩ := r; rw [nk]; exact ⟨.int i t, by simp [NestedKey.depth]⟩
  | _, _, _, _, _, .str x, r => by obtain ⟨t, rfl⟩ := r; rw [nk]; exact ⟨.text x t, by simp [NestedKey.depth]⟩
  | _, _, _, 0, h, .tup _ _, _ => by simp [keyd] at h
  | _, _, _, n + 1, h, .tup e rl, r => by
    cases r
    rw [keyd] at h
    obtain ⟨its, rv, ⟨o, ho, hc, m, hd⟩, _⟩ := I.tuple (hr.sqT e)
    obtain ⟨h1, h2⟩ := RpL.nested I hr n h rl rv
    rw [nk, NestedKey.depth]
    exact ⟨.tup ho hc hd (by simpa using h1), by omega⟩
  | _, _, _, n, h, .lst _ _, _ => by cases n <;> simp [keyd] at h
  | _, _, _, n, h, .dic _ _ _ _ _ _ _, _ => by cases n <;> simp [keyd] at h
  | _, _, _, n, h, .dki _ _ _, _ => by cases n <;> simp [keyd] at h
  | _, _, _, n, h, .cup _, _ => by cases n <;> simp [keyd] at h
  | _, _, _, n, h, .scr _, _ => by cases n <;> simp [keyd] at h
  | _, _, _, n, h, .rg _, _ => by cases n <;> simp [keyd] at h
  | _, _, _, n, h, .fnv _, _ => by cases n <;> simp [keyd] at h
theorem RpL.nested (I : Inv X pins σ H s) (hr : HR (wd X) g c H) : ∀ {vs : List V} {ps : List PV} {us : List Value} (n : Nat), ps.all (keyd n) = true → RpL (wd X) g vs ps → Vals vs us → NestedAll s.heap (nks ps) us ∧ NestedKey.depthAll (nks ps) ≤ n
  | _, _, _, _, _, .nil, r => by cases r; rw [nks]; exact ⟨.nil, by simp [NestedKey.depthAll]⟩
  | _, _, _, n, h, .cons r1 t1, r => by
    cases r with
    | cons r2 t2 =>
      rw [List.all_cons, Bool.and_eq_true] at h
      obtain ⟨a1, a2⟩ := Rp.nested I hr n h.1 r1 r2
      obtain ⟨b1, b2⟩ := RpL.nested I hr n h.2 t1 t2
      rw [nks, NestedKey.depthAll]
      exact ⟨.cons a1 b1, by omega⟩
end
/-- a key's tuple -/
theorem Rp.key (I : Inv X pins σ H s) (hr : HR (wd X) g c H) {v : V} {p : PV} {u : Value} (h : isKey p = true) (r : Rp (wd X) g v p) (rv : RelV v u) : ∃ a, v = .ref a ∧ u = .ref a ∧ (nestedKind X.prog X.w).is s.heap (nk p) a := by
  cases p with
  | tup xs =>
    cases r with
    | tup e rl =>
      obtain ⟨h1, h2⟩ := Rp.nested I hr 8 (isKey_d h) (.tup e rl) rv
      cases rv
      exact ⟨_, rfl, rfl, h1, h2⟩
  | _ => simp [isKey] at h
/-- the entries of a dict -/
theorem RpD.entries (I : Inv X pins σ H s) (hr : HR (wd X) g c H) : ∀ {es : List DictEntry} {kvs : List (PV × PV)}, RpD (wd X) g es kvs →
    ∃ xs : List (NestedKey × Addr × Value), es = xs.map (entryOfKey (nestedKind X.prog X.w)) ∧ (∀ x ∈ xs, (nestedKind X.prog X.w).is s.heap x.1 x.2.1) ∧ xs.map (·.1) = kvs.map (fun p => nk p.1) ∧
      (∀ k, isKey k = true → match dget kvs k with
        | some v => ∃ u vv, valueAt (pairsH xs) (nk k) = some u ∧ RelV vv u ∧ Rp (wd X) g vv v
        | none => valueAt (pairsH xs) (nk k) = none)
  | _, _, .nil => ⟨[], rfl, (fun x h => nomatch h), rfl, fun k _ => by simp [dget, pairsH, valueAt]⟩
  | _, _, .cons (en := en) (k := k0) (v := v0) (ka := ka) hk ek rk eh rv rp t => by
    obtain ⟨xs, e1, e2, e3, e4⟩ := RpD.entries I hr t
    obtain ⟨a, ea, _, hi⟩ := rk.key I hr (u := .ref ka) hk rfl
    cases ea
    refine ⟨(nk k0, ka, en.val) :: xs, ?_, fun x hx => ?_, ?_, fun k hkk => ?_⟩
    · rw [List.map_cons, ← e1]
      congr 1
      obtain ⟨h1, h2, h3⟩ := en
      simp only at ek eh
      subst ek eh
      rfl
    · rcases List.mem_cons.mp hx with rfl | hx
      · exact hi
      · exact e2 x hx
    · rw [List.map_cons, List.map_cons, e3]
    · have q := key_eq hk hkk
      rw [dget]
      by_cases hh : nk k0 = nk k
      · rw [q, decide_eq_true hh, if_pos rfl]
        exact ⟨en.val, _, by simp [pairsH, valueAt, hh], rv, rp⟩
      · rw [q, decide_eq_false hh, if_neg Bool.false_ne_true]
        have hv : valueAt (pairsH ((nk k0, ka, en.val) :: xs)) (nk k) = valueAt (pairsH xs) (nk k) := by simp [pairsH, valueAt, hh]
        rw [hv]
        exact e4 k hkk
theorem DicR.keyed (I : Inv X pins σ H s) (hr : HR (wd X) g c H) {a : Addr} {o : Obj} {kvs : List (PV × PV)} (e : H a = some (objO a o)) (d : DicR (wd X) g a o kvs) :
    ∃ xs : List (NestedKey × Addr × Value), s.heap.DictOfH (nestedKind X.prog X.w) a xs ∧ (∀ es ep, o.data = .dict es ep → es.toList = xs.map (entryOfKey (nestedKind X.prog X.w))) ∧ xs.length = kvs.length ∧ s.heap.get? a = some o ∧
      (∀ k, isKey k = true → match dget kvs k with
        | some v => ∃ u vv, valueAt (pairsH xs) (nk k) = some u ∧ RelV vv u ∧ Rp (wd X) g vv v
        | none => valueAt (pairsH xs) (nk k) = none) := by
  obtain ⟨es, ep, hd, r⟩ := d.at_
  obtain ⟨xs, e1, e2, e3, e4⟩ := r.entries I hr
  have ho : s.heap.get? a = some o := (I.hok a _ e).1
  have hl : xs.length = kvs.length := by
    have q := congrArg List.length e3
    simpa using q
  refine ⟨xs, ⟨o, es, ep, ho, d.ex, hd, e1, e2, ?_⟩, fun es' ep' hd' => ?_, hl, ho, e4⟩
  · rw [e3]; exact d.nd
  · rw [hd] at hd'; cases hd'; exact e1
end

/-! ### comparisons -/
def copOf : Cop → CmpOp
  | .eq => .Eq
  | .ne => .NotEq
  | .lt => .Lt
  | .le => .LtE
  | .gt => .Gt
  | .ge => .GtE
  | .is => .Is
  | .isn => .IsNot
  | .inn => .In
  | .nin => .NotIn
theorem eqv_any {xs : List PV} {x : PV} (h1 : xs.all (small 59) = true) (h2 : dat x = true) : ((toDs xs).any fun y => PyData.eqv y (toD x)) = xs.any fun y => peq y x := by
  rw [toDs_map, List.any_map]
  induction xs with
  | nil => rfl
  | cons y r ih =>
    rw [List.all_cons, Bool.and_eq_true] at h1
    rw [List.any_cons, List.any_cons, ih h1.2]
    congr 1
    exact peq_eqv y x 59 60 h1.1 h2
theorem lookK_val {T : Wd} {g : Gh} {i : Int} {z : PV} : ∀ {kvs : List (Key × V)} {ks : List Int} {ps : List PV}, kvs.map (·.1) = ks.map Sum.inl → RpL T g (kvs.map (·.2)) ps → lookK ks ps i = some z → ∃ w, valV kvs (.inl i) = some w ∧ Rp T g w z
  | [], [], _, _, _, e => by simp [lookK] at e
  | [], _ :: _, _, h, _, _ => by simp at h
  | _ :: _, [], _, h, _, _ => by simp at h
  | (k0, v0) :: kvs, k :: ks, ps, h, r, e => by
    rw [List.map_cons, List.map_cons, List.cons.injEq] at h
    obtain ⟨h1, h2⟩ := h
    simp only at h1
    subst h1
    rw [List.map_cons] at r
    cases r with
    | @cons _ p _ ps' rp t =>
      rw [lookK] at e
      by_cases hk : k = i
      · subst hk
        rw [if_pos rfl] at e
        cases e
        exact ⟨v0, by simp [valV], rp⟩
      · rw [if_neg hk] at e
        obtain ⟨w, e1, e2⟩ := lookK_val h2 t e
        refine ⟨w, ?_, e2⟩
        rw [← e1]
        simp [valV, hk]
theorem lookK_none {i : Int} : ∀ {kvs : List (Key × V)} {ks : List Int} {n : Nat} {ps : List PV}, kvs.map (·.1) = ks.map Sum.inl → ps.length = ks.length → lookK ks ps i = none → i ∉ ks ∧ valV kvs (.inl i) = none
  | [], [], _, _, _, _, _ => ⟨fun h => (by cases h), rfl⟩
  | [], _ :: _, _, _, h, _, _ => by simp at h
  | _ :: _, [], _, _, h, _, _ => by simp at h
  | (k0, v0) :: kvs, k :: ks, _, [], _, h, _ => by simp at h
  | (k0, v0) :: kvs, k :: ks, n, p :: ps, h, hl, e => by
    rw [List.map_cons, List.map_cons, List.cons.injEq] at h
    obtain ⟨h1, h2⟩ := h
    simp only at h1
    subst h1
    rw [lookK] at e
    by_cases hk : k = i
    · rw [if_pos hk] at e; cases e
    · rw [if_neg hk] at e
      obtain ⟨a1, a2⟩ := lookK_none (n := n) h2 (by simpa using hl) e
      refine ⟨fun z => (List.mem_cons.mp z).elim (fun z => hk z.symm) a1, ?_⟩
      rw [valV_neg (fun z => hk (Sum.inl.inj z)), a2]
section
variable {X : Cx}
theorem pin_run {x : V} {y : V} {v u : Value} {p q : PV} {b : Bool} {pins : List (Addr × Obj)} {s : Shared} {σ : L2.St} {H : Hp} {g : Gh} {c : List PV} (hu : X.A.units + 70 < cLine) (I : Inv X pins σ H s) (hr : HR (wd X) g c H) (rx : RelV x v) (ry : RelV y u) (cx : Ct (wd X) g H x p) (cy : Ct (wd X) g H y q)
    (e : pin p q = some b) (Q : VK) (E : Value → Shared → Prop) (neg : Bool) (fin : Q (.bl (if neg then !b else b)) H) :
    wpAny (model X.prog X.w) X.A (compareOp (if neg then .NotIn else .In) v u) (EP X pins σ Q) E s := by
  cases q with
  | tup ys =>
    rw [pin] at e
    split at e <;> cases e
    rename_i hd
    rw [Bool.and_eq_true] at hd
    have dx := cx.dp hr 60 hd.1
    have dy := cy.dp hr 60 hd.2
    obtain ⟨as, r1⟩ := Dp.reads I _ x v dx rx
    obtain ⟨bs, r2⟩ := Dp.reads I _ y u dy ry
    obtain ⟨sx1, sx2⟩ := small_shape 60 p hd.1
    obtain ⟨sy1, sy2⟩ := small_shape 60 _ hd.2
    rw [toD] at r2 sy1 sy2
    rw [PyData.canLay0] at sy1
    rw [PyData.depth] at sy2
    have ha := eqv_any (xs := ys) (x := p) (by simpa [dat, small] using hd.2) hd.1
    cases neg with
    | true => exact SeqAt.notIn_tuple_reads r2 r1 sy1 sx1 (by omega) ⟨.bl _, H, I, rfl, by rw [ha]; exact fin⟩
    | false => exact SeqAt.in_tuple_reads r2 r1 sy1 sx1 (by omega) ⟨.bl _, H, I, rfl, by rw [ha]; exact fin⟩
  | lst ys =>
    rw [pin] at e
    split at e <;> cases e
    rename_i hd
    rw [Bool.and_eq_true] at hd
    have dx := cx.dp hr 60 hd.1
    have dy := cy.dp hr 60 hd.2
    obtain ⟨as, r1⟩ := Dp.reads I _ x v dx rx
    obtain ⟨bs, r2⟩ := Dp.reads I _ y u dy ry
    obtain ⟨sx1, sx2⟩ := small_shape 60 p hd.1
    obtain ⟨sy1, sy2⟩ := small_shape 60 _ hd.2
    rw [toD] at r2 sy1 sy2
    rw [PyData.canLay0] at sy1
    rw [PyData.depth] at sy2
    have ha := eqv_any (xs := ys) (x := p) (by simpa [dat, small] using hd.2) hd.1
    cases neg with
    | true => exact SeqAt.notIn_list_reads r2 r1 sy1 sx1 (by omega) ⟨.bl _, H, I, rfl, by rw [ha]; exact fin⟩
    | false => exact SeqAt.in_list_reads r2 r1 sy1 sx1 (by omega) ⟨.bl _, H, I, rfl, by rw [ha]; exact fin⟩
  | dic kvs =>
    rw [pin] at e
    split at e <;> cases e
    rename_i hk
    obtain ⟨a, o, rfl, ea, d⟩ := cy.dic hr
    cases ry
    have cx' : Rp (wd X) g x p := by
      rcases cx with cx | ⟨z, rfl, w⟩
      · exact cx
      · cases p <;> first | (exact w.elim) | (simp [isKey] at hk)
    obtain ⟨ka, rfl, rfl, hi⟩ := cx'.key I hr hk rx
    obtain ⟨xs, hm, _, _, _, hv⟩ := d.keyed I hr ea
    have hv := hv p hk
    have hb : (valueAt (pairsH xs) (nk p)).isSome = (dget kvs p).isSome := by
      cases hg : dget kvs p with
      | some z =>
        rw [hg] at hv
        obtain ⟨w, _, e1, _⟩ := hv
        rw [e1] <;> rfl
      | none =>
        rw [hg] at hv
        rw [hv] <;> rfl
    have hroom : (nestedKind X.prog X.w).room X.A.in1 := by
      show X.A.units + 1 + 8 < cLine
      omega
    cases neg with
    | true => exact notIn_keyed (kvs := pairsH xs) hroom hi d.sm ⟨xs, hm, rfl⟩ ⟨.bl _, H, I.tok _, rfl, by rw [hb]; exact fin⟩
    | false => exact in_keyed (kvs := pairsH xs) hroom hi d.sm ⟨xs, hm, rfl⟩ ⟨.bl _, H, I.tok _, rfl, by rw [hb]; exact fin⟩
  | dki ks ps =>
    cases p with
    | int i =>
      rw [pin] at e
      cases e
      obtain ⟨a, kvs, rfl, ea, ek, ra⟩ := cy.dki hr
      cases ry
      have hx : x = .int i := cx.int
      subst hx
      have hg : DGet H a (.int i) (valV kvs (.inl i)) := .inl ⟨kvs, .inl i, .inl ea, rfl, rfl⟩
      have hl : ps.length = ks.length := by
        have e1 := congrArg List.length ek
        have e2 := ra.length
        rw [List.length_map, List.length_map] at e1
        rw [List.length_map] at e2
        omega
      have hb : (valV kvs (.inl i)).isSome = (lookK ks ps i).isSome := by
        cases hq : lookK ks ps i with
        | some z =>
          obtain ⟨w, e1, _⟩ := lookK_val ek ra hq
          rw [e1]; rfl
        | none => rw [(lookK_none (n := 0) ek hl hq).2]; rfl
      cases neg with
      | true => exact d_notIn (by omega) I hg rx fun s3 I3 => ⟨.bl _, H, I3, rfl, by rw [hb]; exact fin⟩
      | false => exact d_in (by omega) I hg rx fun s3 I3 => ⟨.bl _, H, I3, rfl, by rw [hb]; exact fin⟩
    | _ => cases e
  | _ => cases e
theorem op_cmp (hu : X.A.units + 70 < cLine) (o : Cop) : OpR X (compareOp (copOf o)) (rB (wd X) (cmpop o)) := by
  intro pins s σ H x y v u Q I rx ry h
  obtain ⟨g, c, p, q, z, hr, cx, cy, e, fin⟩ := h
  unfold cmpop at e
  split at e
  · split at e <;> cases e
    rename_i hd
    rw [Bool.and_eq_true] at hd
    refine op_eqD (by omega) pins s σ H x y v u Q I rx ry ⟨toD p, toD q, cx.dp hr 60 hd.1, cy.dp hr 60 hd.2, dat_shaped hd.1, dat_shaped hd.2, ?_⟩
    rw [peq_eqv p q 60 60 hd.1 hd.2]
    exact fin.here hr (.bl _)
  · split at e <;> cases e
    rename_i hd
    rw [Bool.and_eq_true] at hd
    refine op_neD (by omega) pins s σ H x y v u Q I rx ry ⟨toD p, toD q, cx.dp hr 60 hd.1, cy.dp hr 60 hd.2, dat_shaped hd.1, dat_shaped hd.2, ?_⟩
    rw [peq_eqv p q 60 60 hd.1 hd.2]
    exact fin.here hr (.bl _)
  · cases e
    exact op_lt pins s σ H x y v u Q I rx ry ⟨_, _, cx.int, cy.int, fin.here hr (.bl _)⟩
  · cases e
    exact op_le pins s σ H x y v u Q I rx ry ⟨_, _, cx.int, cy.int, fin.here hr (.bl _)⟩
  · cases e
    exact op_gt pins s σ H x y v u Q I rx ry ⟨_, _, cx.int, cy.int, fin.here hr (.bl _)⟩
  · cases e
    exact op_ge pins s σ H x y v u Q I rx ry ⟨_, _, cx.int, cy.int, fin.here hr (.bl _)⟩
  · rename_i xs ys
    obtain ⟨b, eb, rfl⟩ := Option.map_eq_some_iff.mp e
    unfold pcmp at eb
    split at eb <;> cases eb
    rename_i hd
    rw [Bool.and_eq_true, Bool.and_eq_true] at hd
    obtain ⟨as, r1⟩ := Dp.reads I _ x v (cx.dp hr 60 hd.1.1) rx
    obtain ⟨bs, r2⟩ := Dp.reads I _ y u (cy.dp hr 60 hd.1.2) ry
    have d1 := (small_shape 60 _ hd.1.1).2
    exact W.rcLt_alike _ _ X.A s v u as bs r1 r2 hd.2 (by rw [toD]; intro z; cases z) (by omega) _ _ _ _ ⟨.bl _, H, I, rfl, fin.here hr (.bl _)⟩
  · rename_i xs ys
    obtain ⟨b, eb, rfl⟩ := Option.map_eq_some_iff.mp e
    unfold pcmpG at eb
    split at eb <;> cases eb
    rename_i hd
    rw [Bool.and_eq_true, Bool.and_eq_true, Bool.and_eq_true, Bool.and_eq_true] at hd
    obtain ⟨as, r1⟩ := Dp.reads I _ x v (cx.dp hr 60 hd.1.1.1.1) rx
    obtain ⟨bs, r2⟩ := Dp.reads I _ y u (cy.dp hr 60 hd.1.1.1.2) ry
    have d1 := (small_shape 60 _ hd.1.1.1.1).2
    exact rcGt _ _ X.A s v u as bs r1 r2 hd.1.2 hd.2 hd.1.1.2 (by omega) _ _ _ _ ⟨.bl _, H, I, rfl, fin.here hr (.bl _)⟩
  · obtain ⟨b, eb, rfl⟩ := Option.map_eq_some_iff.mp e
    unfold pis at eb
    split at eb <;> first | (cases eb; done) | skip
    · cases eb
      exact op_isN pins s σ H x y v u Q I rx ry ⟨cy.non, by rw [cx.non]; exact fin.here hr (.bl _)⟩
    · cases eb
      rename_i hn
      refine op_isN pins s σ H x y v u Q I rx ry ⟨cy.non, ?_⟩
      have hx : x ≠ .non := by
        rintro rfl
        rcases cx with cx | ⟨_, z, _⟩
        · cases cx; exact hn rfl
        · cases z
      rw [decide_eq_false hx]; exact fin.here hr (.bl _)
    · cases eb
      exact op_is_bl pins s σ H x y v u Q I rx ry ⟨_, _, cx.bl, cy.bl, by rw [← Bool.beq_eq_decide_eq]; exact fin.here hr (.bl _)⟩
  · obtain ⟨b, eb, rfl⟩ := Option.map_eq_some_iff.mp e
    obtain ⟨b2, eb2, rfl⟩ := Option.map_eq_some_iff.mp eb
    unfold pis at eb2
    split at eb2 <;> first | (cases eb2; done) | skip
    · cases eb2
      exact op_notN pins s σ H x y v u Q I rx ry ⟨cy.non, by rw [cx.non]; exact fin.here hr (.bl _)⟩
    · cases eb2
      rename_i hn
      refine op_notN pins s σ H x y v u Q I rx ry ⟨cy.non, ?_⟩
      have hx : x ≠ .non := by
        rintro rfl
        rcases cx with cx | ⟨_, z, _⟩
        · cases cx; exact hn rfl
        · cases z
      rw [decide_eq_false hx]; exact fin.here hr (.bl _)
    · cases eb2
      exact op_isnot_bl pins s σ H x y v u Q I rx ry ⟨_, _, cx.bl, cy.bl, by rw [← Bool.beq_eq_decide_eq]; exact fin.here hr (.bl _)⟩
  · obtain ⟨b, eb, rfl⟩ := Option.map_eq_some_iff.mp e
    exact pin_run hu I hr rx ry cx cy eb Q X.xe false (fin.here hr (.bl _))
  · obtain ⟨b, eb, rfl⟩ := Option.map_eq_some_iff.mp e
    obtain ⟨b2, eb2, rfl⟩ := Option.map_eq_some_iff.mp eb
    exact pin_run hu I hr rx ry cx cy eb2 Q X.xe true (fin.here hr (.bl _))
  · cases e

/-! ### subscripts -/
theorem ixP_ixN (n : Nat) (i : Int) : ixP n i = ixN n i := rfl
theorem Rp.of_ct {T : Wd} {g : Gh} {H : Hp} {v : V} {p : PV} (h : isKey p = true) (x : Ct T g H v p) : Rp T g v p := by
  rcases x with x | ⟨z, rfl, w⟩
  · exact x
  · cases p <;> first | (exact w.elim) | (simp [isKey] at h)
theorem ix_pv (hu : X.A.units + 70 < cLine) : IxR X (fun x y H Q => ∃ g c p q z, HR (wd X) g c H ∧ Ct (wd X) g H x p ∧ Ct (wd X) g H y q ∧ item p q c = some z ∧ Fin (wd X) g H c Q z) := by
  intro value slice pins s σ H x y v u Q I rx ry h hs
  obtain ⟨g, c, p, q, z, hr, cx, cy, e, fin⟩ := h
  unfold item at e
  split at e
  · rename_i xs i
    obtain ⟨a, vs, rfl, ea, ra⟩ := cx.tup hr
    obtain ⟨j, ej, ez⟩ := Option.bind_eq_some_iff.mp e
    obtain ⟨w, ew, rw'⟩ := ra.get ez
    refine ix_tup value slice pins s σ H _ _ v u Q I rx ry ⟨a, vs, i, w, rfl, cy.int, ea, ?_, fin.here hr rw'⟩ hs
    unfold atI
    rw [ra.length, ← ixP_ixN, ej]; exact ew
  · rename_i xs i
    obtain ⟨a, vs, rfl, ea, ra⟩ := cx.lst hr
    obtain ⟨j, ej, ez⟩ := Option.bind_eq_some_iff.mp e
    obtain ⟨w, ew, rw'⟩ := ra.get ez
    refine ix_list value slice pins s σ H _ _ v u Q I rx ry ⟨a, vs, i, w, rfl, cy.int, SqL.of ea, ?_, fin.here hr rw'⟩ hs
    unfold atI
    rw [ra.length, ← ixP_ixN, ej]; exact ew
  · rename_i i
    obtain ⟨a, rfl, ec⟩ := cx.cup
    obtain ⟨_, _, vs, ea, ra⟩ := hr.cup1 a ec
    obtain ⟨j, ej, ez⟩ := Option.bind_eq_some_iff.mp e
    obtain ⟨w, ew, rw'⟩ := ra.get ez
    refine ix_list value slice pins s σ H _ _ v u Q I rx ry ⟨a, vs, i, w, rfl, cy.int, SqL.of ea, ?_, fin.here hr rw'⟩ hs
    unfold atI
    rw [ra.length, ← ixP_ixN, ej]; exact ew
  · rename_i z' i
    split at e <;> first | (cases e; done) | skip
    rename_i hl
    obtain ⟨j, ej, ez⟩ := Option.bind_eq_some_iff.mp e
    obtain ⟨d, ed, rfl⟩ := Option.map_eq_some_iff.mp ez
    refine ix_str value slice pins s σ H _ _ v u Q I rx ry ⟨z', i, d, cx.str, cy.int, by rw [lim_eq]; exact Nat.le_of_not_lt hl, ?_, fin.here hr (.str _)⟩ hs
    unfold atI
    rw [show z'.cps.toList.length = z'.length by simp [Str.length], ← ixP_ixN, ej]
    simpa using ed
  · split at e <;> first | (cases e; done) | skip
    rename_i kvs hk
    obtain ⟨a, o, rfl, ea, d⟩ := cx.dic hr
    cases rx
    obtain ⟨ka, rfl, rfl, hi⟩ := (Rp.of_ct hk cy).key I hr hk ry
    obtain ⟨xs, hm, _, _, _, hv⟩ := d.keyed I hr ea
    have hv := hv q hk
    rw [e] at hv
    obtain ⟨w, vv, e1, e2, e3⟩ := hv
    have hroom : (nestedKind X.prog X.w).room X.A.in1 := by
      show X.A.units + 1 + 8 < cLine
      omega
    exact tail_any hm.typeIs PySem.F.slot_dict_getitem.lookup (getItem_keyed (kvs := pairsH xs) hroom hi ⟨xs, hm, rfl⟩ e1 ⟨vv, H, I.tok _, e2, fin.here hr e3⟩) hs
  · rename_i ks ps i
    obtain ⟨a, kvs, rfl, ea, ek, ra⟩ := cx.dki hr
    cases rx
    obtain ⟨w, e1, e3⟩ := lookK_val ek ra e
    have hg : DGet H a (.int i) (some w) := .inl ⟨kvs, .inl i, .inl ea, rfl, e1.symm⟩
    have hy : y = .int i := cy.int
    subst hy
    exact tail_any (dict_typeIs I hg) PySem.F.slot_dict_getitem.lookup (d_getItem (by omega) I hg ry fun w' s3 I3 rw' => ⟨w, H, I3, rw', fin.here hr e3⟩) hs
  · cases e
theorem sIxP_eq (n d : Nat) (o : Option Int) : sIxP n d o = HT.sIx n d o := by
  cases o <;> rfl
theorem cut_eq {T : Wd} {g : Gh} {vs : List V} {ps : List PV} (r : RpL T g vs ps) (lo hi : Option Int) : RpL T g (cutV vs lo hi) (cutP ps lo hi) := by
  unfold cutV cutP
  rw [← sIxP_eq, ← sIxP_eq, r.length]
  exact (r.drop _).take _
theorem sl_pvO : SlR X (fun x lo hi H Q => ∃ g c p z, HR (wd X) g c H ∧ Ct (wd X) g H x p ∧ slice p lo hi = some z ∧ isLst z = true ∧ FinO (wd X) g H c Q z) := by
  intro pins s σ H x v vl vu lo hi sl Q I rx hs pl pu h
  obtain ⟨g, c, p, z, hr, cx, e, hz, fin⟩ := h
  unfold slice at e
  split at e
  · cases e; cases hz
  · cases e
    obtain ⟨a, vs, rfl, ea, ra⟩ := cx.lst hr
    exact sl_list pins s σ H _ v vl vu lo hi sl Q I rx hs pl pu ⟨a, vs, rfl, SqL.of ea, fin.newL hr (cut_eq ra lo hi)⟩
  · cases e
theorem sl_pv : SlR X (fun x lo hi H Q => ∃ g c p z, HR (wd X) g c H ∧ Ct (wd X) g H x p ∧ slice p lo hi = some z ∧ Fin (wd X) g H c Q z) := by
  intro pins s σ H x v vl vu lo hi sl Q I rx hs pl pu h
  obtain ⟨g, c, p, z, hr, cx, e, fin⟩ := h
  by_cases hz : isLst z = true
  · exact sl_pvO pins s σ H x v vl vu lo hi sl Q I rx hs pl pu ⟨g, c, p, z, hr, cx, e, hz, fin.own⟩
  unfold slice at e
  split at e
  · rename_i ps
    cases e
    obtain ⟨a, vs, rfl, ea, ra⟩ := cx.tup hr
    refine sl_tupA pins s σ H _ v vl vu lo hi sl Q I rx hs pl pu ⟨a, vs, rfl, ea, fun hw => ?_, fun _ => fin.newT hr (cut_eq ra lo hi)⟩
    rcases cx with cx | ⟨_, _, w⟩
    · refine fin.here hr ?_
      have : cutP ps lo hi = ps := by
        unfold cutP
        rw [sIxP_eq, sIxP_eq, ← ra.length, hw.1, hw.2, List.drop_zero, Nat.sub_zero, ra.length, List.take_length]
      rw [this]; exact cx
    · exact w.elim
  · cases e; exact absurd rfl hz
  · cases e
end
end PP

set_option Elab.async false
set_option linter.all false
set_option maxRecDepth 100000
/-! PP5: built-ins, methods. -/
namespace PP
open PySem PySem.Spec PyProof.Rows L2

/-! ### lists of values to be looked at -/
inductive CtL (T : Wd) (g : Gh) (H : Hp) : List V → List PV → Prop
  | nil : CtL T g H [] []
  | cons {v : V} {p : PV} {vs : List V} {ps : List PV} : Ct T g H v p → CtL T g H vs ps → CtL T g H (v :: vs) (p :: ps)
section
variable {T : Wd} {g : Gh} {H : Hp} {c : List PV}
theorem CtL.one {vs : List V} {p : PV} (x : CtL T g H vs [p]) : ∃ v, vs = [v] ∧ Ct T g H v p := by
  cases x with
  | cons a b => cases b; exact ⟨_, rfl, a⟩
theorem CtL.two {vs : List V} {p q : PV} (x : CtL T g H vs [p, q]) : ∃ v w, vs = [v, w] ∧ Ct T g H v p ∧ Ct T g H w q := by
  cases x with
  | cons a b =>
    obtain ⟨w, rfl, z⟩ := b.one
    exact ⟨_, _, rfl, a, z⟩
theorem RpL.ints_of : ∀ {vs : List V} {ps : List PV} {is : List Int}, RpL T g vs ps → asInts ps = some is → vs = is.map V.int
  | _, _, _, .nil, e => by cases e; rfl
  | _, _, _, .cons (p := p) r t, e => by
    cases p with
    | int i =>
      rw [asInts] at e
      obtain ⟨js, e1, rfl⟩ := Option.map_eq_some_iff.mp e
      cases r
      rw [RpL.ints_of t e1] <;> rfl
    | _ => cases e
theorem RpL.bools_of : ∀ {vs : List V} {ps : List PV} {is : List Bool}, RpL T g vs ps → asBools ps = some is → vs = is.map V.bl
  | _, _, _, .nil, e => by cases e; rfl
  | _, _, _, .cons (p := p) r t, e => by
    cases p with
    | bl i =>
      rw [asBools] at e
      obtain ⟨js, e1, rfl⟩ := Option.map_eq_some_iff.mp e
      cases r
      rw [RpL.bools_of t e1] <;> rfl
    | _ => cases e
theorem RpL.rng (a b : Int) : RpL T g (rgV a b) (rng a b) := by
  unfold rgV PP.rng
  generalize (b - a).toNat = n
  induction List.range n with
  | nil => exact .nil
  | cons i r ih => exact .cons (.int _) ih
end
def rC (T : Wd) (f : List PV → Option PV) : List V → Hp → VK → Prop := fun vs H Q => ∃ g c ps z, HR T g c H ∧ CtL T g H vs ps ∧ f ps = some z ∧ Fin T g H c Q z
def isOwn : PV → Bool
  | .lst _ => true
  | .dic _ => true
  | .dki _ _ => true
  | _ => false
def rCO (T : Wd) (f : List PV → Option PV) : List V → Hp → VK → Prop := fun vs H Q => ∃ g c ps z, HR T g c H ∧ CtL T g H vs ps ∧ f ps = some z ∧ FinO T g H c Q z
section
variable {X : Cx}
theorem b_len : CallR X (.builtin "len") (rC (wd X) (bltop .len)) := by
  intro pins s σ H vs us Q I r h
  obtain ⟨g, c, ps, z, hr, cx, e, fin⟩ := h
  match ps, e with
  | [.tup xs], e =>
    cases e
    obtain ⟨v, rfl, cz⟩ := cx.one
    obtain ⟨a, ws, rfl, ea, ra⟩ := cz.tup hr
    refine call_len pins s σ H _ us Q I r ⟨_, ws.length, rfl, .inr ⟨ws, ea, rfl⟩, ?_⟩
    rw [ra.length]; exact fin.here hr (.int _)
  | [.lst xs], e =>
    cases e
    obtain ⟨v, rfl, cz⟩ := cx.one
    obtain ⟨a, ws, rfl, ea, ra⟩ := cz.lst hr
    refine call_len pins s σ H _ us Q I r ⟨_, ws.length, rfl, .inl ⟨ws, SqL.of ea, rfl⟩, ?_⟩
    rw [ra.length]; exact fin.here hr (.int _)
  | [.str x], e =>
    rw [bltop] at e
    split at e <;> cases e
    rename_i hl
    obtain ⟨v, rfl, cz⟩ := cx.one
    refine call_len pins s σ H _ us Q I r ⟨_, x.length, rfl, ?_, fin.here hr (.int _)⟩
    rw [cz.str]
    exact ⟨by rw [lim_eq]; exact hl, rfl⟩
  | [.dic kvs], e =>
    cases e
    obtain ⟨v, rfl, cz⟩ := cx.one
    obtain ⟨a, o, rfl, ea, d⟩ := cz.dic hr
    obtain ⟨xs, hm, _, hl, _, _⟩ := d.keyed I hr ea
    have hz : (xs.length : Int) < 2 ^ 63 := by
      have q := d.len
      have e : LIM = 16777216 := rfl
      omega
    rw [Vals.ref1 r]
    refine call_len_dictH d.sm hm hz ?_
    refine ⟨.int kvs.length, H, I.tok _, ?_, fin.here hr (.int _)⟩
    rw [hl]; exact ⟨_, rfl⟩
  | [.dki ks ps], e =>
    cases e
    obtain ⟨v, rfl, cz⟩ := cx.one
    obtain ⟨a, kvs, rfl, ea, ek, ra⟩ := cz.dki hr
    have hl : kvs.length = ks.length := by
      have e1 := congrArg List.length ek
      rwa [List.length_map, List.length_map] at e1
    rw [Vals.ref1 r]
    refine d_len I (.inl ea) fun t s' I' => ⟨.int ks.length, H, I', ?_, fin.here hr (.int _)⟩
    rw [← hl]
    exact ⟨_, rfl⟩
  | [], e => cases e
  | [.non], e => cases e
  | [.bl _], e => cases e
  | [.int _], e => cases e
  | [.cup], e => cases e
  | [.scr _], e => cases e
  | [.rg _ _], e => cases e
  | [.fnv _], e => cases e
  | _ :: _ :: _, e => simp [bltop] at e
theorem b_tuple : CallR X (.type "tuple") (rC (wd X) (bltop .tuple)) := by
  intro pins s σ H vs us Q I r h
  obtain ⟨g, c, ps, z, hr, cx, e, fin⟩ := h
  unfold bltop at e
  split at e <;> first | (cases e; done) | skip
  all_goals first | contradiction | skip
  · obtain ⟨v, rfl, cz⟩ := cx.one
    cases e
    obtain ⟨a, ws, rfl, ea, ra⟩ := cz.tup hr
    refine call_tuple_of pins s σ H _ us Q I r ⟨a, ws, rfl, .inr ⟨ea, ?_⟩⟩
    rcases cz with cz | ⟨_, _, w⟩
    · exact fin.here hr cz
    · exact w.elim
  · obtain ⟨v, rfl, cz⟩ := cx.one
    cases e
    obtain ⟨a, ws, rfl, ea, ra⟩ := cz.lst hr
    exact call_tuple_of pins s σ H _ us Q I r ⟨a, ws, rfl, .inl ⟨SqL.of ea, fin.newT hr ra⟩⟩
theorem b_listO : CallR X (.type "list") (rCO (wd X) (bltop .list)) := by
  intro pins s σ H vs us Q I r h
  obtain ⟨g, c, ps, z, hr, cx, e, fin⟩ := h
  unfold bltop at e
  split at e <;> first | (cases e; done) | skip
  all_goals first | contradiction | skip
  · obtain ⟨v, rfl, cz⟩ := cx.one
    cases e
    obtain ⟨a, ws, rfl, ea, ra⟩ := cz.tup hr
    exact call_list_of pins s σ H _ us Q I r ⟨a, ws, rfl, .inr ea, fin.newL hr ra⟩
  · obtain ⟨v, rfl, cz⟩ := cx.one
    cases e
    obtain ⟨a, ws, rfl, ea, ra⟩ := cz.lst hr
    exact call_list_of pins s σ H _ us Q I r ⟨a, ws, rfl, .inl (SqL.of ea), fin.newL hr ra⟩
  · obtain ⟨v, rfl, cz⟩ := cx.one
    cases e
    obtain ⟨a, rfl, ea⟩ := cz.scr hr
    exact call_list_of pins s σ H _ us Q I r ⟨a, _, rfl, .inl ea, fin.newL hr (RpL.ints _)⟩
theorem b_abs : CallR X (.builtin "abs") (rC (wd X) (bltop .abs)) := by
  intro pins s σ H vs us Q I r h
  obtain ⟨g, c, ps, z, hr, cx, e, fin⟩ := h
  unfold bltop at e
  split at e <;> first | (cases e; done) | skip
  all_goals first | contradiction | skip
  obtain ⟨v, rfl, cz⟩ := cx.one
  cases e
  exact call_abs pins s σ H _ us Q I r ⟨_, by rw [cz.int], fin.here hr (.int _)⟩
theorem b_int : CallR X (.type "int") (rC (wd X) (bltop .int)) := by
  intro pins s σ H vs us Q I r h
  obtain ⟨g, c, ps, z, hr, cx, e, fin⟩ := h
  unfold bltop at e
  split at e <;> first | (cases e; done) | skip
  all_goals first | contradiction | skip
  · obtain ⟨v, rfl, cz⟩ := cx.one
    cases e
    exact call_int1 pins s σ H _ us Q I r (.inl ⟨_, by rw [cz.int], fin.here hr (.int _)⟩)
  · obtain ⟨v, rfl, cz⟩ := cx.one
    cases e
    exact call_int1 pins s σ H _ us Q I r (.inr ⟨_, by rw [cz.bl], fin.here hr (.int _)⟩)
theorem b_min2 (hc : X.calm = true) : CallR X (.builtin "min") (rC (wd X) (bltop .min2)) := by
  intro pins s σ H vs us Q I r h
  obtain ⟨g, c, ps, z, hr, cx, e, fin⟩ := h
  unfold bltop at e
  split at e <;> first | (cases e; done) | skip
  all_goals first | contradiction | skip
  obtain ⟨v, w, rfl, cz, cy⟩ := cx.two
  cases e
  exact call_min2 hc pins s σ H _ us Q I r ⟨_, _, by rw [cz.int, cy.int], fin.here hr (.int _)⟩
theorem b_max2 (hc : X.calm = true) : CallR X (.builtin "max") (rC (wd X) (bltop .max2)) := by
  intro pins s σ H vs us Q I r h
  obtain ⟨g, c, ps, z, hr, cx, e, fin⟩ := h
  unfold bltop at e
  split at e <;> first | (cases e; done) | skip
  all_goals first | contradiction | skip
  obtain ⟨v, w, rfl, cz, cy⟩ := cx.two
  cases e
  exact call_max2 hc pins s σ H _ us Q I r ⟨_, _, by rw [cz.int, cy.int], fin.here hr (.int _)⟩
theorem b_sum (hc : X.calm = true) : CallR X (.builtin "sum") (rC (wd X) (bltop .sum)) := by
  intro pins s σ H vs us Q I r h
  obtain ⟨g, c, ps, z, hr, cx, e, fin⟩ := h
  unfold bltop at e
  split at e <;> first | (cases e; done) | skip
  all_goals first | contradiction | skip
  obtain ⟨v, rfl, cz⟩ := cx.one
  obtain ⟨is, e1, rfl⟩ := Option.map_eq_some_iff.mp e
  obtain ⟨a, ws, rfl, ea, ra⟩ := cz.lst hr
  exact cr_sum hc pins s σ H _ us Q I r ⟨a, is, rfl, by rw [← ra.ints_of e1]; exact SqL.of ea, fin.here hr (.int _)⟩
theorem b_all (hc : X.calm = true) : CallR X (.builtin "all") (rC (wd X) (bltop .all)) := by
  intro pins s σ H vs us Q I r h
  obtain ⟨g, c, ps, z, hr, cx, e, fin⟩ := h
  unfold bltop at e
  split at e <;> first | (cases e; done) | skip
  all_goals first | contradiction | skip
  obtain ⟨v, rfl, cz⟩ := cx.one
  obtain ⟨is, e1, rfl⟩ := Option.map_eq_some_iff.mp e
  obtain ⟨a, ws, rfl, ea, ra⟩ := cz.lst hr
  exact cr_all hc pins s σ H _ us Q I r ⟨a, is, rfl, by rw [← ra.bools_of e1]; exact SqL.of ea, fin.here hr (.bl _)⟩
theorem b_any (hc : X.calm = true) : CallR X (.builtin "any") (rC (wd X) (bltop .any)) := by
  intro pins s σ H vs us Q I r h
  obtain ⟨g, c, ps, z, hr, cx, e, fin⟩ := h
  unfold bltop at e
  split at e <;> first | (cases e; done) | skip
  all_goals first | contradiction | skip
  obtain ⟨v, rfl, cz⟩ := cx.one
  obtain ⟨is, e1, rfl⟩ := Option.map_eq_some_iff.mp e
  obtain ⟨a, ws, rfl, ea, ra⟩ := cz.lst hr
  exact cr_any hc pins s σ H _ us Q I r ⟨a, is, rfl, by rw [← ra.bools_of e1]; exact SqL.of ea, fin.here hr (.bl _)⟩
theorem max_mem {is : List Int} {m : Int} (e : is.max? = some m) : 0 < is.length ∧ ∀ k, k ∈ is → (∀ y, y ∈ is → y ≤ k) → k = m := by
  have hm := List.max?_eq_some_iff.mp e
  refine ⟨List.length_pos_iff.mpr (fun z => by rw [z] at hm; cases hm.1), fun k hk hy => Int.le_antisymm (hm.2 k hk) (hy m hm.1)⟩
theorem min_mem {is : List Int} {m : Int} (e : is.min? = some m) : 0 < is.length ∧ ∀ k, k ∈ is → (∀ y, y ∈ is → k ≤ y) → k = m := by
  have hm := List.min?_eq_some_iff.mp e
  refine ⟨List.length_pos_iff.mpr (fun z => by rw [z] at hm; cases hm.1), fun k hk hy => Int.le_antisymm (hy m hm.1) (hm.2 k hk)⟩
theorem max_rawT {prog : Program} {w : World} {A : Around} {E : Value → Shared → Prop} {s : Shared} {l : Addr} {its : List Value} {ns : List Int} {Q : Value → Shared → Prop} (hh : A.handled = none) (hl : s.heap.IsTuple l its.toArray) (hi : IntsAre its ns) (hne : 0 < ns.length)
    (h : ∀ h' tk M t', (∀ b o, s.heap.get? b = some o → h'.get? b = some o) → M ∈ ns → (∀ a, a ∈ ns → a ≤ M) → Q (.int M t') { s with heap := h', toks := tk }) : wpAny (model prog w) A (call (.builtin "max") [.ref l]) Q E s := by
  obtain ⟨xs, e⟩ := hi.allInts.items
  have hn : numsOf (intItems xs).toList = ns := by rw [← e]; exact hi.numsOf
  rw [nums_intItems] at hn
  subst hn
  rw [e] at hl
  have hsz : 0 < xs.size := by simpa using hne
  have hlt : l < s.heap.objs.size := by obtain ⟨_, e, _⟩ := hl; exact Heap.lt_size e
  refine call_max_walk (wpAny_pyIter_tuple hl ?_)
  refine ⟨s.heap.objs.size, _, _, _, _, _, _, rfl, Walks.tuple (A := A.in1) hh s.heap.objs.size l (Nat.ne_of_lt hlt) (intItems xs), ⟨⟨_, Heap.get?_push_size _ rfl, rfl, rfl⟩, hl.push _⟩, fun b hb => ?_, by simpa [intItems] using hsz, CmpOf.ints_gt (numAt xs) (fun _ _ => intItems_at), fun v h' tk hP hk => ?_⟩
  · show b < (s.heap.push _).objs.size
    rw [Heap.size_push]
    rcases List.mem_cons.mp hb with rfl | hb
    · exact Nat.lt_succ_self _
    · rcases List.mem_cons.mp hb with rfl | hb
      · exact Nat.lt_succ_of_lt hlt
      · cases hb
  · have hold : ∀ d o, s.heap.get? d = some o → h'.get? d = some o := fun d o e => by
      refine hk d o (fun hm => ?_) (Heap.get?_push_of_some _ e)
      rcases List.mem_cons.mp hm with e1 | hm
      · have := Heap.lt_size e; rw [e1] at this; exact Nat.lt_irrefl _ this
      · cases hm
    have hP' : (intItems xs)[argBest (fun i j => decide (numAt xs i > numAt xs j)) (xs.size - 1)]? = some v := by simpa [intItems] using hP
    obtain ⟨t, rfl⟩ := intItems_at hP'
    obtain ⟨h1, h2⟩ := argBest_gt (numAt xs) (xs.size - 1)
    refine h h' tk _ t hold ?_ fun a ha => ?_
    · rw [numAt_eq]; exact PySem.getD_mem (by rw [List.length_map, Array.length_toList]; omega)
    · obtain ⟨j, hj, rfl⟩ := mem_getD ha
      rw [List.length_map, Array.length_toList] at hj
      rw [← numAt_eq]; exact h2 j (by omega)
theorem b_maxL (hc : X.calm = true) : CallR X (.builtin "max") (rC (wd X) (bltop .maxL)) := by
  intro pins s σ H vs us Q I r h
  obtain ⟨g, c, ps, z, hr, cx, e, fin⟩ := h
  unfold bltop at e
  split at e <;> first | (cases e; done) | skip
  all_goals first | contradiction | skip
  · obtain ⟨v, rfl, cz⟩ := cx.one
    obtain ⟨is, e1, e2⟩ := Option.bind_eq_some_iff.mp e
    obtain ⟨m, e3, rfl⟩ := Option.map_eq_some_iff.mp e2
    obtain ⟨a, ws, rfl, ea, ra⟩ := cz.lst hr
    obtain ⟨h1, h2⟩ := max_mem e3
    exact cr_max hc pins s σ H _ us Q I r ⟨a, is, rfl, by rw [← ra.ints_of e1]; exact SqL.of ea, h1, fun k hk hy => by rw [h2 k hk hy]; exact fin.here hr (.int _)⟩
  · obtain ⟨v, rfl, cz⟩ := cx.one
    obtain ⟨is, e1, e2⟩ := Option.bind_eq_some_iff.mp e
    obtain ⟨m, e3, rfl⟩ := Option.map_eq_some_iff.mp e2
    obtain ⟨a, ws, rfl, ea, ra⟩ := cz.tup hr
    obtain ⟨h1, h2⟩ := max_mem e3
    rw [ra.ints_of e1] at ea
    obtain ⟨its, rv, hl, _⟩ := I.tuple ea
    rw [Vals.ref1 r]
    refine max_rawT (I.ok.hd hc) hl rv.ints h1 fun h' tk k t' hk hm hy => ⟨.int _, H, I.kept hk, ⟨_, rfl⟩, ?_⟩
    rw [h2 k hm hy]; exact fin.here hr (.int _)
theorem b_minL (hc : X.calm = true) : CallR X (.builtin "min") (rC (wd X) (bltop .minL)) := by
  intro pins s σ H vs us Q I r h
  obtain ⟨g, c, ps, z, hr, cx, e, fin⟩ := h
  unfold bltop at e
  split at e <;> first | (cases e; done) | skip
  all_goals first | contradiction | skip
  obtain ⟨v, rfl, cz⟩ := cx.one
  obtain ⟨is, e1, e2⟩ := Option.bind_eq_some_iff.mp e
  obtain ⟨m, e3, rfl⟩ := Option.map_eq_some_iff.mp e2
  obtain ⟨a, ws, rfl, ea, ra⟩ := cz.lst hr
  obtain ⟨h1, h2⟩ := min_mem e3
  exact cr_min hc pins s σ H _ us Q I r ⟨a, is, rfl, by rw [← ra.ints_of e1]; exact SqL.of ea, h1, fun k hk hy => by rw [h2 k hk hy]; exact fin.here hr (.int _)⟩
theorem b_repr : CallR X (.builtin "repr") (rC (wd X) (bltop .repr)) := by
  intro pins s σ H vs us Q I r h
  obtain ⟨g, c, ps, z, hr, cx, e, fin⟩ := h
  unfold bltop at e
  split at e <;> first | (cases e; done) | skip
  all_goals first | contradiction | skip
  · obtain ⟨v, rfl, cz⟩ := cx.one
    cases e
    rename_i b _
    rw [cz.bl] at r
    rw [Vals.bls (bs := [b]) r]
    refine PySem.P.repr_of_bool ⟨.str _, H, I.tok _, ⟨_, rfl⟩, ?_⟩
    cases b <;> exact fin.here hr (.str _)
  · obtain ⟨v, rfl, cz⟩ := cx.one
    cases e
    rw [cz.non] at r
    cases r with
    | cons r t =>
      cases t
      cases r
      exact PySem.P.repr_of_none ⟨.str _, H, I.tok _, ⟨_, rfl⟩, fin.here hr (.str _)⟩
end
end PP

set_option Elab.async false
set_option linter.all false
set_option maxRecDepth 100000
/-! PP7: expressions: the hand layer's judgements for pure meanings. -/
namespace PP
open PySem PySem.Spec PyProof.Rows L2

/-! ### an exception, as it is wanted -/
/-- the class named cl, its own dict -/
def ExcR (T : Wd) (mg : Str → Option Value) (g : Gh) (H : Hp) (cl : Str) (arg : PV) (cls : Value) (d : Option Addr) : Prop := mg cl = some cls ∧ (∃ C, cls = .ref C) ∧ (∀ y D, y ∈ excNames → mg y = some (.ref D) → PySem.W.exmOne T.K cls (.ref D) = some (subX cl y)) ∧ match arg with
  | .non => d = none
  | p => ∃ C dd v, cls = .ref C ∧ XfC T.K C ∧ PySem.W.findIn T.K (.ref C) "limit" = some none ∧ d = some dd ∧ H dd = some (.xd [(("limit" : Str), v)]) ∧ Rp T g v p

/-- what comes of R is good: K behind, W for an exception -/
def GoodR {α : Type} (T : Wd) (mg : Str → Option Value) (W : WX) (g : Gh) (H : Hp) (σ : L2.St) (K : α → Gh → List PV → Hp → Prop) : R α → Prop
  | .ok a c => ∀ g' H', Pres g H g' H' → HR T g' c H' → K a g' c H'
  | .exc cl arg c => ∀ g' H', Pres g H g' H' → HR T g' c H' → ∀ cls d, ExcR T mg g' H' cl arg cls d → W cls d σ H'
  | .stuck => False
section
variable {α β : Type} {T : Wd} {mg : Str → Option Value} {W : WX} {g g1 : Gh} {H H1 : Hp} {σ : L2.St} {K K' : α → Gh → List PV → Hp → Prop}
theorem GoodR.mono {x : R α} (h : GoodR T mg W g H σ K x) (k : ∀ a g' c H', Pres g H g' H' → HR T g' c H' → K a g' c H' → K' a g' c H') : GoodR T mg W g H σ K' x := by
  cases x with
  | ok a c => exact fun g' H' p q => k a g' c H' p q (h g' H' p q)
  | exc cl arg c => exact h
  | stuck => exact h
theorem GoodR.pres {x : R α} (h : GoodR T mg W g H σ K x) (p : Pres g H g1 H1) : GoodR T mg W g1 H1 σ K x := by
  cases x with
  | ok a c => exact fun g' H' q r => h g' H' (p.trans q) r
  | exc cl arg c => exact fun g' H' q r => h g' H' (p.trans q) r
  | stuck => exact h
theorem GoodR.bind {K : β → Gh → List PV → Hp → Prop} {x : R α} {f : α → List PV → R β} (h : GoodR T mg W g H σ K (x.bind f)) : GoodR T mg W g H σ (fun a g1 c1 H1 => GoodR T mg W g1 H1 σ K (f a c1)) x := by
  cases x with
  | ok a c => exact fun g' H' p q => GoodR.pres (x := f a c) h p
  | exc cl arg c => exact h
  | stuck => exact h
theorem GoodR.pure {K : PV → Gh → List PV → Hp → Prop} {o : Option PV} {c : List PV} (h : GoodR T mg W g H σ K (pureR o c)) : ∃ z, o = some z ∧ ∀ g' H', Pres g H g' H' → HR T g' c H' → K z g' c H' := by
  cases o with
  | some z => exact ⟨z, rfl, h⟩
  | none => exact h.elim
end

/-! ### slots -/
def SlotR (T : Wd) (g : Gh) (H : Hp) (B : Addr → Prop) : Slot → Option (Option V) → Prop
  | .no, _ => True
  | .val p, s => ∃ v, s = some (some v) ∧ Rp T g v p
  | .own p, s => ∃ a, s = some (some (.ref a)) ∧ B a ∧ g.F a = none ∧ OwnR T g H a p
structure EnvR (T : Wd) (g : Gh) (H : Hp) (B : Addr → Prop) (env : Env) (σ : L2.St) : Prop where
  len : σ.length = env.length
  at_ : ∀ (i : Nat) (s : Slot), env[i]? = some s → SlotR T g H B s σ[i]?
  inj : ∀ (i j : Nat) (p q : PV) (a : Addr), env[i]? = some (.own p) → env[j]? = some (.own q) → σ[i]? = some (some (.ref a)) → σ[j]? = some (some (.ref a)) → i = j
section
variable {T : Wd} {g g' : Gh} {H H' : Hp} {B : Addr → Prop} {env : Env} {σ : L2.St}
theorem EnvR.pres (e : EnvR T g H B env σ) (x : Pres g H g' H') : EnvR T g' H' B env σ := by
  refine ⟨e.len, fun i s hs => ?_, e.inj⟩
  have q := e.at_ i s hs
  cases s with
  | no => trivial
  | val p => obtain ⟨v, h1, h2⟩ := q; exact ⟨v, h1, h2.ext x.ext⟩
  | own p =>
    obtain ⟨a, h1, hb, h2, h4⟩ := q
    obtain ⟨u, hu⟩ := h4.there
    refine ⟨a, h1, hb, ?_, h4.pres x⟩
    cases z : g'.F a with
    | none => rfl
    | some o =>
      rcases x.newF a o z with y | y
      · rw [h2] at y; cases y
      · exact (h4.thereN y).elim
end

/-! ### the readings -/
abbrev Ev := Env → List PV → R PV
abbrev MG := Str → Option Value
def tR {α : Type} (T : Wd) (mg : MG) (W : WX) (ev : Env → List PV → R α) (K : α → Gh → List PV → Hp → Prop) : L2.St → Hp → Prop := fun σ H => ∃ g env c B, EnvR T g H B env σ ∧ HR T g c H ∧ GoodR T mg W g H σ K (ev env c)
def tE (T : Wd) (mg : MG) (W : WX) (ev : Ev) : TE := fun σ H Q => tR T mg W ev (fun p g' _ H' => ∀ v, Rp T g' v p → Q v H') σ H
def tEb (T : Wd) (mg : MG) (W : WX) (ev : Ev) : TE := fun σ H Q => tR T mg W ev (fun p g' _ H' => ∀ v, Ct T g' H' v p → Q v H') σ H
/-- the value is a new object of one's own -/
def tO (T : Wd) (mg : MG) (W : WX) (ev : Ev) : TE := fun σ H Q => tR T mg W ev (fun p g' _ H' => ∀ a, Nt H a → g'.F a = none → g'.c ≠ some a → OwnR T g' H' a p → Q (.ref a) H') σ H
def tT (T : Wd) (mg : MG) (W : WX) (ev : Env → List PV → R Bool) : TT := fun σ H Q => tR T mg W ev (fun b _ _ H' => Q b H') σ H
def tA (T : Wd) (mg : MG) (W : WX) (ev : Env → List PV → R (List PV)) : TA := fun σ H Q => tR T mg W ev (fun ps g' _ H' => ∀ vs, RpL T g' vs ps → Q vs H') σ H
def tAb (T : Wd) (mg : MG) (W : WX) (ev : Env → List PV → R (List PV)) : TA := fun σ H Q => tR T mg W ev (fun ps g' _ H' => ∀ vs, CtL T g' H' vs ps → Q vs H') σ H
abbrev XE' (X : Cx) (W : WX) (e : Expr) (ev : Ev) : Prop := L2.PE X e (tE (wd X) X.mg W ev)
abbrev XB (X : Cx) (W : WX) (e : Expr) (ev : Ev) : Prop := L2.PE X e (tEb (wd X) X.mg W ev)
abbrev XO (X : Cx) (W : WX) (e : Expr) (ev : Ev) : Prop := L2.PE X e (tO (wd X) X.mg W ev)
abbrev XT (X : Cx) (W : WX) (e : Expr) (ev : Env → List PV → R Bool) : Prop := L2.PT X e (tT (wd X) X.mg W ev)
abbrev XA (X : Cx) (W : WX) (es : List Expr) (ev : Env → List PV → R (List PV)) : Prop := L2.PA X es (tA (wd X) X.mg W ev)
abbrev XAb (X : Cx) (W : WX) (es : List Expr) (ev : Env → List PV → R (List PV)) : Prop := L2.PA X es (tAb (wd X) X.mg W ev)
section
variable {X : Cx} {W : WX} {e a b d : Expr} {es : List Expr} {ev ea eb ed : Ev} {pos : Pos} {t t' : TE}
theorem pe_weak (h : L2.PE X e t) (w : ∀ σ H Q, t' σ H Q → t σ H Q) : L2.PE X e t' := ⟨fun pins s σ H Q I q => h.run pins s σ H Q I (w σ H Q q)⟩
theorem pt_weak {t t' : TT} (h : L2.PT X e t) (w : ∀ σ H Q, t' σ H Q → t σ H Q) : L2.PT X e t' := ⟨fun pins s σ H Q I q => h.run pins s σ H Q I (w σ H Q q)⟩
theorem pa_weak {t t' : TA} (h : L2.PA X es t) (w : ∀ σ H Q, t' σ H Q → t σ H Q) : L2.PA X es t' := ⟨fun pos pins s σ H Q I q => h.run pos pins s σ H Q I (w σ H Q q)⟩
theorem tR.mono {α : Type} {T : Wd} {mg : MG} {ev : Env → List PV → R α} {K K' : α → Gh → List PV → Hp → Prop} {σ : L2.St} {H : Hp} (h : tR T mg W ev K σ H) (k : ∀ a g' c H', K a g' c H' → K' a g' c H') : tR T mg W ev K' σ H := by
  obtain ⟨g, env, c, B, er, hr, gd⟩ := h
  exact ⟨g, env, c, B, er, hr, gd.mono fun a g' c H' _ _ z => k a g' c H' z⟩
theorem RpL.ctl {T : Wd} {g : Gh} {H : Hp} : ∀ {vs : List V} {ps : List PV}, RpL T g vs ps → CtL T g H vs ps
  | _, _, .nil => .nil
  | _, _, .cons r t => .cons (.inl r) (RpL.ctl t)
theorem XE'.bor (h : XE' X W e ev) : XB X W e ev := pe_weak h fun σ H Q q => q.mono fun p g' c H' k v r => k v (.inl r)
theorem XA.bor {ev : Env → List PV → R (List PV)} (h : XA X W es ev) : XAb X W es ev := pa_weak h fun σ H Q q => q.mono fun p g' c H' k vs r => k vs r.ctl
/-- frozen -/
theorem XO.frz (h : XO X W e ev) : XE' X W e ev := pe_weak h fun σ H Q q => by
  obtain ⟨g, env, c, B, er, hr, gd⟩ := q
  refine ⟨g, env, c, B, er, hr, ?_⟩
  cases hx : ev env c with
  | ok p c' =>
    rw [hx] at gd
    intro g' H' x hr' a na nf nc o
    obtain ⟨u, eu, r, nt⟩ := o.rp nf
    exact gd (g'.put a u) H' (x.freeze nf na) (hr'.freeze eu nf nc nt) (.ref a) r
  | exc cl arg c' => rw [hx] at gd; exact gd
  | stuck => rw [hx] at gd; exact gd

/-! ### constants, names -/
theorem x_con {v : V} {p : PV} (h : L2.PE X e (tC v)) (r : ∀ g : Gh, Rp (wd X) g v p) : XE' X W e (fun _ c => .ok p c) := pe_weak h fun σ H Q q => by
  obtain ⟨g, env, c, B, er, hr, gd⟩ := q
  exact gd g H Pres.refl hr v (r g)
theorem x_int {i j pos} : XE' X W (.Constant (.int i) j pos) (fun _ c => .ok (.int i) c) := x_con pe_int fun _ => .int i
theorem x_bl {b j pos} : XE' X W (.Constant (.bool b) j pos) (fun _ c => .ok (.bl b) c) := x_con pe_bl fun _ => .bl b
theorem x_non {j pos} : XE' X W (.Constant .none j pos) (fun _ c => .ok .non c) := x_con pe_non fun _ => .non
theorem x_str {x j pos} : XE' X W (.Constant (.str x) j pos) (fun _ c => .ok (.str x) c) := x_con pe_str fun _ => .str x
theorem x_var {i : Nat} {x : Str} (h : L2.PE X (.Name x pos) (tVar i)) : XE' X W (.Name x pos) (fun env c => pureR (varv env i) c) := pe_weak h fun σ H Q q => by
  obtain ⟨g, env, c, B, er, hr, gd⟩ := q
  obtain ⟨z, ez, k⟩ := gd.pure
  unfold varv at ez
  split at ez <;> cases ez
  rename_i hs
  obtain ⟨v, h1, h2⟩ := er.at_ i _ hs
  exact ⟨v, h1, k g H Pres.refl hr v h2⟩
theorem x_bor {i : Nat} {x : Str} (h : L2.PE X (.Name x pos) (tVar i)) : XB X W (.Name x pos) (fun env c => pureR (borv env i) c) := pe_weak h fun σ H Q q => by
  obtain ⟨g, env, c, B, er, hr, gd⟩ := q
  obtain ⟨z, ez, k⟩ := gd.pure
  unfold borv at ez
  split at ez <;> cases ez
  · rename_i hs
    obtain ⟨v, h1, h2⟩ := er.at_ i _ hs
    exact ⟨v, h1, k g H Pres.refl hr v (.inl h2)⟩
  · rename_i hs
    obtain ⟨a, h1, _, h2, h4⟩ := er.at_ i _ hs
    exact ⟨.ref a, h1, k g H Pres.refl hr _ (.inr ⟨a, rfl, h4⟩)⟩

/-! ### two in a row -/
theorem tR.one {α γ : Type} {T : Wd} {mg : MG} {ea : Env → List PV → R α} {f : α → List PV → R γ} {K : γ → Gh → List PV → Hp → Prop} {σ : L2.St} {H : Hp}
    (h : tR T mg W (fun env c => (ea env c).bind fun x c => f x c) K σ H) :
    tR T mg W ea (fun x g1 c1 H1 => HR T g1 c1 H1 ∧ (∀ a, Nt H1 a → Nt H a) ∧ GoodR T mg W g1 H1 σ K (f x c1)) σ H := by
  obtain ⟨g, env, c, B, er, hr, gd⟩ := h
  exact ⟨g, env, c, B, er, hr, gd.bind.mono fun x g1 c1 H1 p1 h1 k1 => ⟨h1, fun a => p1.dead, k1⟩⟩
theorem tR.two {α β γ : Type} {T : Wd} {mg : MG} {ea : Env → List PV → R α} {eb : Env → List PV → R β} {f : α → β → List PV → R γ} {K : γ → Gh → List PV → Hp → Prop} {σ : L2.St} {H : Hp}
    (h : tR T mg W (fun env c => (ea env c).bind fun x c => (eb env c).bind fun y c => f x y c) K σ H) :
    tR T mg W ea (fun x g1 c1 H1 => tR T mg W eb (fun y g2 c2 H2 => Pres g1 H1 g2 H2 ∧ (∀ a, Nt H2 a → Nt H a) ∧ HR T g2 c2 H2 ∧ GoodR T mg W g2 H2 σ K (f x y c2)) σ H1) σ H := by
  obtain ⟨g, env, c, B, er, hr, gd⟩ := h
  refine ⟨g, env, c, B, er, hr, gd.bind.mono fun x g1 c1 H1 p1 h1 k1 => ?_⟩
  exact ⟨g1, env, c1, B, er.pres p1, h1, k1.bind.mono fun y g2 c2 H2 p2 h2 k2 => ⟨p2, fun a z => p1.dead (p2.dead z), h2, k2⟩⟩
/-- two operands of a rule by values -/
theorem tR.op {T : Wd} {mg : MG} {f : PV → PV → List PV → Option PV} {σ : L2.St} {H : Hp} {Q : VK} {ta tb : TE} (r : R2)
    (h : tE T mg W (fun env c => (ea env c).bind fun x c => (eb env c).bind fun y c => pureR (f x y c) c) σ H Q)
    (ha : ta = tEb T mg W ea) (hb : tb = tEb T mg W eb)
    (hr : ∀ x y H Q g c p q z, HR T g c H → Ct T g H x p → Ct T g H y q → f p q c = some z → Fin T g H c Q z → r x y H Q) : tOp r ta tb σ H Q := by
  subst ha hb
  refine h.two.mono fun x g1 c1 H1 k v cv => ?_
  refine k.mono fun y g2 c2 H2 ⟨p2, _, h2, k2⟩ w cw => ?_
  obtain ⟨z, ez, kz⟩ := k2.pure
  exact hr v w H2 Q g2 c2 x y z h2 (cv.pres p2) cw ez fun g' H' u p' h' ru => kz g' H' p' h' u ru
theorem tR.opO {T : Wd} {mg : MG} {f : PV → PV → List PV → Option PV} {σ : L2.St} {H : Hp} {Q : VK} {ta tb : TE} (r : R2)
    (h : tO T mg W (fun env c => (ea env c).bind fun x c => (eb env c).bind fun y c => pureR (f x y c) c) σ H Q)
    (ha : ta = tEb T mg W ea) (hb : tb = tEb T mg W eb)
    (hr : ∀ x y H Q g c p q z, HR T g c H → Ct T g H x p → Ct T g H y q → f p q c = some z → FinO T g H c Q z → r x y H Q) : tOp r ta tb σ H Q := by
  subst ha hb
  refine h.two.mono fun x g1 c1 H1 k v cv => ?_
  refine k.mono fun y g2 c2 H2 ⟨p2, d2, h2, k2⟩ w cw => ?_
  obtain ⟨z, ez, kz⟩ := k2.pure
  exact hr v w H2 Q g2 c2 x y z h2 (cv.pres p2) cw ez fun g' H' a p' h' na nf nc o => kz g' H' p' h' a (d2 a na) nf nc o
theorem x_bin (o : Bop) (ha : XB X W a ea) (hb : XB X W b eb) : XE' X W (.BinOp a (bopOf o) b pos) (fun env c => (ea env c).bind fun x c => (eb env c).bind fun y c => pureR (binop o x y) c) :=
  pe_weak (pe_op (op_bin o) ha hb) fun σ H Q h => tR.op (f := fun x y _ => binop o x y) _ h rfl rfl fun x y H Q g c p q z h1 h2 h3 h4 h5 => ⟨g, c, p, q, z, h1, h2, h3, h4, h5⟩
end
end PP

set_option Elab.async false
set_option linter.all false
set_option maxRecDepth 100000
/-! PP8: more expressions; tests. -/
namespace PP
open PySem PySem.Spec PyProof.Rows L2

theorem ownO_some {o : Option PV} {z : PV} (h : ownO o = some z) : o = some z ∧ isOwn z = true := by
  unfold ownO at h
  split at h <;> cases h <;> exact ⟨rfl, rfl⟩
section
variable {X : Cx} {W : WX} {e a b d : Expr} {es : List Expr} {ev ea eb ed : Ev} {et eu : Env → List PV → R Bool} {pos : Pos} {rest : List Expr}
theorem binop_dic {o : Bop} {p q : PV} {z : PV} (h : binop o p q = some z) (hz : isOwn z = true) : isLst z = true := by
  unfold binop at h
  split at h <;> first | (cases h; done) | skip
  all_goals first | (cases h; cases hz; done) | skip
  · unfold mkStr at h; split at h <;> cases h; cases hz
  · unfold mkTup at h; split at h <;> cases h; cases hz
  · unfold mkLst at h; split at h <;> cases h; rfl
  all_goals first | (split at h <;> cases h <;> first | rfl | (cases hz; done)) | (split at h <;> first | (cases h; cases hz; done) | (split at h <;> cases h; cases hz; done)) | skip
theorem x_binO (o : Bop) (ha : XB X W a ea) (hb : XB X W b eb) : XO X W (.BinOp a (bopOf o) b pos) (fun env c => (ea env c).bind fun x c => (eb env c).bind fun y c => pureR (ownO (binop o x y)) c) :=
  pe_weak (pe_op (op_binO o) ha hb) fun σ H Q h => tR.opO (f := fun x y _ => ownO (binop o x y)) _ h rfl rfl fun x y H Q g c p q z h1 h2 h3 h4 h5 =>
    ⟨g, c, p, q, z, h1, h2, h3, (ownO_some h4).1, binop_dic (ownO_some h4).1 (ownO_some h4).2, h5⟩
theorem x_neg (ha : XB X W a ea) : XE' X W (.UnaryOp .USub a pos) (fun env c => (ea env c).bind fun x c => match x with
    | .int i => .ok (.int (-i)) c
    | _ => .stuck) := pe_weak (pe_un un_neg ha) fun σ H Q h => by
  refine h.one.mono fun x g1 c1 H1 ⟨h1, _, k⟩ v cv => ?_
  cases x with
  | int i => exact ⟨i, cv.int, k g1 H1 Pres.refl h1 _ (.int _)⟩
  | _ => exact k.elim
/-! ### tests -/
/-- the truth of a value -/
theorem t_tru {σ : L2.St} {H : Hp} {K : Bool → Gh → List PV → Hp → Prop} (h : tR (wd X) X.mg W (fun env c => truthR (ea env c)) K σ H) :
    tR (wd X) X.mg W ea (fun p g1 c1 H1 => ∃ b, truth p = some b ∧ HR (wd X) g1 c1 H1 ∧ K b g1 c1 H1) σ H := by
  refine (tR.one (f := fun v c => match truth v with
    | some b => .ok b c
    | none => .stuck) h).mono fun p g1 c1 H1 ⟨h1, _, k⟩ => ?_
  cases hp : truth p with
  | some b => rw [hp] at k; exact ⟨b, rfl, h1, k g1 H1 Pres.refl h1⟩
  | none => rw [hp] at k; exact k.elim
theorem xt_val (ha : XB X W a ea) (he : ∀ whole, isTrue a X.env whole = (do let v ← whole; standAt a.pos; holding [v] (truthy v))) : XT X W a (fun env c => truthR (ea env c)) :=
  pt_weak (pt_truth ha he) fun σ H Q h => (t_tru h).mono fun p g1 c1 H1 ⟨b, e1, h1, k⟩ v cv => ⟨b, tru_pv h1 cv e1, k⟩
theorem xt_not (ha : XT X W a et) : XT X W (.UnaryOp .Not a pos) (fun env c => (et env c).bind fun b c => .ok (!b) c) :=
  pt_weak (pt_not ha) fun σ H Q h => h.one.mono fun b g1 c1 H1 ⟨h1, _, k⟩ => k g1 H1 Pres.refl h1
theorem xt_ite (ht : XT X W d et) (ha : XB X W a ea) (hb : XB X W b eb) : XB X W (.IfExp d a b pos) (fun env c => (et env c).bind fun k c => if k then ea env c else eb env c) :=
  pe_weak (pe_ifExp ht ha hb) fun σ H Q h => by
    obtain ⟨g, env, c, B, er, hr, gd⟩ := h
    refine ⟨g, env, c, B, er, hr, gd.bind.mono fun k g1 c1 H1 p1 h1 k1 => ?_⟩
    cases k with
    | true => exact ⟨g1, env, c1, B, er.pres p1, h1, k1⟩
    | false => exact ⟨g1, env, c1, B, er.pres p1, h1, k1⟩
theorem x_ite (ht : XT X W d et) (ha : XE' X W a ea) (hb : XE' X W b eb) : XE' X W (.IfExp d a b pos) (fun env c => (et env c).bind fun k c => if k then ea env c else eb env c) :=
  pe_weak (pe_ifExp ht ha hb) fun σ H Q h => by
    obtain ⟨g, env, c, B, er, hr, gd⟩ := h
    refine ⟨g, env, c, B, er, hr, gd.bind.mono fun k g1 c1 H1 p1 h1 k1 => ?_⟩
    cases k with
    | true => exact ⟨g1, env, c1, B, er.pres p1, h1, k1⟩
    | false => exact ⟨g1, env, c1, B, er.pres p1, h1, k1⟩
/-- a comparison -/
theorem x_cmp (hu : X.A.units + 70 < cLine) (o : Cop) (ha : XB X W a ea) (hb : XB X W b eb) (hm : behindInMarks (copOf o) b = false) : XE' X W (.Compare a [copOf o] [b] pos) (fun env c => (ea env c).bind fun x c => (eb env c).bind fun y c => pureR (cmpop o x y) c) :=
  pe_weak (pe_cmpR (op_cmp hu o) ha hb hm) fun σ H Q h => tR.op (f := fun x y _ => cmpop o x y) _ h rfl rfl fun x y H Q g c p q z h1 h2 h3 h4 h5 => ⟨g, c, p, q, z, h1, h2, h3, h4, h5⟩
theorem cmpop_bl {o : Cop} {p q z : PV} (h : cmpop o p q = some z) : ∃ b, z = .bl b := by
  unfold cmpop at h
  split at h <;> first | (cases h; done) | skip
  all_goals first
    | (split at h <;> cases h <;> exact ⟨_, rfl⟩)
    | (cases h; exact ⟨_, rfl⟩)
    | (obtain ⟨b, _, rfl⟩ := Option.map_eq_some_iff.mp h; exact ⟨b, rfl⟩)
theorem xt_cmp (hu : X.A.units + 70 < cLine) (o : Cop) (ha : XB X W a ea) (hb : XB X W b eb) (hm : behindInMarks (copOf o) b = false) : XT X W (.Compare a [copOf o] [b] pos) (fun env c => truthR ((ea env c).bind fun x c => (eb env c).bind fun y c => pureR (cmpop o x y) c)) :=
  pt_weak (pt_cmpR (op_cmp hu o) ha hb hm) fun σ H Q h => by
    have h' := t_tru (ea := fun env c => (ea env c).bind fun x c => (eb env c).bind fun y c => pureR (cmpop o x y) c) h
    refine h'.two.mono fun x g1 c1 H1 k v cv => ?_
    refine k.mono fun y g2 c2 H2 ⟨p2, _, h2, k2⟩ w cw => ?_
    obtain ⟨z, ez, kz⟩ := k2.pure
    refine ⟨g2, c2, x, y, z, h2, cv.pres p2, cw, ez, fun g' H' u p' h' ru => ?_⟩
    obtain ⟨b, eb, _, kk⟩ := kz g' H' p' h'
    obtain ⟨b', rfl⟩ := cmpop_bl ez
    cases eb
    cases ru
    exact ⟨_, rfl, kk⟩
/-- a <= b <= d -/
def chainR (ea eb ed : Ev) : Ev := fun env c => (ea env c).bind fun x c => (eb env c).bind fun y c => match cmpop .le x y with
    | some (.bl true) => (ed env c).bind fun z c => pureR (cmpop .le y z) c
    | some (.bl false) => .ok (.bl false) c
    | _ => .stuck
theorem chain_read {T : Wd} {mg : MG} {σ : L2.St} {H : Hp} {Q : V → Hp → Prop} {K : PV → Gh → List PV → Hp → Prop} (hk : ∀ b g' c' H', HR T g' c' H' → K (.bl b) g' c' H' → Q (.bl b) H') (h : tR T mg W (chainR ea eb ed) K σ H) :
    tChain (rB T (cmpop .le)) (rB T (cmpop .le)) (tEb T mg W ea) (tEb T mg W eb) (tEb T mg W ed) σ H Q := by
  obtain ⟨g, env, c, B, er, hr, gd⟩ := h
  refine ⟨g, env, c, B, er, hr, gd.bind.mono fun x g1 c1 H1 p1 h1 k1 v cv => ?_⟩
  refine ⟨g1, env, c1, B, er.pres p1, h1, k1.bind.mono fun y g2 c2 H2 p2 h2 k2 w cw => ?_⟩
  cases hz : cmpop .le x y with
  | none => rw [hz] at k2; exact k2.elim
  | some z =>
    rw [hz] at k2
    obtain ⟨b, rfl⟩ := cmpop_bl hz
    refine ⟨g2, c2, x, y, .bl b, h2, cv.pres p2, cw, hz, fun g3 H3 u p3 h3 ru => ?_⟩
    cases ru
    refine ⟨b, rfl, ?_⟩
    cases b with
    | false => exact hk _ g3 c2 H3 h3 (k2 g3 H3 p3 h3)
    | true =>
      rw [if_pos rfl]
      refine ⟨g3, env, c2, B, ((er.pres p1).pres p2).pres p3, h3, ((k2.pres p3).bind).mono fun z' g4 c4 H4 p4 h4 k4 w' cw' => ?_⟩
      obtain ⟨q, eq, kq⟩ := k4.pure
      refine ⟨g4, c4, y, z', q, h4, (cw.pres p3).pres p4, cw', eq, fun g5 H5 u5 p5 h5 ru5 => ?_⟩
      obtain ⟨b5, rfl⟩ := cmpop_bl eq
      cases ru5
      exact hk _ g5 c4 H5 h5 (kq g5 H5 p5 h5)
theorem x_chain (hu : X.A.units + 70 < cLine) (ha : XB X W a ea) (hb : XB X W b eb) (hd : XB X W d ed) (hm : lastMarks [.LtE, .LtE] [b, d] = false) : XE' X W (.Compare a [.LtE, .LtE] [b, d] pos) (chainR ea eb ed) :=
  pe_weak (pe_chain (op_cmp hu .le) (op_cmp hu .le) ha hb hd hm) fun σ H Q h => chain_read (fun b g' c' H' h' k => k _ (.bl b)) h
theorem xt_chain (hu : X.A.units + 70 < cLine) (ha : XB X W a ea) (hb : XB X W b eb) (hd : XB X W d ed) (hm : lastMarks [.LtE, .LtE] [b, d] = false) : XT X W (.Compare a [.LtE, .LtE] [b, d] pos) (fun env c => truthR (chainR ea eb ed env c)) :=
  pt_weak (pt_chain (op_cmp hu .le) (op_cmp hu .le) ha hb hd hm) fun σ H Q h => chain_read (fun b g' c' H' h' ⟨b', e1, _, k⟩ => by cases e1; exact ⟨_, rfl, k⟩) (t_tru (ea := chainR ea eb ed) h)
/-! ### and, or -/
def andR (ea eb : Ev) : Ev := fun env c => (ea env c).bind fun x c => match truth x with
    | some true => eb env c
    | some false => .ok x c
    | none => .stuck
def orR (ea eb : Ev) : Ev := fun env c => (ea env c).bind fun x c => match truth x with
    | some true => .ok x c
    | some false => eb env c
    | none => .stuck
theorem xt_and1 (ha : XT X W a et) : L2.PW X (.BoolOp .And [a] pos) (tT (wd X) X.mg W et) := pw_and1 ha
theorem xt_or1 (ha : XT X W a et) : L2.PW X (.BoolOp .Or [a] pos) (tT (wd X) X.mg W et) := pw_or1 ha
theorem pw_weak {t t' : TT} (h : L2.PW X e t) (w : ∀ σ H Q, t' σ H Q → t σ H Q) : L2.PW X e t' := ⟨fun wh pins s σ H Q I q => h.run wh pins s σ H Q I (w σ H Q q)⟩
theorem xt_and (ha : XT X W a (fun env c => truthR (ea env c))) (hb : L2.PW X (.BoolOp .And (b :: rest) pos) (tT (wd X) X.mg W fun env c => truthR (eb env c))) :
    L2.PW X (.BoolOp .And (a :: b :: rest) pos) (tT (wd X) X.mg W fun env c => truthR (andR ea eb env c)) :=
  pw_weak (pw_and ha hb) fun σ H Q h => by
    obtain ⟨g, env, c, B, er, hr, gd⟩ := h
    refine ⟨g, env, c, B, er, hr, ?_⟩
    have gd : GoodR (wd X) X.mg W g H σ (fun b _ _ H' => Q b H') (truthR (andR ea eb env c)) := gd
    show GoodR (wd X) X.mg W g H σ _ (truthR (ea env c))
    unfold truthR andR at gd
    unfold truthR
    cases hx : ea env c with
    | stuck => rw [hx] at gd; exact gd
    | exc cl arg c1 => rw [hx] at gd; exact gd
    | ok p c1 =>
      rw [hx] at gd
      simp only [R.bind_ok] at gd ⊢
      cases hp : truth p with
      | none => rw [hp] at gd; exact gd
      | some k =>
        rw [hp] at gd
        intro g1 H1 p1 h1
        cases k with
        | true => exact ⟨g1, env, c1, B, er.pres p1, h1, gd.pres p1⟩
        | false =>
          simp only [R.bind_ok, hp] at gd
          exact gd g1 H1 p1 h1
theorem xt_or (ha : XT X W a (fun env c => truthR (ea env c))) (hb : L2.PW X (.BoolOp .Or (b :: rest) pos) (tT (wd X) X.mg W fun env c => truthR (eb env c))) :
    L2.PW X (.BoolOp .Or (a :: b :: rest) pos) (tT (wd X) X.mg W fun env c => truthR (orR ea eb env c)) :=
  pw_weak (pw_or ha hb) fun σ H Q h => by
    obtain ⟨g, env, c, B, er, hr, gd⟩ := h
    refine ⟨g, env, c, B, er, hr, ?_⟩
    have gd : GoodR (wd X) X.mg W g H σ (fun b _ _ H' => Q b H') (truthR (orR ea eb env c)) := gd
    show GoodR (wd X) X.mg W g H σ _ (truthR (ea env c))
    unfold truthR orR at gd
    unfold truthR
    cases hx : ea env c with
    | stuck => rw [hx] at gd; exact gd
    | exc cl arg c1 => rw [hx] at gd; exact gd
    | ok p c1 =>
      rw [hx] at gd
      simp only [R.bind_ok] at gd ⊢
      cases hp : truth p with
      | none => rw [hp] at gd; exact gd
      | some k =>
        rw [hp] at gd
        intro g1 H1 p1 h1
        cases k with
        | false => exact ⟨g1, env, c1, B, er.pres p1, h1, gd.pres p1⟩
        | true =>
          simp only [R.bind_ok, hp] at gd
          exact gd g1 H1 p1 h1
theorem x_and (ha : XE' X W a ea) (hb : XE' X W (.BoolOp .And (b :: rest) pos) eb) : XE' X W (.BoolOp .And (a :: b :: rest) pos) (andR ea eb) :=
  pe_weak (pe_andT ha hb) fun σ H Q h => by
    obtain ⟨g, env, c, B, er, hr, gd⟩ := h
    refine ⟨g, env, c, B, er, hr, gd.bind.mono fun p g1 c1 H1 p1 h1 k1 v rv => ?_⟩
    cases hp : truth p with
    | none => rw [hp] at k1; exact k1.elim
    | some k =>
      rw [hp] at k1
      refine ⟨k, tru_pv h1 (.inl rv) hp, ?_⟩
      cases k with
      | true => exact ⟨g1, env, c1, B, er.pres p1, h1, k1⟩
      | false => exact k1 g1 H1 Pres.refl h1 v rv
theorem x_or (ha : XE' X W a ea) (hb : XE' X W (.BoolOp .Or (b :: rest) pos) eb) : XE' X W (.BoolOp .Or (a :: b :: rest) pos) (orR ea eb) :=
  pe_weak (pe_orT ha hb) fun σ H Q h => by
    obtain ⟨g, env, c, B, er, hr, gd⟩ := h
    refine ⟨g, env, c, B, er, hr, gd.bind.mono fun p g1 c1 H1 p1 h1 k1 v rv => ?_⟩
    cases hp : truth p with
    | none => rw [hp] at k1; exact k1.elim
    | some k =>
      rw [hp] at k1
      refine ⟨k, tru_pv h1 (.inl rv) hp, ?_⟩
      cases k with
      | false => exact ⟨g1, env, c1, B, er.pres p1, h1, k1⟩
      | true => exact k1 g1 H1 Pres.refl h1 v rv
theorem x_one {op} (ha : XE' X W a ea) : XE' X W (.BoolOp op [a] pos) ea := pe_one ha
theorem x_nt (ha : XB X W a ea) : XE' X W (.UnaryOp .Not a pos) (fun env c => (truthR (ea env c)).bind fun b c => .ok (.bl (!b)) c) :=
  pe_weak (pe_notT ha) fun σ H Q h => by
    have h1 := tR.one (α := Bool) (γ := PV) (ea := fun env c => truthR (ea env c)) (f := fun b c => R.ok (PV.bl (!b)) c) (K := fun p g' _ H' => ∀ v, Rp (wd X) g' v p → Q v H') h
    refine (t_tru h1).mono fun p g1 c1 H1 ⟨b, e1, h1, h2, _, k⟩ v cv => ⟨b, tru_pv h1 cv e1, k g1 H1 Pres.refl h1 _ (.bl _)⟩
/-! ### lists of expressions, displays -/
theorem xa_nil : XA X W [] (fun _ c => .ok [] c) := pa_weak pa_nil fun σ H Q h => by
  obtain ⟨g, env, c, B, er, hr, gd⟩ := h
  exact gd g H Pres.refl hr [] .nil
theorem RpL.ext' {T : Wd} {g g' : Gh} {vs : List V} {ps : List PV} (r : RpL T g vs ps) (x : Ext g g') : RpL T g' vs ps := RpL.ext x r
theorem xa_cons {er : Env → List PV → R (List PV)} (ha : XE' X W e ev) (hr : XA X W es er) (hs : starEach (e :: es) X.env = (false, eval e X.env) :: starEach es X.env) :
    XA X W (e :: es) (fun env c => (ev env c).bind fun x c => (er env c).bind fun xs c => .ok (x :: xs) c) :=
  pa_weak (pa_cons ha hr hs) fun σ H Q h => h.two.mono fun x g1 c1 H1 k v rv => k.mono fun xs g2 c2 H2 ⟨p2, _, h2, k2⟩ vs rvs => k2 g2 H2 Pres.refl h2 _ (.cons (rv.ext p2.ext) rvs)
theorem CtL.pres {T : Wd} {g g' : Gh} {H H' : Hp} (x : Pres g H g' H') : ∀ {vs : List V} {ps : List PV}, CtL T g H vs ps → CtL T g' H' vs ps
  | _, _, .nil => .nil
  | _, _, .cons a b => .cons (a.pres x) (CtL.pres x b)
theorem xab_nil : XAb X W [] (fun _ c => .ok [] c) := xa_nil.bor
theorem xab_cons {er : Env → List PV → R (List PV)} (ha : XB X W e ev) (hr : XAb X W es er) (hs : starEach (e :: es) X.env = (false, eval e X.env) :: starEach es X.env) :
    XAb X W (e :: es) (fun env c => (ev env c).bind fun x c => (er env c).bind fun xs c => .ok (x :: xs) c) :=
  pa_weak (pa_cons ha hr hs) fun σ H Q h => h.two.mono fun x g1 c1 H1 k v rv => k.mono fun xs g2 c2 H2 ⟨p2, _, h2, k2⟩ vs rvs => k2 g2 H2 Pres.refl h2 _ (.cons (rv.pres p2) rvs)
theorem x_tup {x1} {er : Env → List PV → R (List PV)} (h : XA X W es er) : XE' X W (.Tuple es x1 pos) (fun env c => (er env c).bind fun xs c => pureR (mkTup xs) c) :=
  pe_weak (pe_tup h) fun σ H Q q => q.one.mono fun ps g1 c1 H1 ⟨h1, _, k⟩ vs rv => by
    obtain ⟨z, ez, kz⟩ := k.pure
    unfold mkTup at ez
    split at ez <;> cases ez
    rename_i hl
    exact ⟨by rw [rv.length, lim_eq]; exact hl, Fin.newT (T := wd X) (c := c1) (fun g' H' v p' h' r => kz g' H' p' h' v r) h1 rv⟩
theorem x_lstO {er : Env → List PV → R (List PV)} (h : XA X W es er) : XO X W (.List es pos) (fun env c => (er env c).bind fun xs c => pureR (mkLst xs) c) :=
  pe_weak (pe_lst h) fun σ H Q q => q.one.mono fun ps g1 c1 H1 ⟨h1, d1, k⟩ vs rv => by
    obtain ⟨z, ez, kz⟩ := k.pure
    unfold mkLst at ez
    split at ez <;> cases ez
    rename_i hl
    exact ⟨by rw [rv.length, lim_eq]; exact hl, FinO.newL (T := wd X) (c := c1) (fun g' H' a p' h' na nf nc o => kz g' H' p' h' a (d1 a na) nf nc o) h1 rv⟩
/-! ### subscripts, slices -/
theorem tR.opc {T : Wd} {mg : MG} {f : PV → PV → List PV → Option PV} {σ : L2.St} {H : Hp} {Q : VK} (r : R2)
    (h : tE T mg W (fun env c => (ea env c).bind fun x c => (eb env c).bind fun y c => pureR (f x y c) c) σ H Q)
    (hr : ∀ x y H Q g c p q z, HR T g c H → Ct T g H x p → Ct T g H y q → f p q c = some z → Fin T g H c Q z → r x y H Q) : tOp r (tEb T mg W ea) (tEb T mg W eb) σ H Q := tR.op r h rfl rfl hr
theorem x_ix (hu : X.A.units + 70 < cLine) (ha : XB X W a ea) (hb : XB X W b eb) (hs : PlainIx b) : XE' X W (.Subscript a b pos) (fun env c => (ea env c).bind fun x c => (eb env c).bind fun y c => pureR (item x y c) c) :=
  pe_weak (pe_ix (ix_pv hu) ha hb hs) fun σ H Q h => tR.opc (f := item) _ h fun x y H Q g c p q z h1 h2 h3 h4 h5 => ⟨g, c, p, q, z, h1, h2, h3, h4, h5⟩
end
/-! ### the parts of a slice -/
abbrev EvO := Env → List PV → R (Option Int)
def tPO (T : Wd) (mg : MG) (W : WX) (ev : EvO) : TO := fun σ H Q => tR T mg W ev (fun o _ _ H' => Q o H') σ H
abbrev XP (X : Cx) (W : WX) (e : Option Expr) (ev : EvO) : Prop := L2.PO X e (tPO (wd X) X.mg W ev)
section
variable {X : Cx} {W : WX} {e a b d : Expr} {es : List Expr} {ev ea eb ed : Ev} {pos p2 : Pos} {lo hi : Option Expr} {el eh : EvO}
theorem po_weak {e : Option Expr} {t t' : TO} (h : L2.PO X e t) (w : ∀ σ H Q, t' σ H Q → t σ H Q) : L2.PO X e t' := ⟨fun pins s σ H Q I q => h.run pins s σ H Q I (w σ H Q q)⟩
theorem xp_none : XP X W none (fun _ c => .ok none c) := po_weak po_none fun σ H Q h => by
  obtain ⟨g, env, c, B, er, hr, gd⟩ := h
  exact gd g H Pres.refl hr
theorem xp_some (h : XB X W e ev) : XP X W (some e) (fun env c => (ev env c).bind fun x c => match x with
    | .int i => .ok (some i) c
    | _ => .stuck) := po_weak (po_some h) fun σ H Q q => q.one.mono fun x g1 c1 H1 ⟨h1, _, k⟩ v cv => by
  cases x with
  | int i => exact ⟨i, cv.int, k g1 H1 Pres.refl h1⟩
  | _ => exact k.elim
theorem sl_read {T : Wd} {mg : MG} {K : PV → Gh → List PV → Hp → Prop} {σ : L2.St} {H : Hp} {R2' : V → Option Int → Option Int → Hp → Prop}
    (h : tR T mg W (fun env c => (ea env c).bind fun x c => (el env c).bind fun l c => (eh env c).bind fun h c => pureR (slice x l h) c) K σ H)
    (hr : ∀ x l u H2 g c p z, HR T g c H2 → Ct T g H2 x p → slice p l u = some z → (∀ a, Nt H2 a → Nt H a) → (∀ g' H', Pres g H2 g' H' → HR T g' c H' → K z g' c H') → R2' x l u H2) :
    tEb T mg W ea σ H (fun x H1 => tPO T mg W el σ H1 fun l H2 => tPO T mg W eh σ H2 fun u H3 => R2' x l u H3) := by
  obtain ⟨g, env, c, B, er, h0, gd⟩ := h
  refine ⟨g, env, c, B, er, h0, gd.bind.mono fun x g1 c1 H1 p1 h1 k1 v cv => ?_⟩
  refine ⟨g1, env, c1, B, er.pres p1, h1, k1.bind.mono fun l g2 c2 H2 p2 h2 k2 => ?_⟩
  refine ⟨g2, env, c2, B, (er.pres p1).pres p2, h2, k2.bind.mono fun u g3 c3 H3 p3 h3 k3 => ?_⟩
  obtain ⟨z, ez, kz⟩ := k3.pure
  exact hr v l u H3 g3 c3 x z h3 ((cv.pres p2).pres p3) ez (fun a na => p1.dead (p2.dead (p3.dead na))) kz
theorem x_sl (ha : XB X W a ea) (hl : XP X W lo el) (hh : XP X W hi eh) : XE' X W (.Subscript a (.Slice lo hi none p2) pos) (fun env c => (ea env c).bind fun x c => (el env c).bind fun l c => (eh env c).bind fun h c => pureR (slice x l h) c) :=
  pe_weak (pe_slice sl_pv ha hl hh) fun σ H Q h => sl_read h fun x l u H2 g c p z h1 h2 h3 _ h5 => ⟨g, c, p, z, h1, h2, h3, fun g' H' v p' h' r => h5 g' H' p' h' v r⟩
theorem slice_own {p z : PV} {l u : Option Int} (h : slice p l u = some z) (hz : isOwn z = true) : isLst z = true := by
  unfold slice at h
  split at h <;> cases h <;> first | rfl | cases hz
theorem x_slO (ha : XB X W a ea) (hl : XP X W lo el) (hh : XP X W hi eh) : XO X W (.Subscript a (.Slice lo hi none p2) pos) (fun env c => ((ea env c).bind fun x c => (el env c).bind fun l c => (eh env c).bind fun h c => pureR (slice x l h) c).bind fun z c => pureR (ownO (some z)) c) :=
  pe_weak (pe_slice sl_pvO ha hl hh) fun σ H Q h => by
    have h1 := tR.one (f := fun z c => pureR (ownO (some z)) c) h
    refine sl_read h1 fun x l u H2 g c p z h1 h2 h3 hd h5 => ⟨g, c, p, z, h1, h2, h3, ?_, fun g' H' a p' h' na nf nc o => ?_⟩
    · obtain ⟨_, _, k⟩ := h5 g H2 Pres.refl h1
      obtain ⟨y, ey, _⟩ := k.pure
      have q := ownO_some ey
      cases q.1
      exact slice_own h3 q.2
    · obtain ⟨_, _, k⟩ := h5 g' H' p' h'
      obtain ⟨y, ey, ky⟩ := k.pure
      cases (ownO_some ey).1
      exact ky g' H' Pres.refl h' a (hd a na) nf nc o
end
end PP

set_option Elab.async false
set_option linter.all false
set_option maxRecDepth 100000
/-! PP9: calls of built-ins, methods. -/
namespace PP
open PySem PySem.Spec PyProof.Rows L2

def notStar : Expr → Bool
  | .Starred _ _ => false
  | _ => true
theorem star_cons {e : Expr} {es : List Expr} {env : PySem.Env} (h : notStar e = true) : starEach (e :: es) env = (false, eval e env) :: starEach es env := by
  cases e <;> first | rfl | cases h
theorem star_map {env : PySem.Env} : ∀ {es : List Expr}, es.all notStar = true → starEach es env = es.map fun e => (false, eval e env)
  | [], _ => rfl
  | e :: es, h => by
    rw [List.all_cons, Bool.and_eq_true] at h
    rw [star_cons h.1, star_map h.2]; rfl
theorem star_any {pos : Pos} {es : List Expr} {env : PySem.Env} (h : es.all notStar = true) : (backTo pos (starEach es env)).any (·.1) = false := by
  rw [star_map h]
  unfold backTo
  rw [List.map_map, List.any_map]
  simp
def ownG (ev : Ev) : Ev := fun env c => (ev env c).bind fun z c => pureR (ownO (some z)) c
section
variable {X : Cx} {W : WX} {e a b d : Expr} {es : List Expr} {ev ea eb ed : Ev} {ex : Env → List PV → R (List PV)} {pos p p2 : Pos} {x : Str} {id : String} {f : List PV → Option PV}
theorem XO.g (h : XO X W e ev) : XO X W e (ownG ev) := pe_weak h fun σ H Q q => by
  obtain ⟨g, env, c, B, er, hr, gd⟩ := q
  refine ⟨g, env, c, B, er, hr, ?_⟩
  have gd : GoodR (wd X) X.mg W g H σ _ (ownG ev env c) := gd
  unfold ownG at gd
  cases hx : ev env c with
  | ok z c1 =>
    rw [hx] at gd
    obtain ⟨y, ey, ky⟩ := GoodR.pure (o := ownO (some z)) gd
    cases (ownO_some ey).1
    exact ky
  | exc cl arg c1 => rw [hx] at gd; exact gd
  | stuck => rw [hx] at gd; exact gd
theorem XO.as {ev' : Ev} (h : XO X W e ev) (q : ev = ev') : XO X W e ev' := q ▸ h
theorem tCB_read {ev : Env → List PV → R (List PV)} {mg : MG} {T : Wd} {σ : L2.St} {H : Hp} {Q : VK} (h : tE T mg W (fun env c => (ev env c).bind fun xs c => pureR (f xs) c) σ H Q) : tCB (rC T f) (tAb T mg W ev) σ H Q :=
  h.one.mono fun ps g1 c1 H1 ⟨h1, _, k⟩ vs cv => by
    obtain ⟨z, ez, kz⟩ := k.pure
    exact ⟨g1, c1, ps, z, h1, cv, ez, fun g' H' v p' h' r => kz g' H' p' h' v r⟩
theorem tCB_readO {ev : Env → List PV → R (List PV)} {mg : MG} {T : Wd} {σ : L2.St} {H : Hp} {Q : VK} (h : tO T mg W (fun env c => (ev env c).bind fun xs c => pureR (f xs) c) σ H Q) : tCB (rCO T f) (tAb T mg W ev) σ H Q :=
  h.one.mono fun ps g1 c1 H1 ⟨h1, d1, k⟩ vs cv => by
    obtain ⟨z, ez, kz⟩ := k.pure
    exact ⟨g1, c1, ps, z, h1, cv, ez, fun g' H' a p' h' na nf nc o => kz g' H' p' h' a (d1 a na) nf nc o⟩
structure BOk (X : Cx) (x : Str) : Prop where
  gl : Gl X x
  no : X.mg x = none
  nn : x ≠ "__name__"
  nd : (x == ("__debug__" : Str)) = false
theorem x_callB (hb : CallR X (.builtin id) (rC (wd X) f)) (k : BOk X x) (hv : bootBuiltins x = some (.builtin id)) (ha : XAb X W (e :: es) ex) (hs : (e :: es).all notStar = true) :
    XE' X W (.Call (.Name x p) (e :: es) [] pos) (fun env c => (ex env c).bind fun xs c => pureR (f xs) c) := by
  have hs' := hs
  rw [List.all_cons, Bool.and_eq_true] at hs'
  exact pe_weak (pe_callB hb k.gl k.no hv ha k.nn k.nd (star_cons hs'.1) (star_any hs'.2)) fun σ H Q h => tCB_read h
theorem x_callTy {T : String} (hb : CallR X (.type T) (rC (wd X) f)) (k : BOk X x) (hv : bootBuiltins x = some (.type T)) (ha : XAb X W (e :: es) ex) (hs : (e :: es).all notStar = true) :
    XE' X W (.Call (.Name x p) (e :: es) [] pos) (fun env c => (ex env c).bind fun xs c => pureR (f xs) c) := by
  have hs' := hs
  rw [List.all_cons, Bool.and_eq_true] at hs'
  exact pe_weak (pe_callTy hb k.gl k.no hv ha k.nn k.nd (star_cons hs'.1) (star_any hs'.2)) fun σ H Q h => tCB_read h
theorem x_callTyO {T : String} (hb : CallR X (.type T) (rCO (wd X) f)) (k : BOk X x) (hv : bootBuiltins x = some (.type T)) (ha : XAb X W (e :: es) ex) (hs : (e :: es).all notStar = true) :
    XO X W (.Call (.Name x p) (e :: es) [] pos) (fun env c => (ex env c).bind fun xs c => pureR (f xs) c) := by
  have hs' := hs
  rw [List.all_cons, Bool.and_eq_true] at hs'
  exact pe_weak (pe_callTy hb k.gl k.no hv ha k.nn k.nd (star_cons hs'.1) (star_any hs'.2)) fun σ H Q h => tCB_readO h
/-! ### range(a, b), kept -/
theorem b_rgO {X : Cx} : CallR X (.type "range") (rC (wd X) (bltop .rgO)) := by
  intro pins s σ H vs us Q I r h
  obtain ⟨g, c, ps, z, hr, cx, e, fin⟩ := h
  have hps : ∃ i j, ps = [.int i, .int j] ∧ z = .rg i j := by
    unfold bltop at e
    split at e <;> first | (cases e; done) | skip
    all_goals first | contradiction | skip
    split at e <;> cases e
    exact ⟨_, _, rfl, rfl⟩
  obtain ⟨i, j, rfl, rfl⟩ := hps
  obtain ⟨v, w, rfl, cv, cw⟩ := cx.two
  rw [cv.int, cw.int] at r
  refine cr_range2 pins s σ H _ us Q I r ⟨i, j, rfl, fun p n => ?_⟩
  obtain ⟨x, h'⟩ := hr.alloc (o := .rng i j) n
  exact fin _ _ _ x h' (.rg upd_same)
/-! ### list(range(..)), tuple(range(..)) -/
def b1 (b : Blt) (ea : Ev) : Ev := fun env c => ((ea env c).bind fun x c => .ok [x] c).bind fun xs c => pureR (bltop b xs) c
def b2 (b : Blt) (ea eb : Ev) : Ev := fun env c => ((ea env c).bind fun x c => (eb env c).bind fun y c => .ok [x, y] c).bind fun xs c => pureR (bltop b xs) c
theorem rg_ok {a b : Int} (h : (okR a && okR b && decide (b - a ≤ 16777216)) = true) : RgOk a b := by
  unfold okR at h
  simp only [Bool.and_eq_true, decide_eq_true_eq] at h
  exact ⟨by omega, by omega, by omega, by omega, by omega⟩
theorem x_listRg1 (hc : X.calm = true) (k : BOk X "list") (kr : BOk X "range") (ha : XB X W a ea) (hs : notStar a = true) : XO X W (.Call (.Name "list" p) [.Call (.Name "range" p2) [a] [] pos] [] pos') (b1 .listRange1 ea) :=
  pe_weak (pe_listRg hc k.gl k.no (prg_1 kr.gl kr.no ha (star_cons hs))) fun σ H Q h => by
    have h' := tR.one (f := fun xs c => pureR (bltop .listRange1 xs) c) h
    refine (tR.one h').mono fun x g1 c1 H1 ⟨h1, d1, k1⟩ v cv => ?_
    obtain ⟨_, d2, k2⟩ := k1 g1 H1 Pres.refl h1
    obtain ⟨z, ez, kz⟩ := k2.pure
    cases x with
    | int n =>
      rw [bltop] at ez
      split at ez <;> cases ez
      rename_i hk
      refine ⟨n, cv.int, rg_ok (a := 0) (by rw [Bool.and_eq_true] at hk; rw [Bool.and_eq_true, Bool.and_eq_true, show (n - 0 : Int) = n by omega]; exact ⟨⟨by decide, hk.1⟩, hk.2⟩), FinO.newL (T := wd X) (c := c1) (fun g' H' a p' h' na nf nc o => kz g' H' p' h' a (d1 a na) nf nc o) h1 (RpL.rng _ _)⟩
    | _ => cases ez
theorem x_listRg2 (hc : X.calm = true) (k : BOk X "list") (kr : BOk X "range") (ha : XB X W a ea) (hb : XB X W b eb) (hs : notStar a = true) (hs2 : notStar b = true) : XO X W (.Call (.Name "list" p) [.Call (.Name "range" p2) [a, b] [] pos] [] pos') (b2 .listRange2 ea eb) :=
  pe_weak (pe_listRg hc k.gl k.no (prg_2 kr.gl kr.no ha hb (star_cons hs) (nb := star_cons hs2) (hp := star_any (by simp [hs2])))) fun σ H Q h => by
    have h' := tR.one (f := fun xs c => pureR (bltop .listRange2 xs) c) h
    refine (tR.two h').mono fun x g1 c1 H1 k1 v cv => k1.mono fun y g2 c2 H2 ⟨p2, d2, h2, k2⟩ w cw => ?_
    obtain ⟨_, _, k3⟩ := k2 g2 H2 Pres.refl h2
    obtain ⟨z, ez, kz⟩ := k3.pure
    unfold bltop at ez
    split at ez <;> first | (cases ez; done) | skip
    all_goals first | contradiction | skip
    rename_i hq
    cases hq
    split at ez <;> cases ez
    rename_i hk
    exact ⟨_, _, (cv.pres p2).int, cw.int, rg_ok hk, FinO.newL (T := wd X) (c := c2) (fun g' H' a p' h' na nf nc o => kz g' H' p' h' a (d2 a na) nf nc o) h2 (RpL.rng _ _)⟩
theorem x_tupRg1 (hc : X.calm = true) (k : BOk X "tuple") (kr : BOk X "range") (ha : XB X W a ea) (hs : notStar a = true) : XE' X W (.Call (.Name "tuple" p) [.Call (.Name "range" p2) [a] [] pos] [] pos') (b1 .tupRange1 ea) :=
  pe_weak (pe_tupRg hc k.gl k.no (prg_1 kr.gl kr.no ha (star_cons hs))) fun σ H Q h => by
    have h' := tR.one (f := fun xs c => pureR (bltop .tupRange1 xs) c) h
    refine (tR.one h').mono fun x g1 c1 H1 ⟨h1, d1, k1⟩ v cv => ?_
    obtain ⟨_, d2, k2⟩ := k1 g1 H1 Pres.refl h1
    obtain ⟨z, ez, kz⟩ := k2.pure
    cases x with
    | int n =>
      rw [bltop] at ez
      split at ez <;> cases ez
      rename_i hk
      refine ⟨n, cv.int, rg_ok (a := 0) (by rw [Bool.and_eq_true] at hk; rw [Bool.and_eq_true, Bool.and_eq_true, show (n - 0 : Int) = n by omega]; exact ⟨⟨by decide, hk.1⟩, hk.2⟩), Fin.newT (T := wd X) (c := c1) (fun g' H' v p' h' r => kz g' H' p' h' v r) h1 (RpL.rng _ _)⟩
    | _ => cases ez
theorem x_tupRg2 (hc : X.calm = true) (k : BOk X "tuple") (kr : BOk X "range") (ha : XB X W a ea) (hb : XB X W b eb) (hs : notStar a = true) (hs2 : notStar b = true) : XE' X W (.Call (.Name "tuple" p) [.Call (.Name "range" p2) [a, b] [] pos] [] pos') (b2 .tupRange2 ea eb) :=
  pe_weak (pe_tupRg hc k.gl k.no (prg_2 kr.gl kr.no ha hb (star_cons hs) (nb := star_cons hs2) (hp := star_any (by simp [hs2])))) fun σ H Q h => by
    have h' := tR.one (f := fun xs c => pureR (bltop .tupRange2 xs) c) h
    refine (tR.two h').mono fun x g1 c1 H1 k1 v cv => k1.mono fun y g2 c2 H2 ⟨p2, d2, h2, k2⟩ w cw => ?_
    obtain ⟨_, _, k3⟩ := k2 g2 H2 Pres.refl h2
    obtain ⟨z, ez, kz⟩ := k3.pure
    unfold bltop at ez
    split at ez <;> first | (cases ez; done) | skip
    all_goals first | contradiction | skip
    rename_i hq
    cases hq
    split at ez <;> cases ez
    rename_i hk
    exact ⟨_, _, (cv.pres p2).int, cw.int, rg_ok hk, Fin.newT (T := wd X) (c := c2) (fun g' H' v p' h' r => kz g' H' p' h' v r) h2 (RpL.rng _ _)⟩
/-! ### isinstance -/
def tyS : Ty → String
  | .int => "int"
  | .bool => "bool"
  | .str => "str"
  | .tuple => "tuple"
  | .list => "list"
  | .dict => "dict"
def tyN (t : Ty) : Str := tyS t
theorem boot_ty (t : Ty) : bootBuiltins (tyN t) = some (.type (tyS t)) := by cases t <;> decide +kernel
theorem Ct.ty {T : Wd} {g : Gh} {H : Hp} {c : List PV} {v : V} {q : PV} (h : HR T g c H) (x : Ct T g H v q) (t : Ty) (r : Bool) (hr : isTy t q = some r) : ∃ n, TyX T.K H v (.type n) ∧ kitB n (tyS t) = some r := by
  have sqt : ∀ a vs, SqT T.K H a vs → TyX T.K H (.ref a) (.type "tuple") := fun a vs z => by
    rcases z with (z | ⟨o, z⟩) | ⟨o, its, n, z, zc, _⟩
    · exact .base (.tup z)
    · exact .fTuple z
    · exact .kTuple z zc
  cases q with
  | non => cases x.non; exact ⟨_, .base .non, by cases t <;> cases hr <;> decide +kernel⟩
  | bl b => cases x.bl; exact ⟨_, .base (.bl b), by cases t <;> cases hr <;> decide +kernel⟩
  | int b => cases x.int; exact ⟨_, .base (.int b), by cases t <;> cases hr <;> decide +kernel⟩
  | str b => cases x.str; exact ⟨_, .base (.str b), by cases t <;> cases hr <;> decide +kernel⟩
  | tup ps =>
    obtain ⟨a, vs, rfl, e, _⟩ := x.tup h
    exact ⟨_, sqt a vs e, by cases t <;> cases hr <;> decide +kernel⟩
  | lst ps =>
    obtain ⟨a, vs, rfl, e, _⟩ := x.lst h
    exact ⟨_, .base (.lst e), by cases t <;> cases hr <;> decide +kernel⟩
  | dic k => cases t <;> cases hr
  | dki k vs => cases t <;> cases hr
  | cup => cases t <;> cases hr
  | scr ns => cases t <;> cases hr
  | rg _ _ => cases t <;> cases hr
  | fnv _ => cases t <;> cases hr
theorem x_isin (t : Ty) (k : BOk X "isinstance") (kt : BOk X (tyN t)) (ha : XB X W a ea) (hs : notStar a = true) : XE' X W (.Call (.Name "isinstance" p) [a, .Name (tyN t) p2] [] pos) (fun env c => (ea env c).bind fun x c => pureR (blV (isTy t x)) c) := by
  refine pe_weak (pe_callB call_isi k.gl k.no (by decide +kernel) (pa_cons ha (pa_cons (pe_bltn (v := .ty (tyS t)) kt.gl kt.no (boot_ty t) rfl kt.nn kt.nd) pa_nil rfl) (star_cons hs)) k.nn k.nd (star_cons hs) rfl) fun σ H Q h => ?_
  refine h.one.mono fun x g1 c1 H1 ⟨h1, _, k1⟩ v cv => ?_
  obtain ⟨z, ez, kz⟩ := k1.pure
  cases hq : isTy t x with
  | none => rw [hq] at ez; cases ez
  | some r =>
    rw [hq] at ez; cases ez
    obtain ⟨n, h2, h3⟩ := cv.ty h1 t r hq
    exact ⟨v, .ty (tyS t), .type n, .type (tyS t), r, rfl, .ty _, h2, kit_ty h3, kz g1 H1 Pres.refl h1 _ (.bl r)⟩
end
end PP

set_option Elab.async false
set_option linter.all false
set_option maxRecDepth 100000
/-! PP6: sets of a tuple's items; more built-ins. -/
namespace PP
open PySem PySem.Spec PyProof.Rows L2

abbrev newSet (w : World) : Obj := { cls := .type "set", dict := none, data := .set #[] 0 (.fresh 0 0 (!w.params.followText "set-order")) }
def itT (t : Addr) : Obj := { cls := .type "tuple_iterator", data := .fields #[.ref t, .int 0 0] }
section
variable {prog : Program} {w : World} {A : Around} {E : Value → Shared → Prop} {s : Shared}
set_option maxHeartbeats 2000000 in
/-- set(t) of a tuple, by what its loop leaves -/
theorem set_tup {t : Addr} {its : Array Value} {Q : Value → Shared → Prop} {G : Heap → Prop} (hh : A.handled = none) (ht : s.heap.IsTuple t its)
    (loop : ∀ (R : Result → Shared → Prop) (I : Addr) (s1 : Shared),
      WalksS prog w A.in1.in1.in1 I [I, t] [I] (fun a b => b = a) its.size (fun i v => its[i]? = some v) (fun i s => s.heap.IsTupleIter I t i ∧ s.heap.IsTuple t its) →
      s.heap.objs.size ∉ [I, t] → (s1.heap.IsTupleIter I t 0 ∧ s1.heap.IsTuple t its) → s1.heap.get? s.heap.objs.size = some (newSet w) → s.heap.get? I = none → (∀ b o, s.heap.get? b = some o → s1.heap.get? b = some o) →
      (∀ s', Moved [s.heap.objs.size, I] (fun a b => b = a) s1 s' → G s'.heap → R (.ok (.ret .none)) s') →
      codeAny (model prog w) A.in1.in1 (.builtin "set.update.loop" ⟨[.ref s.heap.objs.size, .ref I], []⟩) R s1)
    (h : ∀ (h' : Heap) (tk : Nat), G h' → (∀ b o, s.heap.get? b = some o → h'.get? b = some o) → Q (.ref s.heap.objs.size) { s with heap := h', toks := tk }) :
    wpAny (model prog w) A (call (.type "set") [.ref t]) Q E s := by
  have ⟨kind, rest, mro1⟩ := F.called_set.mro
  have made1 := F.called_set.made
  have sub1 := F.called_set.sub
  refine wpAny_call (codeAny_of_tree ?_)
  show wpAny _ _ (callAny (.type "set") ⟨[.ref t], []⟩) _ _ _
  refine wpAny_pure ⟨Code.quiet_builtin _ (by decide +kernel), ?_⟩
  refine codeAny_builtin F.entry_type_call ?_
  rw [Around.under_plain (weight_type_call_type "set" [.ref t] []) rfl]
  have noty := F.called_set.notType
  have cancr := F.called_set.canCreate
  have tyck := F.typeCall_set_1 (.ref t)
  repeat (any_goals (first | assumption | wp_step))
  refine codeAny_mono (code_set_led1 (.ref t) (E := E) (Q₁ := fun ob s1 => ob = .ref s.heap.objs.size ∧ s1 = { s with heap := s.heap.push (newSet w) }) ⟨rfl, rfl⟩) fun r s1 hr => ?_
  match r, hr with
  | .error e, hr => exact hr
  | .ok (.ret ob), hr =>
    obtain ⟨rfl, rfl⟩ := hr
    have atS : (s.heap.push (newSet w)).get? s.heap.objs.size = some (newSet w) := Heap.get?_push_size _ rfl
    have tyS : Shared.TypeIs { s with heap := s.heap.push (newSet w) } (.ref s.heap.objs.size) "set" := ⟨_, atS, rfl⟩
    have look1 := F.called_set.init.lookup
    have bind1 := F.called_set.init.bind (.ref s.heap.objs.size)
    repeat (any_goals (first | assumption | wp_step))
    refine codeAny_mono (codeAny_call_builtin (R := wants (fun r s2 => r = .none ∧ ∃ (h' : Heap) (tk : Nat), s2 = { s with heap := h', toks := tk } ∧ G h' ∧ ∀ b o, s.heap.get? b = some o → h'.get? b = some o) E)
      F.called_set.init.plain F.entry_set_init (check_set_init_1 tyS ?_)) fun r2 s2 hr2 => ?_
    · have ht1 : (s.heap.push (newSet w)).IsTuple t its := ht.push _
      obtain ⟨⟨oc, od, oda, osl⟩, ho, hoc, on, hod⟩ := id ht
      simp only at hoc hod
      subst hoc hod
      have ho1 : (s.heap.push (newSet w)).get? t = some { cls := .type "tuple", dict := od, data := .seq its on, slots := osl } := Heap.get?_push_of_some _ ho
      have sub2 := F.sub_tuple_set
      have sub3 := F.sub_tuple_frozenset
      have ned : (Value.type "tuple" == Value.type "dict") = false := by decide
      unfold Builtin.«set.__init__» noKeywords Builtin.Frozenset.updateFrom
      generalize gpi : pyIter = PI
      wp_walk
      subst gpi
      refine wpAny_pyIter_tuple ht1 ?_
      refine wpAny_bind (wpAny_runValue ?_)
      have lt : t < s.heap.objs.size := Heap.lt_size ho
      have hh3 : A.in1.in1.in1.handled = none := by simp [hh]
      have szI : (s.heap.push (newSet w)).objs.size = s.heap.objs.size + 1 := Heap.size_push ..
      have kept : ∀ b o, s.heap.get? b = some o → ((s.heap.push (newSet w)).push (itT t)).get? b = some o := fun b o e => Heap.get?_push_of_some _ (Heap.get?_push_of_some _ e)
      have dead : ∀ b : Nat, s.heap.objs.size ≤ b → s.heap.get? b = none := fun b hb => by
        cases q : s.heap.get? b with
        | none => rfl
        | some o => exact absurd (Heap.lt_size q) (Nat.not_lt.mpr hb)
      have deadI : s.heap.get? (s.heap.push (newSet w)).objs.size = none := dead _ (by rw [szI]; exact Nat.le_succ _)
      have deadS : s.heap.get? s.heap.objs.size = none := dead _ (Nat.le_refl _)
      have neI : t ≠ (s.heap.push (newSet w)).objs.size := by
        rw [szI]; exact Nat.ne_of_lt (Nat.lt_succ_of_lt lt)
      have neS : s.heap.objs.size ≠ (s.heap.push (newSet w)).objs.size := by
        rw [szI]; exact Nat.ne_of_lt (Nat.lt_succ_self _)
      refine loop _ (s.heap.push (newSet w)).objs.size _ (Walks.tuple hh3 _ t neI its).toS ?_ ⟨⟨_, Heap.get?_push_size _ rfl, rfl, rfl⟩, ht1.push _⟩ (Heap.get?_push_of_some _ atS) deadI kept ?_
      · simp only [List.mem_cons, List.not_mem_nil, or_false, not_or]
        exact ⟨neS, Nat.ne_of_gt lt⟩
      · rintro ⟨h', g', d', tk', os'⟩ hm hG
        obtain rfl : g' = s.gens := hm.gens
        obtain rfl : d' = s.drawn := hm.drawn
        obtain rfl : os' = s.os := hm.os
        show wpAny _ _ _ _ _ _
        refine wpAny_pure ?_
        show wpAny _ _ (ret Value.none) _ _ _
        refine wpAny_pure ⟨rfl, h', tk', rfl, hG, fun b o e => hm.heap b o ?_ (kept b o e)⟩
        simp only [List.mem_cons, List.not_mem_nil, or_false, not_or]
        refine ⟨?_, ?_⟩
        · rintro rfl; rw [deadS] at e; cases e
        · rintro rfl; rw [deadI] at e; cases e
    · match r2, hr2 with
      | .error e, hr2 => exact hr2
      | .ok (.ret r), hr2 =>
        obtain ⟨rfl, h', tk, rfl, hG, kp⟩ := hr2
        repeat (any_goals (first | assumption | wp_step))
        exact h _ _ hG kp
end
end PP

set_option Elab.async false
set_option linter.all false
set_option maxRecDepth 100000
/-! PP6b: built-ins around a set; a tuple turned round; dict of pairs. -/
namespace PP
open PySem PySem.Spec PyProof.Rows L2

/-! ### a tuple turned round -/
theorem adj_rev (n : Nat) : Builtin.Slice.sliceAdjust none none (-1) (n : Int) = ((n : Int) - 1, -1) := by
  unfold Builtin.Slice.sliceAdjust
  simp
theorem places_rev (n : Nat) : Builtin.Slice.slicePlaces ((n : Int) - 1) (-1) (-1) = n := by
  unfold Builtin.Slice.slicePlaces
  have h : ¬ ((-1 : Int) > 0) := by decide
  simp only [h, if_false]
  split
  · rw [show ((n : Int) - 1 - -1 - 1) = (n : Int) - 1 by omega, show (-(-1) : Int) = 1 by decide, Int.ediv_one]; omega
  · omega
theorem pick_rev (xs : Array Value) : ((List.range xs.size).filterMap fun (k : Nat) => xs[(((xs.size : Int) - 1) + (k : Int) * (-1)).toNat]?).toArray = xs.toList.reverse.toArray := by
  congr 1
  apply List.ext_getElem?
  intro j
  have e : (List.range xs.size).filterMap (fun (k : Nat) => xs[(((xs.size : Int) - 1) + (k : Int) * (-1)).toNat]?) = (List.range xs.size).map fun k => xs.toList.reverse.getD k default := by
    rw [← List.filterMap_eq_map]
    have cong : ∀ (f g : Nat → Option Value) (l : List Nat), (∀ k ∈ l, f k = g k) → l.filterMap f = l.filterMap g := fun f g l => by
      induction l with
      | nil => intro _; rfl
      | cons k l ih =>
        intro hfg
        rw [List.filterMap_cons, List.filterMap_cons, hfg k List.mem_cons_self, ih fun k hk => hfg k (List.mem_cons_of_mem _ hk)]
    refine cong _ _ _ fun k hk => ?_
    have hk' : k < xs.size := List.mem_range.mp hk
    have e1 : (((xs.size : Int) - 1) + (k : Int) * (-1)).toNat = xs.size - 1 - k := by omega
    have hkl : k < xs.toList.length := by simpa using hk'
    have e3 : xs.toList.reverse[k]? = xs.toList[xs.toList.length - 1 - k]? := List.getElem?_reverse hkl
    have hl : xs.toList.length - 1 - k < xs.toList.length := by omega
    rw [e1, Function.comp, List.getD_eq_getElem?_getD, e3, List.getElem?_eq_getElem hl, Option.getD_some, ← Array.getElem?_toList, show xs.size = xs.toList.length by simp, List.getElem?_eq_getElem hl]
  rw [e, List.getElem?_map]
  by_cases hj : j < xs.size
  · rw [List.getElem?_range hj]
    have : j < xs.toList.reverse.length := by simpa using hj
    rw [List.getElem?_eq_getElem this]
    simp [List.getD_eq_getElem?_getD, List.getElem?_eq_getElem this]
  · rw [List.getElem?_eq_none (by simpa using hj), List.getElem?_eq_none (by simpa using hj)]
    rfl
section
variable {prog : Program} {w : World} {A : Around} {E : Value → Shared → Prop} {s : Shared}
theorem getItem_tup_rev {t sl : Addr} {items : Array Value} {vl vu vs : Value} {Q : Value → Shared → Prop} (ht : IsTup s.heap t items) (hs : s.heap.IsSliceOf sl vl vu vs) (pl : IsPart vl none) (pu : IsPart vu none) (ps : IsPart vs (some (-1)))
    (h : Q (.ref s.heap.objs.size) { s with heap := s.heap.push { cls := .type "tuple", data := .seq items.toList.reverse.toArray } }) (hsz : items.size ≤ sizeLine) : wpAny (model prog w) A (getItem (.ref t) (.ref sl)) Q E s := by
  obtain ⟨ob, hob, hcl, hdt⟩ := id hs
  have tySl : s.TypeIs (.ref sl) "slice" := ⟨ob, hob, hcl⟩
  have room : sizeOk (.seq items.toList.reverse.toArray) := by
    show items.toList.reverse.toArray.size ≤ sizeLine
    simpa using hsz
  have app : ∀ {Q : Int × Int × Nat → Shared → Prop}, Q ((items.size : Int) - 1, -1, items.size) s → wpAny (model prog w) A.in1 (Builtin.Slice.sliceApplied (.ref sl) (pure (items.size : Int))) Q E s := fun {Q} hq => by
    unfold Builtin.Slice.sliceApplied Builtin.Slice.sliceFields
    refine wpAny_bind (wpAny_bind (wpAny_field hob hdt (x := vl) rfl (wpAny_bind (wpAny_field hob hdt (x := vu) rfl (wpAny_bind (wpAny_field hob hdt (x := vs) rfl (wpAny_pure ?_)))))))
    refine wpAny_bind (HT.slicePart_ ps ?_)
    show wpAny _ _ (if ((-1 : Int) == 0) = true then _ else _) _ _ s
    rw [if_neg (by decide)]
    refine wpAny_bind (HT.slicePart_ pl (wpAny_bind (HT.slicePart_ pu (wpAny_bind (wpAny_pure ?_)))))
    show wpAny _ _ (match Builtin.Slice.sliceAdjust none none (-1) (items.size : Int) with | (lo, hi) => pure (lo, (-1 : Int), Builtin.Slice.slicePlaces lo hi (-1))) _ _ s
    rw [adj_rev]
    show wpAny _ _ (pure ((items.size : Int) - 1, (-1 : Int), Builtin.Slice.slicePlaces ((items.size : Int) - 1) (-1) (-1))) _ _ s
    rw [places_rev]
    exact wpAny_pure hq
  unfold getItem
  try with_reducible refine wpAny_holding ?_
  first | refine wpAny_bind (wpAny_pure ?_) | skip
  refine wpAny_bind (wpAny_sequenceKey ht.typeIs (by decide) ?_)
  refine wpAny_bind (wpAny_callSpecial?_slot (name := Str.ofString "__getitem__") ht.typeIs PyProof.Rows.slot_tuple_getitem (wpAny_call_entry PyProof.Rows.slot_tuple_getitem ht.typeIs PyProof.Rows.entry_tuple_getitem ?_ (PyProof.Rows.args_tuple_getitem _ _)))
  show wpAny _ _ (Builtin.Tuple.tupleItemsOf (.ref t) >>= _) _ _ s
  refine wpAny_bind (PyProof.Rows.tupleItemsOf_ ht (wpAny_bind (wpAny_typeOf tySl ?_)))
  rw [if_pos (by decide)]
  refine wpAny_bind (app ?_)
  show wpAny _ _ (if (((items.size : Int) - 1) == 0 && (-1 : Int) == 1 && items.size == items.size) = true then _ else _) _ _ s
  rw [if_neg (by simp), pick_rev]
  first
    | exact wpAny_bind (m := Builtin.Tuple.tupleExact _) (wpAny_newObj_type (wpAny_pure ⟨_, rfl, wpAny_pure h⟩) room)
    | exact wpAny_bind (m := Builtin.Tuple.tupleExact _) (wpAny_newObj_type (wpAny_bind (wpAny_pure (wpAny_pure ⟨_, rfl, wpAny_pure h⟩))) room)
    | exact wpAny_bind (wpAny_bind (m := Builtin.Tuple.tupleExact _) (wpAny_newObj_type (wpAny_pure (wpAny_pure ⟨_, rfl, wpAny_pure h⟩)) room))
end
section
variable {X : Cx} {W : WX} {e a b d : Expr} {es : List Expr} {ev ea eb ed : Ev} {pos p p2 : Pos}
def tRevT (K : PySem.W.Frag) (te : TE) : TE := fun σ H Q => te σ H fun x H1 => ∃ a xs, x = .ref a ∧ ((SqT K H1 a xs ∧ ∀ p, H1 p = none → Q (.ref p) (upd H1 p (.tup xs.reverse))) ∨ (SqL K H1 a xs ∧ ∀ p, H1 p = none → Q (.ref p) (upd H1 p (.lst xs.reverse))))
/-- x[::-1], of a tuple or of a list -/
theorem pe_revT {te : TE} {k : Nat} {p1 p2 p3 pos : Pos} (he : L2.PE X e te) : L2.PE X (.Subscript e (.Slice none none (some (.UnaryOp .USub (.Constant (.int 1) k p1) p2)) p3) pos) (tRevT X.K te) := by
  refine ⟨fun pins s σ H Q I h => ?_⟩
  refine Subscript_ (thn (he.run pins s σ H _ I h) fun v sa ⟨x, Ha, Ia, ra, a, xs, ex, q⟩ => ?_)
  subst ex
  cases ra
  refine wpAny_Slice (thn (po_none.run pins sa σ Ha (fun o H2 => o = none ∧ H2 = Ha) Ia ⟨rfl, rfl⟩) fun v1 sb ⟨o1, Hb, Ib, k1, z1, y1⟩ => ?_)
  subst z1 y1
  refine thn (po_none.run pins sb σ Hb (fun o H3 => o = none ∧ H3 = Hb) Ib ⟨rfl, rfl⟩) fun v2 sc ⟨o2, Hc, Ic, k2, z2, y2⟩ => ?_
  subst z2 y2
  refine thn ((po_some (pe_un un_neg pe_int)).run pins sc σ Hc (fun o H4 => o = some (-1) ∧ H4 = Hc) Ic ⟨1, rfl, -1, rfl, rfl, rfl⟩) fun v3 sd ⟨o3, Hd, Id, k3, z3, y3⟩ => ?_
  subst z3 y3
  have Ie : Inv X pins σ Hd { sd with heap := sd.heap.push { cls := .type "slice", data := .fields #[v1, v2, v3] } } := Id.kept (t' := sd.toks) fun b ob q => Heap.get?_push_of_some _ q
  show wpAny (model X.prog X.w) X.A (subscriptTail e (.Slice none none (some (.UnaryOp .USub (.Constant (.int 1) k p1) p2)) p3) (.ref a) (.ref sd.heap.objs.size)) (EP X pins σ Q) X.xe _
  rcases q with ⟨hx, q⟩ | ⟨hx, q⟩
  · obtain ⟨its, r, ht, hz⟩ := Ie.tuple hx
    have hl := r.length
    refine tail_any (ops := [.ref a, .ref sd.heap.objs.size]) ht.typeIs PyProof.Rows.slot_tuple_getitem.lookup (getItem_tup_rev ht (Heap.IsSliceOf.new _ v1 v2 v3) k1 k2 k3 ?_ (by rw [List.size_toArray]; omega)) (by with_unfolding_all rfl)
    exact ⟨.ref _, _, Ie.laid (t' := sd.toks) (o := .tup xs.reverse) (fun b ob q => Heap.get?_push_of_some _ q) (Nat.le_refl _) ⟨by rw [List.length_reverse]; exact hz, _, r.reverse, IsTup.new _ _⟩, rfl, q _ (Ie.hok.fresh (Nat.le_refl _))⟩
  · obtain ⟨its, r, ht, hz⟩ := Ie.list hx
    have hl := r.length
    refine tail_any (ops := [.ref a, .ref sd.heap.objs.size]) ht.isList.typeIs PySem.slot_list_getitem.lookup (wpAny_getItem_list_slice ht.isList (Heap.IsSliceOf.new _ v1 v2 v3) k1 k2 k3 (by decide) ?_ (by rw [List.size_toArray]; omega)) (by with_unfolding_all rfl)
    rw [PySem.W.krv_pick]
    exact ⟨.ref _, _, Ie.laid (t' := sd.toks) (o := .lst xs.reverse) (fun b ob q => Heap.get?_push_of_some _ q) (Nat.le_refl _) ⟨by rw [List.length_reverse]; exact hz, _, 0, r.reverse, Heap.get?_push_size _ rfl⟩, rfl, q _ (Ie.hok.fresh (Nat.le_refl _))⟩
theorem RpL.rev {T : Wd} {g : Gh} : ∀ {vs : List V} {ps : List PV}, RpL T g vs ps → RpL T g vs.reverse ps.reverse
  | _, _, .nil => .nil
  | _, _, .cons r t => by
    rw [List.reverse_cons, List.reverse_cons]
    exact (RpL.rev t).append (.cons r .nil)
theorem x_rev {k : Nat} {p1 p2 p3 pos : Pos} (ha : XB X W a ea) : XE' X W (.Subscript a (.Slice none none (some (.UnaryOp .USub (.Constant (.int 1) k p1) p2)) p3) pos) (b1 .rev ea) :=
  pe_weak (pe_revT ha) fun σ H Q h => by
    have h' := tR.one (f := fun xs c => pureR (bltop .rev xs) c) h
    refine (tR.one h').mono fun x g1 c1 H1 ⟨h1, d1, k1⟩ v cv => ?_
    obtain ⟨_, d2, k2⟩ := k1 g1 H1 Pres.refl h1
    obtain ⟨z, ez, kz⟩ := k2.pure
    have fin : Fin (wd X) g1 H1 c1 Q z := fun g' H' v p' h' r => kz g' H' p' h' v r
    cases x with
    | tup ps =>
      cases ez
      obtain ⟨a, vs, rfl, ea, ra⟩ := cv.tup h1
      exact ⟨a, vs, rfl, .inl ⟨ea, fin.newT h1 ra.rev⟩⟩
    | lst ps =>
      cases ez
      obtain ⟨a, vs, rfl, ea, ra⟩ := cv.lst h1
      exact ⟨a, vs, rfl, .inr ⟨SqL.of ea, fin.own.newL h1 ra.rev⟩⟩
    | _ => cases ez
/-! ### len(set(x)) -/
def LenO (a : Addr) (n : Nat) : HO := .ext fun h => ∃ o es ep t, h.get? a = some o ∧ o.ExactSet ∧ o.data = .set es ep t ∧ t.fits es.size = true ∧ es.size = n
theorem lenO_new {w : World} {P : Program} {H : Hp} {h : Heap} {a : Addr} {n : Nat} (R : ∃ o es ep t, h.get? a = some o ∧ o.ExactSet ∧ o.data = .set es ep t ∧ t.fits es.size = true ∧ es.size = n) : ObjOk P w H h a (LenO a n) := by
  refine ⟨R, ?_, fun h1 h2 p k => ?_⟩
  · obtain ⟨o, es, ep, t, ho, _⟩ := R; exact ⟨o, ho⟩
  · have p' : ∃ o es ep t, h1.get? a = some o ∧ o.ExactSet ∧ o.data = .set es ep t ∧ t.fits es.size = true ∧ es.size = n := p
    obtain ⟨o, es, ep, t, ho, r⟩ := p'
    exact ⟨o, es, ep, t, k o ho, r⟩
def metN (is : List Int) : Nat := (firstMet (fun i => is.getD i 0) is.length).length
theorem metN_le (is : List Int) : metN is ≤ is.length := firstMet_length_le _ _
theorem cr_setI (hc : X.calm = true) : CallR X (.type "set") (fun vs H Q => ∃ (t : Addr) (is : List Int), vs = [.ref t] ∧ (SqT X.K H t (is.map V.int) ∨ SqL X.K H t (is.map V.int)) ∧ is.length < 4000 ∧ ∀ a, H a = none → Q (.ref a) (upd H a (LenO a (metN is)))) := by
  intro pins s σ H vs us Q I r h
  obtain ⟨t, is, rfl, ht, hl, q⟩ := h
  rw [Vals.ref1 r]
  have hn : H s.heap.objs.size = none := I.hok.fresh (Nat.le_refl _)
  have fin : ∀ (h' : Heap) (tk : Nat), h'.SetOf (intKind X.prog X.w) s.heap.objs.size (fun k' => (firstMet (fun i => is.getD i 0) is.length).any (· == k')) (metN is) → (∀ b o, s.heap.get? b = some o → h'.get? b = some o) → EP X pins σ Q (.ref s.heap.objs.size) { s with heap := h', toks := tk } := fun h' tk hS kp => by
    obtain ⟨o, es, ep, t, ho, hex, hd, _, _, _, hf, hn'⟩ := hS
    exact ⟨.ref _, _, I.laid (t' := tk) kp (Nat.le_refl _) (lenO_new ⟨o, es, ep, t, ho, hex, hd, hf, hn'⟩), rfl, q _ hn⟩
  rcases ht with ht | ht
  · obtain ⟨its, rv, pt, hz⟩ := I.tuple ht
    have hsz : its.toArray.size = is.length := by rw [List.size_toArray, ← rv.length, List.length_map]
    refine set_tup (I.ok.hd hc) pt (G := fun h' => h'.SetOf (intKind X.prog X.w) s.heap.objs.size (fun k' => (firstMet (fun i => is.getD i 0) is.length).any (· == k')) (metN is)) (fun R J s1 Wk nS st atS dJ kp k => ?_) fin
    refine codeAny_set_update_loopS Wk _ nS (fun i => is.getD i 0) (fun i v hv => ?_) (by rw [hsz]; unfold scanBound; omega) its.toArray.size 0 s1 (Nat.sub_zero _) (Nat.zero_le _) st ?_ ?_
    · exact IntsAre.int_at rv.ints i v (by rw [← Array.getElem?_toList] at hv; exact hv)
    · exact SetOf_congr ((setObjOf_fresh (knd := intKind X.prog X.w) _).setOf atS (by unfold scanBound; omega)) (fun _ => rfl) rfl
    · intro s' hm hS
      rw [hsz] at hS
      exact k s' hm hS
  · obtain ⟨its, rv, pl, hz⟩ := I.list ht
    have hsz : its.toArray.size = is.length := by rw [List.size_toArray, ← rv.length, List.length_map]
    refine call_set_list (I.ok.hd hc) pl.isList (ns := is) (by simpa using rv.ints) (by rw [hsz]; unfold scanBound; omega) fun h' tk hS kp => ?_
    rw [hsz] at hS
    exact fin h' tk hS fun b o e => kp b o (Heap.lt_size e) e
theorem cr_lenO : CallR X (.builtin "len") (fun vs H Q => ∃ (a : Addr) (n : Nat), vs = [.ref a] ∧ H a = some (LenO a n) ∧ n < 4000 ∧ Q (.int n) H) := by
  intro pins s σ H vs us Q I r h
  obtain ⟨a, n, rfl, ha, hn, q⟩ := h
  rw [Vals.ref1 r]
  have x : ∃ o es ep t, s.heap.get? a = some o ∧ o.ExactSet ∧ o.data = .set es ep t ∧ t.fits es.size = true ∧ es.size = n := (I.hok a _ ha).1
  obtain ⟨o, es, ep, t, ho, hex, hd, hf, hs⟩ := x
  exact call_len_set ho hex hd hf (by rw [hs]; omega) ⟨.int n, H, I.tok _, ⟨_, by rw [hs]⟩, q⟩
theorem seqOf_ct {T : Wd} {g : Gh} {c : List PV} {H : Hp} (h : HR T g c H) {v : V} {x : PV} {xs : List PV} (e : seqOf x = some xs) (cv : Ct T g H v x) : ∃ a vs, v = .ref a ∧ (SqT T.K H a vs ∨ SqL T.K H a vs) ∧ RpL T g vs xs := by
  cases x with
  | tup ps => cases e; obtain ⟨a, vs, r, ea, ra⟩ := cv.tup h; exact ⟨a, vs, r, .inl ea, ra⟩
  | lst ps => cases e; obtain ⟨a, vs, r, ea, ra⟩ := cv.lst h; exact ⟨a, vs, r, .inr (SqL.of ea), ra⟩
  | _ => cases e
theorem x_lenSet (hc : X.calm = true) (k : BOk X "len") (k2 : BOk X "set") (ha : XB X W a ea) (hs : notStar a = true) : XE' X W (.Call (.Name "len" p) [.Call (.Name "set" p2) [a] [] pos2] [] pos) (b1 .lenSet ea) := by
  refine pe_weak (pe_callB cr_lenO k.gl k.no (by decide +kernel) (pa_cons (pe_callTy (cr_setI hc) k2.gl k2.no (by decide +kernel) (pa_cons ha pa_nil (star_cons hs)) k2.nn k2.nd (star_cons hs) rfl) pa_nil rfl) k.nn k.nd rfl rfl) fun σ H Q h => ?_
  have h' := tR.one (f := fun xs c => pureR (bltop .lenSet xs) c) h
  refine (tR.one h').mono fun x g1 c1 H1 ⟨h1, d1, k1⟩ v cv => ?_
  obtain ⟨_, d2, k2⟩ := k1 g1 H1 Pres.refl h1
  obtain ⟨z, ez, kz⟩ := k2.pure
  obtain ⟨xs, e1, e2⟩ := Option.bind_eq_some_iff.mp (show (seqOf x).bind _ = some z from ez)
  obtain ⟨is, e3, e4⟩ := Option.bind_eq_some_iff.mp e2
  split at e4
  · rename_i hlt
    cases e4
    obtain ⟨a, vs, rfl, ea, ra⟩ := seqOf_ct h1 e1 cv
    rw [ra.ints_of e3] at ea
    refine ⟨a, is, rfl, ea, hlt, fun b hb => ?_⟩
    obtain ⟨p', h''⟩ := h1.fresh (o := LenO b (metN is)) hb
    exact ⟨b, metN is, rfl, upd_same, Nat.lt_of_le_of_lt (metN_le is) hlt, kz _ _ p' h'' _ (.int _)⟩
  · cases e4
end
end PP

set_option Elab.async false
set_option linter.all false
set_option maxRecDepth 100000
/-! PP6e: sets of whole numbers, of any size below 4000, and sorted of them. -/
namespace PP
open PySem PySem.Spec PyProof.Rows L2
def itL (t : Addr) : Obj := { cls := .type "list_iterator", data := .fields #[.ref t, .int 0 0] }
section
variable {prog : Program} {w : World} {A : Around} {E : Value → Shared → Prop} {s : Shared}
set_option maxHeartbeats 2000000 in
/-- set(l) of a list, by what its loop leaves -/
theorem set_lst {t : Addr} {its : Array Value} {Q : Value → Shared → Prop} {G : Heap → Prop} (hh : A.handled = none) (ht : s.heap.IsList t its)
    (loop : ∀ (R : Result → Shared → Prop) (I : Addr) (s1 : Shared),
      WalksS prog w A.in1.in1.in1 I [I, t] [I] (fun a b => b = a) its.size (fun i v => its[i]? = some v) (fun i s => s.heap.IsListIter I t i ∧ s.heap.IsList t its) →
      s.heap.objs.size ∉ [I, t] → (s1.heap.IsListIter I t 0 ∧ s1.heap.IsList t its) → s1.heap.get? s.heap.objs.size = some (newSet w) → s.heap.get? I = none → (∀ b o, s.heap.get? b = some o → s1.heap.get? b = some o) →
      (∀ s', Moved [s.heap.objs.size, I] (fun a b => b = a) s1 s' → G s'.heap → R (.ok (.ret .none)) s') →
      codeAny (model prog w) A.in1.in1 (.builtin "set.update.loop" ⟨[.ref s.heap.objs.size, .ref I], []⟩) R s1)
    (h : ∀ (h' : Heap) (tk : Nat), G h' → (∀ b o, s.heap.get? b = some o → h'.get? b = some o) → Q (.ref s.heap.objs.size) { s with heap := h', toks := tk }) :
    wpAny (model prog w) A (call (.type "set") [.ref t]) Q E s := by
  have ⟨kind, rest, mro1⟩ := F.called_set.mro
  have made1 := F.called_set.made
  have sub1 := F.called_set.sub
  refine wpAny_call (codeAny_of_tree ?_)
  show wpAny _ _ (callAny (.type "set") ⟨[.ref t], []⟩) _ _ _
  refine wpAny_pure ⟨Code.quiet_builtin _ (by decide +kernel), ?_⟩
  refine codeAny_builtin F.entry_type_call ?_
  rw [Around.under_plain (weight_type_call_type "set" [.ref t] []) rfl]
  have noty := F.called_set.notType
  have cancr := F.called_set.canCreate
  have tyck := F.typeCall_set_1 (.ref t)
  repeat (any_goals (first | assumption | wp_step))
  refine codeAny_mono (code_set_led1 (.ref t) (E := E) (Q₁ := fun ob s1 => ob = .ref s.heap.objs.size ∧ s1 = { s with heap := s.heap.push (newSet w) }) ⟨rfl, rfl⟩) fun r s1 hr => ?_
  match r, hr with
  | .error e, hr => exact hr
  | .ok (.ret ob), hr =>
    obtain ⟨rfl, rfl⟩ := hr
    have atS : (s.heap.push (newSet w)).get? s.heap.objs.size = some (newSet w) := Heap.get?_push_size _ rfl
    have tyS : Shared.TypeIs { s with heap := s.heap.push (newSet w) } (.ref s.heap.objs.size) "set" := ⟨_, atS, rfl⟩
    have look1 := F.called_set.init.lookup
    have bind1 := F.called_set.init.bind (.ref s.heap.objs.size)
    repeat (any_goals (first | assumption | wp_step))
    refine codeAny_mono (codeAny_call_builtin (R := wants (fun r s2 => r = .none ∧ ∃ (h' : Heap) (tk : Nat), s2 = { s with heap := h', toks := tk } ∧ G h' ∧ ∀ b o, s.heap.get? b = some o → h'.get? b = some o) E)
      F.called_set.init.plain F.entry_set_init (check_set_init_1 tyS ?_)) fun r2 s2 hr2 => ?_
    · have ht1 : (s.heap.push (newSet w)).IsList t its := ht.push _
      obtain ⟨⟨oc, od, oda, osl⟩, ho, hoc, on, hod⟩ := id ht
      simp only at hoc hod
      subst hoc hod
      have ho1 : (s.heap.push (newSet w)).get? t = some { cls := .type "list", dict := od, data := .seq its on, slots := osl } := Heap.get?_push_of_some _ ho
      have sub2 := F.sub_list_set
      have sub3 := F.sub_list_frozenset
      have ned : (Value.type "list" == Value.type "dict") = false := by decide
      unfold Builtin.«set.__init__» noKeywords Builtin.Frozenset.updateFrom
      generalize gpi : pyIter = PI
      wp_walk
      subst gpi
      refine wpAny_pyIter_list ht1 ?_
      refine wpAny_bind (wpAny_runValue ?_)
      have lt : t < s.heap.objs.size := Heap.lt_size ho
      have hh3 : A.in1.in1.in1.handled = none := by simp [hh]
      have szI : (s.heap.push (newSet w)).objs.size = s.heap.objs.size + 1 := Heap.size_push ..
      have kept : ∀ b o, s.heap.get? b = some o → ((s.heap.push (newSet w)).push (itL t)).get? b = some o := fun b o e => Heap.get?_push_of_some _ (Heap.get?_push_of_some _ e)
      have dead : ∀ b : Nat, s.heap.objs.size ≤ b → s.heap.get? b = none := fun b hb => by
        cases q : s.heap.get? b with
        | none => rfl
        | some o => exact absurd (Heap.lt_size q) (Nat.not_lt.mpr hb)
      have deadI : s.heap.get? (s.heap.push (newSet w)).objs.size = none := dead _ (by rw [szI]; exact Nat.le_succ _)
      have deadS : s.heap.get? s.heap.objs.size = none := dead _ (Nat.le_refl _)
      have neI : t ≠ (s.heap.push (newSet w)).objs.size := by
        rw [szI]; exact Nat.ne_of_lt (Nat.lt_succ_of_lt lt)
      have neS : s.heap.objs.size ≠ (s.heap.push (newSet w)).objs.size := by
        rw [szI]; exact Nat.ne_of_lt (Nat.lt_succ_self _)
      refine loop _ (s.heap.push (newSet w)).objs.size _ (Walks.list hh3 _ t neI its).toS ?_ ⟨⟨_, Heap.get?_push_size _ rfl, rfl, rfl⟩, ht1.push _⟩ (Heap.get?_push_of_some _ atS) deadI kept ?_
      · simp only [List.mem_cons, List.not_mem_nil, or_false, not_or]
        exact ⟨neS, Nat.ne_of_gt lt⟩
      · rintro ⟨h', g', d', tk', os'⟩ hm hG
        obtain rfl : g' = s.gens := hm.gens
        obtain rfl : d' = s.drawn := hm.drawn
        obtain rfl : os' = s.os := hm.os
        show wpAny _ _ _ _ _ _
        refine wpAny_pure ?_
        show wpAny _ _ (ret Value.none) _ _ _
        refine wpAny_pure ⟨rfl, h', tk', rfl, hG, fun b o e => hm.heap b o ?_ (kept b o e)⟩
        simp only [List.mem_cons, List.not_mem_nil, or_false, not_or]
        refine ⟨?_, ?_⟩
        · rintro rfl; rw [deadS] at e; cases e
        · rintro rfl; rw [deadI] at e; cases e
    · match r2, hr2 with
      | .error e, hr2 => exact hr2
      | .ok (.ret r), hr2 =>
        obtain ⟨rfl, h', tk, rfl, hG, kp⟩ := hr2
        repeat (any_goals (first | assumption | wp_step))
        exact h _ _ hG kp
/-- sorted(z) of a set of whole numbers -/
theorem sorted_big {a : Addr} {S : Int → Bool} {n : Nat} {Q : Value → Shared → Prop} (R : SetR w s.heap a S n) (hh : A.handled = none) (few : n ≤ sizeLine)
    (hQ : ∀ s' p (out : Array Value) (c : Nat) (ms : List Int), (∀ b o, s.heap.get? b = some o → s'.heap.get? b = some o) → s'.gens = s.gens → s'.os = s.os → s.heap.objs.size ≤ p →
      s'.heap.get? p = some (seqObj "list" out c) → IntsAre out.toList ms → ms.Nodup → ms.Pairwise (· ≤ ·) → (∀ k, k ∈ ms ↔ S k = true) → ms.length = n → Q (.ref p) s') :
    wpAny (model prog w) A (call (.builtin "sorted") [.ref a]) Q E s := by
  obtain ⟨o, es, ep, t, ho, hex, hd, gd, nd, mem, bound, fits, len, ris, led⟩ := R
  refine Calls.call_function_entry kind_sorted plain_sorted entry_sorted (args_sorted1 _) ?_
  rw [Builtin.«sorted»]
  refine wpAny_bind (m := checkCount "sorted" 1 1 _) (wpAny_pure (wpAny_bind (collect_set (A := A.in1) hh ⟨o, ho, hex.1, hd⟩ fits bound ris led fun s1 us keep size gens1 os1 perm => ?_)))
  have lus : us.length = n := by rw [perm.length_eq, List.length_map, Array.length_toList]; exact len
  have iv : IntsAre us (us.map Builtin.Re.reRawOf) := ints_of us fun v hv => by
    obtain ⟨z, hz, e⟩ := List.mem_map.mp (perm.mem_iff.mp hv)
    obtain ⟨k, tk, e1, _⟩ := gd z hz
    exact ⟨k, tk, e.symm.trans e1⟩
  have pk : (us.map Builtin.Re.reRawOf).Perm (es.toList.map keyOf) := by
    have := perm.map Builtin.Re.reRawOf
    rwa [List.map_map] at this
  refine wpAny_bind (wpAny_newList ?_ (lus ▸ few))
  have at1 : (s1.heap.push (seqObj "list" us.toArray 0)).get? s1.heap.objs.size = some (seqObj "list" us.toArray 0) := Heap.get?_push_size _ rfl
  refine wpAny_bind (wpAny_holding (wpAny_call_entry slot_list_sort ⟨_, at1, rfl⟩ entry_list_sort (list_sort_treeAny at1 iv (lus ▸ few) fun out ms i1 i2 i3 => ⟨_, rfl, ?_⟩) (args_list_sort _)))
  obtain ⟨c, at2⟩ := sortedHeap_at (vs := us) (out := out) at1
  have pm : ms.Perm (es.toList.map keyOf) := i2.trans pk
  refine wpAny_pure ⟨_, rfl, hQ _ s1.heap.objs.size out c ms (fun b u e => ?_) gens1 os1 size at2 i1 (pm.nodup_iff.mpr nd) i3 (fun k => ?_) ?_⟩
  · have e1 := keep b u e
    have lt := Heap.lt_size e1
    show (sortedHeap (s1.heap.push (seqObj "list" us.toArray 0)) s1.heap.objs.size us out).get? b = some u
    rw [sortedHeap_old (Nat.ne_of_lt lt) (by rw [Heap.size_push]; exact Nat.lt_succ_of_lt lt)]
    exact Heap.get?_push_of_some _ e1
  · rw [pm.mem_iff, mem k]
  · rw [pm.length_eq, List.length_map, Array.length_toList]; exact len
end
section
variable {X : Cx}
/-- set(x) of whole numbers -/
theorem cr_setBig (hc : X.calm = true) : CallR X (.type "set") (fun vs H Q => ∃ (t : Addr) (is : List Int), vs = [.ref t] ∧ (SqT X.K H t (is.map V.int) ∨ SqL X.K H t (is.map V.int)) ∧ is.length < 4000 ∧ ∀ a c, H a = none → c ≤ is.length → Q (.ref a) (upd H a (SetO X.w a (fun j => decide (j ∈ is)) c))) := by
  intro pins s σ H vs us Q I r h
  obtain ⟨t, is, rfl, ht, hl, q⟩ := h
  rw [Vals.ref1 r]
  have hn : H s.heap.objs.size = none := I.hok.fresh (Nat.le_refl _)
  have fin : ∀ (h' : Heap) (tk : Nat), (∃ c, c ≤ is.length ∧ SetR X.w h' s.heap.objs.size (fun j => decide (j ∈ is)) c) → (∀ b o, s.heap.get? b = some o → h'.get? b = some o) → EP X pins σ Q (.ref s.heap.objs.size) { s with heap := h', toks := tk } := fun h' tk hS kp => by
    obtain ⟨c, hc, hS⟩ := hS
    exact ⟨.ref _, _, I.laid (t' := tk) kp (Nat.le_refl _) (setO_new hS), rfl, q _ c hn hc⟩
  have vat : ∀ {its : List Value}, IntsAre its is → ∀ (i : Nat) (v : Value), its.toArray[i]? = some v → ∃ k t, is[i]? = some k ∧ v = Value.int k t := fun {its : List Value} (ia : IntsAre its is) i v hv => by
    have hsz : its.length = is.length := ia.length
    have hv' : its[i]? = some v := by
      have := hv
      rw [← Array.getElem?_toList] at this
      exact this
    have hi : i < is.length := by rw [← hsz]; exact (List.getElem?_eq_some_iff.mp hv').1
    obtain ⟨t, e⟩ := IntsAre.int_at ia i v hv'
    refine ⟨is[i], t, List.getElem?_eq_getElem hi, ?_⟩
    rw [e]
    congr 1
    rw [List.getD_eq_getElem?_getD, List.getElem?_eq_getElem hi]; rfl
  rcases ht with ht | ht
  · obtain ⟨its, rv, pt, hz⟩ := I.tuple ht
    have hsz : its.toArray.size = is.length := by rw [List.size_toArray, ← rv.length, List.length_map]
    refine set_tup (I.ok.hd hc) pt (G := fun h' => ∃ c, c ≤ is.length ∧ SetR X.w h' s.heap.objs.size (fun j => decide (j ∈ is)) c) (fun R J s1 Wk nS st atS dJ kp k => ?_) fin
    refine set_update_ints Wk _ nS is hsz (by unfold scanBound; omega) (vat rv.ints) its.toArray.size 0 s1 (Nat.sub_zero _) (Nat.zero_le _) st ⟨0, Nat.le_refl _, setR_new_at atS⟩ fun s' c hm hc' hS => ?_
    rw [hsz] at hc'
    exact k s' hm ⟨c, hc', hS⟩
  · obtain ⟨its, rv, pl, hz⟩ := I.list ht
    have hsz : its.toArray.size = is.length := by rw [List.size_toArray, ← rv.length, List.length_map]
    refine set_lst (I.ok.hd hc) pl.isList (G := fun h' => ∃ c, c ≤ is.length ∧ SetR X.w h' s.heap.objs.size (fun j => decide (j ∈ is)) c) (fun R J s1 Wk nS st atS dJ kp k => ?_) fin
    refine set_update_ints Wk _ nS is hsz (by unfold scanBound; omega) (vat rv.ints) its.toArray.size 0 s1 (Nat.sub_zero _) (Nat.zero_le _) st ⟨0, Nat.le_refl _, setR_new_at atS⟩ fun s' c hm hc' hS => ?_
    rw [hsz] at hc'
    exact k s' hm ⟨c, hc', hS⟩
/-- sorted(z) of such a set -/
theorem cr_sortedBig (hc : X.calm = true) : CallR X (.builtin "sorted") (fun vs H Q => ∃ (a : Addr) (S : Int → Bool) (n : Nat), vs = [.ref a] ∧ H a = some (SetO X.w a S n) ∧ n < 4000 ∧
    ∀ (ms : List Int) (p : Addr), ms.Nodup → ms.Pairwise (· ≤ ·) → (∀ k : Int, k ∈ ms ↔ S k = true) → H p = none → Q (.ref p) (upd H p (.lst (ms.map V.int)))) := by
  intro pins s σ H vs us Q I r h
  obtain ⟨a, S, n, rfl, ha, few, q⟩ := h
  have R := setO_get I ha
  rw [Vals.ref1 r]
  refine sorted_big R (I.ok.hd hc) (by rw [sizeLine_eq]; omega) fun s' p out c ms keep gens os hp at1 iv nd pw mem len => ?_
  have hlen : (ms.map V.int).length ≤ sizeLine := by rw [List.length_map, len, sizeLine_eq]; omega
  have hn : H p = none := I.hok.fresh hp
  have J : Inv X pins σ (upd H p (.lst (ms.map V.int))) { s with heap := s'.heap, gens := s'.gens, drawn := s'.drawn, toks := s'.toks } :=
    I.call (ch := []) (Un.laid keep hp hn) (I.hok.laid keep hp ⟨hlen, out.toList, c, vals_of_ints iv, at1⟩) (by rw [gens]; exact I.bare) (fun _ z => nomatch z)
  have eq : { s with heap := s'.heap, gens := s'.gens, drawn := s'.drawn, toks := s'.toks } = s' := by
    rcases s with ⟨⟩; rcases s' with ⟨⟩; cases os; rfl
  rw [eq] at J
  exact ⟨.ref p, _, J, rfl, q ms p nd pw mem hn⟩
theorem cr_or {f : Value} {r1 r2 : List V → Hp → VK → Prop} (h1 : CallR X f r1) (h2 : CallR X f r2) : CallR X f (fun vs H Q => r1 vs H Q ∨ r2 vs H Q) := by
  intro pins s σ H vs us Q I r h
  rcases h with h | h
  · exact h1 pins s σ H vs us Q I r h
  · exact h2 pins s σ H vs us Q I r h
end
end PP

set_option Elab.async false
set_option linter.all false
set_option maxRecDepth 100000
/-! PP6c: sorted(set(x)) of pairs; dict of pairs. -/
namespace PP
open PySem PySem.Spec PyProof.Rows L2

theorem nodup_dups {α : Type} [BEq α] [LawfulBEq α] : ∀ (n : Nat) (l : List α), l.length ≤ n → l.eraseDups.Nodup
  | 0, l, h => by
    obtain rfl : l = [] := List.length_eq_zero_iff.mp (by omega)
    simp
  | n + 1, [], _ => by simp
  | n + 1, a :: l, h => by
    rw [List.eraseDups_cons, List.nodup_cons]
    refine ⟨fun hm => ?_, nodup_dups n _ ?_⟩
    · have := List.mem_eraseDups.mp hm
      rw [List.mem_filter] at this
      simp at this
    · have := List.length_filter_le (fun b => !b == a) l
      rw [List.length_cons] at h
      omega
theorem insB_perm {α : Type} (le : α → α → Bool) (x : α) : ∀ l : List α, (insB le x l).Perm (x :: l)
  | [] => .refl _
  | y :: r => by
    rw [insB]
    split
    · exact .refl _
    · exact ((insB_perm le x r).cons y).trans (.swap ..)
theorem isortB_perm {α : Type} (le : α → α → Bool) : ∀ l : List α, (isortB le l).Perm l
  | [] => .refl _
  | x :: r => (insB_perm le x _).trans ((isortB_perm le r).cons x)
theorem insB_pw {α : Type} {le : α → α → Bool} (ht : ∀ a b c, le a b = true → le b c = true → le a c = true) (hl : ∀ a b, (le a b || le b a) = true) (x : α) : ∀ {l : List α}, (l.Pairwise fun a b => le a b = true) → (insB le x l).Pairwise fun a b => le a b = true
  | [], _ => List.pairwise_singleton _ _
  | y :: r, h => by
    obtain ⟨h1, h2⟩ := List.pairwise_cons.mp h
    rw [insB]
    split
    · rename_i e
      refine List.pairwise_cons.mpr ⟨fun z hz => ?_, h⟩
      rcases List.mem_cons.mp hz with rfl | hz
      · exact e
      · exact ht _ _ _ e (h1 z hz)
    · rename_i e
      refine List.pairwise_cons.mpr ⟨fun z hz => ?_, insB_pw ht hl x h2⟩
      rcases List.mem_cons.mp ((insB_perm le x r).mem_iff.mp hz) with rfl | hz
      · have := hl z y
        rw [Bool.not_eq_true] at e
        rwa [e, Bool.false_or] at this
      · exact h1 z hz
theorem isortB_pw {α : Type} {le : α → α → Bool} (ht : ∀ a b c, le a b = true → le b c = true → le a c = true) (hl : ∀ a b, (le a b || le b a) = true) : ∀ l : List α, (isortB le l).Pairwise fun a b => le a b = true
  | [] => .nil
  | x :: r => insB_pw ht hl x (isortB_pw ht hl r)
theorem sortI_pw (is : List Int) : (sortI is).Pairwise (· ≤ ·) := (isortB_pw (le := fun a b : Int => decide (a ≤ b)) (fun a b c h1 h2 => by simp only [decide_eq_true_eq] at *; omega) (fun a b => by simp only [Bool.or_eq_true, decide_eq_true_eq]; omega) _).imp of_decide_eq_true
theorem sortI_perm (is : List Int) : (sortI is).Perm is.eraseDups := isortB_perm _ _
theorem sortI_uniq {is M : List Int} (nd : M.Nodup) (hm : ∀ x, x ∈ M ↔ x ∈ is) (pw : M.Pairwise (· ≤ ·)) : M = sortI is := by
  have pm : M.Perm (sortI is) := ((List.perm_ext_iff_of_nodup nd (nodup_dups _ _ (Nat.le_refl _))).mpr fun x => by rw [hm x, List.mem_eraseDups]).trans (sortI_perm is).symm
  exact List.Perm.eq_of_pairwise (fun a b _ _ h1 h2 => Int.le_antisymm h1 h2) pw (sortI_pw is) pm
theorem sortPr_perm (ps : List (Int × Int)) : (sortPr ps).Perm ps.eraseDups := isortB_perm _ _
theorem sortPr_pw (ps : List (Int × Int)) : (sortPr ps).Pairwise fun p q => prLe p q = true := by
  refine isortB_pw (fun a b c h1 h2 => ?_) (fun a b => ?_) _
  · unfold prLe at *
    simp only [decide_eq_true_eq] at *
    omega
  · unfold prLe
    simp only [Bool.or_eq_true, decide_eq_true_eq]
    omega
theorem sortPr_uniq {ps M : List (Int × Int)} (hb : ∀ p ∈ ps, 0 ≤ p.1 ∧ p.1 < 64 ∧ 0 ≤ p.2 ∧ p.2 < 64) (nd : M.Nodup) (hm : ∀ x, x ∈ M ↔ x ∈ ps) (pw : M.Pairwise fun p q => prLe p q = true) : M = sortPr ps := by
  have pm : M.Perm (sortPr ps) := ((List.perm_ext_iff_of_nodup nd (nodup_dups _ _ (Nat.le_refl _))).mpr fun x => by rw [hm x, List.mem_eraseDups]).trans (sortPr_perm ps).symm
  refine List.Perm.eq_of_pairwise (fun a b ha hb' h1 h2 => ?_) pw (sortPr_pw ps) pm
  have b1 := hb a ((hm a).mp ha)
  have b2 := hb b ((hm b).mp (pm.mem_iff.mpr hb'))
  unfold prLe at h1 h2
  simp only [decide_eq_true_eq] at h1 h2
  refine Prod.ext ?_ ?_ <;> omega
theorem asPrs_some : ∀ {xs : List PV} {ps : List (Int × Int)}, asPrs xs = some ps → xs = ps.map prV ∧ ∀ p ∈ ps, 0 ≤ p.1 ∧ p.1 < 64 ∧ 0 ≤ p.2 ∧ p.2 < 64
  | [], ps, h => by cases h; exact ⟨rfl, fun p hp => nomatch hp⟩
  | x :: xs, ps, h => by
    unfold asPrs at h
    split at h
    · rename_i heq; cases heq
    · rename_i heq
      cases heq
      split at h
      · rename_i hb
        obtain ⟨qs, e, rfl⟩ := Option.map_eq_some_iff.mp h
        obtain ⟨h1, h2⟩ := asPrs_some e
        refine ⟨by rw [h1]; rfl, fun p hp => ?_⟩
        rcases List.mem_cons.mp hp with rfl | hp
        · exact hb
        · exact h2 p hp
      · cases h
    · cases h
/-- the two numbers of a pair -/
def l2 (p : Int × Int) : List Int := [p.1, p.2]
theorem RpL.prs {T : Wd} {g : Gh} : ∀ {vs : List V} {ps : List (Int × Int)}, RpL T g vs (ps.map prV) → ∃ ks : List (Addr × List Int), vs = ks.map (fun p => V.ref p.1) ∧ ks.map (·.2) = ps.map l2 ∧ ∀ k ∈ ks, SqT T.K g.F k.1 (k.2.map V.int)
  | _, [], h => by cases h; exact ⟨[], rfl, rfl, fun k hk => nomatch hk⟩
  | _, p :: ps, h => by
    rw [List.map_cons] at h
    cases h with
    | cons r t =>
      obtain ⟨ks, h1, h2, h3⟩ := RpL.prs t
      unfold prV at r
      cases r with
      | @tup a vs _ e r2 =>
        cases r2 with
        | cons q1 q2 =>
          cases q1
          cases q2 with
          | cons q3 q4 =>
            cases q3
            cases q4
            refine ⟨(a, l2 p) :: ks, by rw [h1]; rfl, by rw [List.map_cons, h2]; rfl, fun k hk => ?_⟩
            rcases List.mem_cons.mp hk with rfl | hk
            · exact e
            · exact h3 k hk
section
variable {X : Cx} {W : WX} {e a b d : Expr} {es : List Expr} {ev ea eb ed : Ev} {pos p p2 : Pos}
theorem cr_setP (hc : X.calm = true) (hu : X.A.units + 64 < cLine) : CallR X (.type "set") (fun vs H Q => ∃ (t : Addr) (ks : List (Addr × List Int)), vs = [.ref t] ∧ (SqT X.K H t (ks.map fun p => V.ref p.1) ∨ SqL X.K H t (ks.map fun p => V.ref p.1)) ∧ (∀ p ∈ ks, SqT X.K H p.1 (p.2.map V.int)) ∧ ks.length < 64 ∧
    ∀ a L, H a = none → (∀ p ∈ L, p ∈ ks) → (∀ p ∈ ks, p.2 ∈ L.map (·.2)) → Q (.ref a) (upd H a (SetTO X.prog X.w a L))) := by
  intro pins s σ H vs us Q I r h
  obtain ⟨t, ks, rfl, ht, hk, hl, q⟩ := h
  rcases ht with ht | ht
  · rw [Vals.ref1 r]
    obtain ⟨its, rv, pt, hz⟩ := I.tuple ht
    have er := refs_of_vals rv
    have hsz : its.toArray.size = ks.length := by rw [List.size_toArray, ← rv.length, List.length_map]
    have dead : s.heap.get? s.heap.objs.size = none := by
      cases z : s.heap.get? s.heap.objs.size with
      | none => rfl
      | some o => exact absurd (Heap.lt_size z) (Nat.lt_irrefl _)
    refine set_tup (I.ok.hd hc) pt (G := fun h' => ∃ L es ep t, SetTR X.prog X.w h' s.heap.objs.size L es ep t ∧ Got ks ks.length L) (fun R J s1 Wk nS st atS dJ kp k => ?_) fun h' tk hG kp => ?_
    · refine set_update_tups Wk _ nS ks hsz hl (fun i v hv => ?_) s.heap (fun p hp => I.isT (hk p hp)) dead (fun b hb => by rw [List.mem_singleton.mp hb]; exact dJ) (show X.A.units + 3 < cLine by omega) its.toArray.size 0 s1 (Nat.sub_zero _) (Nat.zero_le _) st kp ⟨[], #[], 0, _, setTR_fresh atS, Got.zero ks⟩ ?_
      · rw [← Array.getElem?_toList] at hv
        have hv : its[i]? = some v := by simpa using hv
        rw [er, List.getElem?_map] at hv
        obtain ⟨p, e1, e2⟩ := Option.map_eq_some_iff.mp hv
        exact ⟨p, e1, e2.symm⟩
      · intro s' L es ep t hm R' g' kp'
        rw [hsz] at g'
        exact k s' hm ⟨L, es, ep, t, R', g'⟩
    · obtain ⟨L, es, ep, t, R', g'⟩ := hG
      refine ⟨.ref s.heap.objs.size, _, I.laid (t' := tk) kp (Nat.le_refl _) (setTO_new R'.t0), rfl, q _ L (I.hok.fresh (Nat.le_refl _)) (fun p hp => ?_) fun p hp => ?_⟩
      · exact List.mem_of_mem_take (g'.sub p hp)
      · exact g'.all p (by rw [List.take_length]; exact hp)
  · exact cr_setOfT hc hu pins s σ H _ us Q I r ⟨t, ks, rfl, ht, hk, hl, q⟩
theorem code_l2 (p : Int × Int) : TS.code 64 (l2 p) = p.1 * 64 + p.2 := code_pair p.1 p.2
theorem x_sortedSet (hc : X.calm = true) (hu : X.A.units + 64 < cLine) (k : BOk X "sorted") (k2 : BOk X "set") (ha : XB X W a ea) (hs : notStar a = true) : XO X W (.Call (.Name "sorted" p) [.Call (.Name "set" p2) [a] [] pos2] [] pos) (b1 .sortedSet ea) := by
  refine pe_weak (pe_callB (cr_or (cr_sortedT hc) (cr_sortedBig hc)) k.gl k.no (by decide +kernel) (pa_cons (pe_callTy (cr_or (cr_setP hc hu) (cr_setBig hc)) k2.gl k2.no (by decide +kernel) (pa_cons ha pa_nil (star_cons hs)) k2.nn k2.nd (star_cons hs) rfl) pa_nil rfl) k.nn k.nd rfl rfl) fun σ H Q h => ?_
  have h' := tR.one (f := fun xs c => pureR (bltop .sortedSet xs) c) h
  refine (tR.one h').mono fun x g1 c1 H1 ⟨h1, d1, k1⟩ v cv => ?_
  obtain ⟨_, d2, k2⟩ := k1 g1 H1 Pres.refl h1
  obtain ⟨z, ez, kz⟩ := k2.pure
  unfold bltop at ez
  simp only at ez
  obtain ⟨xs, e1, e2⟩ := Option.bind_eq_some_iff.mp ez
  split at e2
  rotate_left
  · obtain ⟨is, e3, e4⟩ := Option.bind_eq_some_iff.mp e2
    split at e4
    · rename_i hlt
      cases e4
      obtain ⟨a, vs, rfl, ea, ra⟩ := seqOf_ct h1 e1 cv
      rw [ra.ints_of e3] at ea
      refine .inr ⟨a, is, rfl, ea, hlt, fun b n hb0 hn => ?_⟩
      obtain ⟨p', h''⟩ := h1.fresh (o := SetO X.w b (fun j => decide (j ∈ is)) n) hb0
      refine .inr ⟨b, _, n, rfl, upd_same, by omega, fun ms p0 nd pw mem hp0 => ?_⟩
      have em : ms = sortI is := sortI_uniq nd (fun x => by rw [mem x]; exact decide_eq_true_iff) pw
      have rr : ∀ ms : List Int, RpL (wd X) g1 (ms.map V.int) (ms.map PV.int) := fun ms => by
        induction ms with
        | nil => exact .nil
        | cons x r ih => exact .cons (.int _) ih
      have fin : FinO (wd X) g1 (upd H1 b (SetO X.w b (fun j => decide (j ∈ is)) n)) c1 Q (.lst ((sortI is).map .int)) := fun g' H' a p'' h' na nf nc o => kz g' H' (p'.trans p'') h' a (d1 a (p'.dead na)) nf nc o
      rw [em]
      exact fin.newL h'' (rr _) p0 hp0
    · cases e4
  rename_i ps e3
  have e4 := e2
  split at e4
  · rename_i hlt
    cases e4
    obtain ⟨a, vs, rfl, ea, ra⟩ := seqOf_ct h1 e1 cv
    obtain ⟨rfl, hb⟩ := asPrs_some e3
    obtain ⟨ks, rfl, hk2, hk3⟩ := ra.prs
    have hlen : ks.length = ps.length := by have := congrArg List.length hk2; simpa using this
    have hks : ∀ q ∈ ks, ∃ p ∈ ps, q.2 = l2 p := fun q hq => by
      have : q.2 ∈ ks.map (·.2) := List.mem_map.mpr ⟨q, hq, rfl⟩
      rw [hk2] at this
      obtain ⟨p, hp, e⟩ := List.mem_map.mp this
      exact ⟨p, hp, e.symm⟩
    refine .inl ⟨a, ks, rfl, ea, fun q hq => h1.sqT (hk3 q hq), by omega, fun b L hb0 hL1 hL2 => ?_⟩
    obtain ⟨p', h''⟩ := h1.fresh (o := SetTO X.prog X.w b L) hb0
    refine .inl ⟨b, L, 2, 64, rfl, upd_same, fun q hq => ?_, by decide, fun q hq => ?_, fun L' p0 pm nd hl' pw hp0 => ?_⟩
    · exact h''.sqT (hk3 q (hL1 q hq))
    · obtain ⟨p, hp, e⟩ := hks q (hL1 q hq)
      rw [e]
      refine ⟨rfl, fun m hm => ?_⟩
      have := hb p hp
      unfold l2 at hm
      rcases List.mem_cons.mp hm with rfl | hm
      · exact ⟨this.1, this.2.1⟩
      · rw [List.mem_singleton.mp hm]; exact ⟨this.2.2.1, this.2.2.2⟩
    · have hL' : ∀ q ∈ L', q ∈ ks := fun q hq => hL1 q (pm.mem_iff.mp hq)
      have toP : ∀ M : List (Addr × List Int), (∀ q ∈ M, q ∈ ks) → ∃ N : List (Int × Int), M.map (·.2) = N.map l2 := fun M => by
        induction M with
        | nil => intro _; exact ⟨[], rfl⟩
        | cons q M ih =>
          intro hq
          obtain ⟨N, e⟩ := ih fun r hr => hq r (List.mem_cons_of_mem _ hr)
          obtain ⟨p, _, e2⟩ := hks q (hq q List.mem_cons_self)
          exact ⟨p :: N, by rw [List.map_cons, List.map_cons, e, e2]⟩
      obtain ⟨N, eN⟩ := toP L' hL'
      have inj : ∀ p q : Int × Int, l2 p = l2 q → p = q := fun p q e => by
        unfold l2 at e
        injection e with e1 e2
        injection e2 with e2 _
        exact Prod.ext e1 e2
      have eN2 : N = sortPr ps := by
        refine sortPr_uniq hb ?_ (fun x => ?_) ?_
        · rw [eN] at nd
          exact List.Pairwise.of_map l2 (fun _ _ hne e => hne (congrArg l2 e)) nd
        · constructor
          · intro hx
            have : l2 x ∈ L'.map (·.2) := by rw [eN]; exact List.mem_map.mpr ⟨x, hx, rfl⟩
            obtain ⟨q, hq, e⟩ := List.mem_map.mp this
            obtain ⟨p, hp, e2⟩ := hks q (hL' q hq)
            rw [← inj p x (e2.symm.trans e)]
            exact hp
          · intro hx
            have : l2 x ∈ ks.map (·.2) := by rw [hk2]; exact List.mem_map.mpr ⟨x, hx, rfl⟩
            obtain ⟨q, hq, e⟩ := List.mem_map.mp this
            have m2 := hL2 q hq
            obtain ⟨q', hq', e'⟩ := List.mem_map.mp m2
            have : l2 x ∈ L'.map (·.2) := List.mem_map.mpr ⟨q', pm.mem_iff.mpr hq', e'.trans e⟩
            rw [eN] at this
            obtain ⟨y, hy, ey⟩ := List.mem_map.mp this
            rw [← inj y x ey]
            exact hy
        · have z : (L'.map (·.2)).Pairwise fun k1 k2 => TS.code 64 k1 ≤ TS.code 64 k2 := List.pairwise_map.mpr pw
          rw [eN, List.pairwise_map] at z
          refine z.imp fun {p q} h => ?_
          rw [code_l2, code_l2] at h
          exact decide_eq_true h
      have rl : ∀ (M : List (Addr × List Int)) (N : List (Int × Int)), (∀ q ∈ M, q ∈ ks) → M.map (·.2) = N.map l2 → RpL (wd X) g1 (M.map fun q => V.ref q.1) (N.map prV) := fun M => by
        induction M with
        | nil =>
          intro N _ e
          cases N with
          | nil => exact .nil
          | cons p N => cases e
        | cons q M ih =>
          intro N hq e
          cases N with
          | nil => cases e
          | cons p N =>
            rw [List.map_cons, List.map_cons] at e
            injection e with e1 e2
            refine .cons ?_ (ih N (fun r hr => hq r (List.mem_cons_of_mem _ hr)) e2)
            have := hk3 q (hq q List.mem_cons_self)
            rw [e1] at this
            exact .tup this (.cons (.int _) (.cons (.int _) .nil))
      have rr := rl L' N hL' eN
      rw [eN2] at rr
      have fin : FinO (wd X) g1 (upd H1 b (SetTO X.prog X.w b L)) c1 Q (.lst ((sortPr ps).map prV)) := fun g' H' a p'' h' na nf nc o => kz g' H' (p'.trans p'') h' a (d1 a (p'.dead na)) nf nc o
      exact fin.newL h'' rr p0 hp0
  · cases e4
end
end PP

set_option Elab.async false
set_option linter.all false
set_option maxRecDepth 100000
/-! PP6d: dict of pairs. -/
namespace PP
open PySem PySem.Spec PyProof.Rows L2
theorem isKey_tup {k : PV} (h : isKey k = true) : ∃ xs, k = .tup xs ∧ xs.all (keyd 7) = true := by
  cases k with
  | tup xs => exact ⟨xs, rfl, by simpa [isKey, keyd] using h⟩
  | _ => simp [isKey] at h
section
variable {X : Cx} {W : WX} {e a b d : Expr} {es : List Expr} {ev ea eb ed : Ev} {pos p p2 : Pos}
variable {g : Gh} {H : Hp} {c : List PV} {s : Shared} {σ : L2.St} {pins : List (Addr × Obj)}
theorem RpL.pairs (I : Inv X pins σ H s) (hr : HR (wd X) g c H) : ∀ {vs : List V} {items : List PV} {kvs : List (PV × PV)}, RpL (wd X) g vs items → asPairs items = some kvs →
    ∃ (ts : List Addr) (xs : List (NestedKey × Addr × Value)), vs = ts.map V.ref ∧ ts.length = xs.length ∧ xs.length = kvs.length ∧ (∀ (j : Nat) (x : NestedKey × Addr × Value), xs[j]? = some x → ∃ t : Addr, ts[j]? = some t ∧ PairAt s.heap t (.ref x.2.1) x.2.2) ∧
      (∀ x ∈ xs, (nestedKind X.prog X.w).is s.heap x.1 x.2.1) ∧ xs.map (·.1) = kvs.map (fun p => nk p.1) ∧ RpD (wd X) g (xs.map (entryOfKey (nestedKind X.prog X.w))) kvs
  | _, _, kvs, .nil, h => by
    cases h
    exact ⟨[], [], rfl, rfl, rfl, fun j x e => by simp at e, fun x hx => (nomatch hx), rfl, .nil⟩
  | _, _, kvs, .cons (v := v0) (p := p0) (vs := vs) (ps := ps) rp rt, h => by
    unfold asPairs at h
    split at h
    · rename_i heq; cases heq
    · rename_i k v r heq
      cases heq
      split at h
      · rename_i hk
        obtain ⟨kvs', e, rfl⟩ := Option.map_eq_some_iff.mp h
        obtain ⟨ts, xs, h1, h2, h3, h4, h5, h6, h7⟩ := RpL.pairs I hr rt e
        cases rp with
        | @tup t ws _ et rw =>
          cases rw with
          | @cons kv _ _ _ rk rw2 =>
            cases rw2 with
            | @cons vv _ _ _ rv rw3 =>
              cases rw3
              obtain ⟨its, rvs, pt, _⟩ := I.tuple (hr.sqT et)
              cases rvs with
              | @cons _ u1 _ us1 z1 z2 =>
                cases z2 with
                | @cons _ u2 _ us2 z3 z4 =>
                  cases z4
                  obtain ⟨ka, rfl, rfl, hi⟩ := rk.key I hr hk z1
                  refine ⟨t :: ts, (nk k, ka, u2) :: xs, by rw [h1]; rfl, by simp [h2], by simp [h3], fun j x ex => ?_, fun x hx => ?_, by rw [List.map_cons, h6]; rfl, ?_⟩
                  · cases j with
                    | zero =>
                      simp at ex
                      subst ex
                      exact ⟨t, rfl, .inl pt⟩
                    | succ j =>
                      obtain ⟨t', e1, e2⟩ := h4 j x (by simpa using ex)
                      exact ⟨t', by simpa using e1, e2⟩
                  · rcases List.mem_cons.mp hx with rfl | hx
                    · exact hi
                    · exact h5 x hx
                  · rw [List.map_cons]
                    exact .cons hk rfl rk rfl z3 rv h7
      · cases h
    · cases h
theorem distK_nd : ∀ {kvs : List (PV × PV)}, (∀ p ∈ kvs, isKey p.1 = true) → distK kvs = true → (kvs.map fun p => nk p.1).Nodup
  | [], _, _ => .nil
  | (k, v) :: r, hk, h => by
    rw [distK, Bool.and_eq_true] at h
    rw [List.map_cons, List.nodup_cons]
    refine ⟨fun hm => ?_, distK_nd (fun p hp => hk p (List.mem_cons_of_mem _ hp)) h.2⟩
    obtain ⟨q, hq, e⟩ := List.mem_map.mp hm
    have k0 : isKey k = true := hk _ List.mem_cons_self
    have key : ∀ r : List (PV × PV), (∀ p ∈ r, isKey p.1 = true) → q ∈ r → (dget r k).isSome = true := fun r => by
      induction r with
      | nil => intro _ z; cases z
      | cons x r ih =>
        obtain ⟨k1, v1⟩ := x
        intro hr hm
        rw [dget]
        by_cases hh : peq k1 k = true
        · rw [if_pos hh]; rfl
        · rw [if_neg hh]
          rcases List.mem_cons.mp hm with rfl | hm
          · rw [key_eq (hr _ List.mem_cons_self) k0] at hh
            exact absurd (decide_eq_true e) hh
          · exact ih (fun p hp => hr p (List.mem_cons_of_mem _ hp)) hm
    have := key r (fun p hp => hk p (List.mem_cons_of_mem _ hp)) hq
    have h1 := h.1
    cases hd : dget r k with
    | none => rw [hd] at this; cases this
    | some z => rw [hd] at h1; cases h1
theorem asPairs_keys : ∀ {xs : List PV} {kvs : List (PV × PV)}, asPairs xs = some kvs → (∀ p ∈ kvs, isKey p.1 = true) ∧ kvs.length = xs.length
  | [], kvs, h => by cases h; exact ⟨fun p hp => (nomatch hp), rfl⟩
  | x :: xs, kvs, h => by
    unfold asPairs at h
    split at h
    · rename_i heq; cases heq
    · rename_i heq
      cases heq
      split at h
      · rename_i hk
        obtain ⟨r, e, rfl⟩ := Option.map_eq_some_iff.mp h
        obtain ⟨h1, h2⟩ := asPairs_keys e
        refine ⟨fun p hp => ?_, by simp [h2]⟩
        rcases List.mem_cons.mp hp with rfl | hp
        · exact hk
        · exact h1 p hp
      · cases h
    · cases h
theorem objO_new {P : Program} {w : World} {H : Hp} {h : Heap} {a : Addr} {o : Obj} (ho : h.get? a = some o) : ObjOk P w H h a (objO a o) :=
  ⟨ho, ⟨o, ho⟩, fun h1 h2 p k => k o p⟩
theorem paired_imp {α β : Type} {F G : α → β → Prop} (h : ∀ a b, F a b → G a b) : ∀ {l : List α} {m : List β}, Paired F l m → Paired G l m
  | _, _, .nil => .nil
  | _, _, .cons r t => .cons (h _ _ r) (paired_imp h t)
theorem mergeK_new : ∀ (more acc : List (Key × V)), ((acc ++ more).map (·.1)).Nodup → more.foldl (fun acc kv => putK acc kv.1 kv.2) acc = acc ++ more
  | [], acc, _ => by simp
  | kv :: more, acc, h => by
    rw [List.foldl_cons]
    have hn : (acc.any fun x => decide (x.1 = kv.1)) = false := by
      rw [List.any_eq_false]
      intro x hx hh
      rw [List.map_append, List.map_cons, List.nodup_append] at h
      exact h.2.2 _ (List.mem_map.mpr ⟨x, hx, rfl⟩) _ List.mem_cons_self (of_decide_eq_true hh)
    have e : putK acc kv.1 kv.2 = acc ++ [kv] := by
      unfold putK
      rw [hn, if_neg Bool.false_ne_true]
    rw [e, mergeK_new more (acc ++ [kv]) (by rw [List.append_assoc]; exact h), List.append_assoc]; rfl
theorem RpL.ipairs {T : Wd} {g : Gh} : ∀ {vs : List V} {xs : List PV} {p : List Int × List PV}, RpL T g vs xs → asIP xs = some p → ∃ (pa : List Addr) (kvs : List (Key × V)), vs = pa.map V.ref ∧ Paired (fun q kv => SqT T.K g.F q [kV kv.1, kv.2]) pa kvs ∧ kvs.map (·.1) = p.1.map Sum.inl ∧ RpL T g (kvs.map (·.2)) p.2
  | _, _, _, .nil, e => by
    cases e
    exact ⟨[], [], rfl, .nil, rfl, .nil⟩
  | _, _, _, .cons (p := x) r t, e => by
    unfold asIP at e
    split at e
    · rename_i h
      cases h
    · rename_i k v r' h
      cases h
      obtain ⟨q, e1, rfl⟩ := Option.map_eq_some_iff.mp e
      obtain ⟨pa, kvs, rfl, h2, h3, h4⟩ := RpL.ipairs t e1
      cases r with
      | @tup a vs _ ea ra =>
        cases ra with
        | cons r1 t1 =>
          cases t1 with
          | cons r2 t2 =>
            cases t2
            cases r1
            exact ⟨a :: pa, (.inl k, _) :: kvs, rfl, .cons ea h2, by rw [List.map_cons, h3]; rfl, .cons r2 h4⟩
    · cases e
theorem b_dictI (hc : X.calm = true) : CallR X (.type "dict") (rCO (wd X) (bltop .dictI)) := by
  intro pins s σ H vs us Q I r h
  obtain ⟨g, c, ps, z, hr, cx, e, fin⟩ := h
  unfold bltop at e
  split at e <;> first | (cases e; done) | skip
  all_goals first | contradiction | skip
  rename_i xs _
  obtain ⟨p, e1, e2⟩ := Option.bind_eq_some_iff.mp e
  split at e2 <;> cases e2
  rename_i hd
  rw [Bool.and_eq_true, decide_eq_true_eq, decide_eq_true_eq] at hd
  obtain ⟨v, rfl, cz⟩ := cx.one
  obtain ⟨a, ws, rfl, ea, ra⟩ := cz.lst hr
  obtain ⟨pa, kvs, rfl, h2, h3, h4⟩ := ra.ipairs e1
  have hm : mergeK [] kvs = kvs := mergeK_new kvs [] (by
    rw [List.nil_append, h3]
    exact List.Pairwise.map _ (fun a b hab z => hab (Sum.inl.inj z)) hd.1)
  refine call_dictP hc pins s σ H _ us Q I r ⟨a, pa, kvs, rfl, SqL.of ea, paired_imp (fun _ _ q => hr.sqT q) h2, fun q hq => ?_⟩
  rw [hm]
  obtain ⟨x, h'⟩ := hr.fresh (o := .dK kvs) hq
  obtain ⟨n1, n2⟩ := hr.ne hq
  exact fin _ _ q x h' (.of hq) n1 n2 ⟨n2, kvs, upd_same, h3, h4⟩
theorem b_dictO (hc : X.calm = true) (hu : X.A.units + 70 < cLine) : CallR X (.type "dict") (rCO (wd X) (bltop .dict)) := by
  intro pins s σ H vs us Q I r h
  obtain ⟨g, c, ps, z, hr, cx, e, fin⟩ := h
  unfold bltop at e
  split at e <;> first | (cases e; done) | skip
  all_goals first | contradiction | skip
  rename_i items
  obtain ⟨v, rfl, cz⟩ := cx.one
  obtain ⟨kvs, e1, e2⟩ := Option.bind_eq_some_iff.mp e
  split at e2
  · rename_i hcond
    cases e2
    rw [Bool.and_eq_true, decide_eq_true_eq] at hcond
    obtain ⟨a, ws, rfl, ea, ra⟩ := cz.lst hr
    rw [Vals.ref1 r]
    obtain ⟨ts, xs, rfl, l1, l2', h4, h5, h6, h7⟩ := ra.pairs I hr e1
    obtain ⟨hkeys, hklen⟩ := asPairs_keys e1
    obtain ⟨its, rv, pl, hz⟩ := I.list (SqL.of ea)
    have er := refs_at rv
    subst er
    have nd : (xs.map (·.1)).Nodup := by rw [h6]; exact distK_nd hkeys hcond.2
    have lenx : (xs.map fun x => (Value.ref x.2.1, x.2.2)).length = xs.length := List.length_map _
    refine call_dict_pairsH (knd := nestedKind X.prog X.w) (ps := xs) (PairArg.list a (ts.map Value.ref).toArray (fun j => ts.getD j 0) (xs.map fun x => (Value.ref x.2.1, x.2.2))) (I.ok.hd hc) ?_ ⟨pl, ?_⟩ ⟨by rw [lenx], ?_⟩ ?_ ?_ ?_
    · show X.A.units + 2 + 8 < cLine
      omega
    · refine ⟨by rw [lenx, List.size_toArray, List.length_map, l1], fun j k v hj => ?_⟩
      rw [List.getElem?_map] at hj
      obtain ⟨x, hx, ex⟩ := Option.map_eq_some_iff.mp hj
      cases ex
      obtain ⟨t, ht, pa⟩ := h4 j x hx
      have : ts.getD j 0 = t := by rw [List.getD_eq_getElem?_getD, ht]; rfl
      show _ = some (Value.ref (ts.getD j 0)) ∧ PairAt s.heap (ts.getD j 0) _ _
      rw [this]
      exact ⟨by simp [ht], pa⟩
    · intro i key v hrel
      have hrel : (xs.map fun x => (Value.ref x.2.1, x.2.2))[i]? = some (key, v) := hrel
      rw [List.getElem?_map] at hrel
      obtain ⟨x, hx, ex⟩ := Option.map_eq_some_iff.mp hrel
      cases ex
      exact ⟨x.1, x.2.1, hx, rfl⟩
    · intro h' hk x hx
      refine nestedKind_stays.stays (fun b o vs n ho hd => hk b o (Nat.ne_of_lt (Heap.lt_size ho)) (by simp) ho) (h5 x hx)
    · rw [lenx, l2', hklen, lim_eq]
      exact hcond.1
    · intro h' tk hd' hk
      rw [storedAllH_nil_of_nodup xs nd] at hd'
      obtain ⟨o, es, ep, ho, hex, hdat, hes, _, _⟩ := hd'
      have hm : (s.heap.objs.size == sysModules) = false := beq_eq_false_iff_ne.mpr (Nat.ne_of_gt I.big)
      have hn : H s.heap.objs.size = none := I.hok.fresh (Nat.le_refl _)
      obtain ⟨p', h''⟩ := hr.fresh (o := objO s.heap.objs.size o) hn
      obtain ⟨n1, n2⟩ := hr.ne hn
      refine ⟨.ref s.heap.objs.size, _, I.laid (t' := tk) (fun b o e => hk b o (by simp) e) (Nat.le_refl _) (objO_new ho), rfl, fin _ _ _ p' h'' (.of hn) n1 n2 ⟨n2, o, upd_same, hm, hex, ⟨es, ep, hdat, ?_⟩, distK_nd hkeys hcond.2, by rw [hklen]; exact hcond.1⟩⟩
      rw [hes]
      exact h7
  · cases e2
end
end PP

set_option Elab.async false
set_option linter.all false
set_option maxRecDepth 100000
/-! PP10b: enumerate of a tuple. -/
namespace PP
open PySem PySem.Spec PyProof.Rows L2
section
variable {prog : Program} {w : World} {A : Around} {E : Value → Shared → Prop} {s : Shared}
theorem nextOf_tup_item {it t : Addr} {i : Nat} {items : Array Value} {x : Value} {Q : Value → Shared → Prop} (hit : s.heap.IsTupleIter it t i) (ht : s.heap.IsTuple t items) (hx : items[i]? = some x)
    (hQ : ∀ h' : Heap, h'.IsTupleIter it t (i + 1) → Heap.SameBut it s.heap h' → Q x { s with heap := h' }) : wpAny (model prog w) A (Builtin.SmallTypes.nextOf (.ref it)) Q E s := by
  obtain ⟨o, ho, hc, hd⟩ := id hit
  obtain ⟨ol, hol, hcl, nl, hdl⟩ := ht
  refine wpAny_bind (wpAny_callSpecial?_slot hit.typeIs PySem.F.slot_tuple_iterator_next (wpAny_call_entry PySem.F.slot_tuple_iterator_next hit.typeIs PySem.F.entry_tuple_iterator_next ?_ (PySem.F.args_tuple_iterator_next_1 _)))
  refine wpAny_bind (wpAny_pure ?_)
  refine wpAny_bind (wpAny_field ho hd rfl ?_)
  refine wpAny_ite_false rfl ?_
  refine wpAny_bind (wpAny_field ho hd rfl ?_)
  refine wpAny_bind (wpAny_seqItems hol hdl ?_)
  show wpAny _ _ (match items[i]? with
    | some x => do
      setField (Value.ref it) 1 (rawInt (↑i + 1))
      ret x
    | none => do
      rule (toString "tuple_iterator.__next__" ++ toString ".end")
      setField (Value.ref it) 0 Value.none
      Builtin.SmallTypes.stopIteration) _ _ _
  rw [hx]
  refine wpAny_bind (wpAny_setField ho hd (by simp) ?_)
  refine wpAny_pure ⟨x, rfl, wpAny_pure (hQ _ ?_ ?_)⟩
  · refine ⟨_, Heap.get?_update_self _ ho (Obj.isFreed_of_fields (Obj.data_mapFields hd _)), (Obj.cls_mapFields o _).trans hc, ?_⟩
    rw [Obj.data_mapFields hd]
    simp [rawInt]
  · exact Heap.SameBut.update _ _ _
theorem nextOf_tup_end {it t : Addr} {i : Nat} {items : Array Value} {Q : Value → Shared → Prop} (hh : A.handled = none) (hit : s.heap.IsTupleIter it t i) (ht : s.heap.IsTuple t items) (hx : items[i]? = none)
    (hE : ∀ (h' : Heap) (e : Addr), Heap.ExtBut it s.heap h' → (∃ o, h'.get? e = some o ∧ o.cls = .type "StopIteration") → E (.ref e) { s with heap := h' }) : wpAny (model prog w) A (Builtin.SmallTypes.nextOf (.ref it)) Q E s := by
  obtain ⟨o, ho, hc, hd⟩ := id hit
  obtain ⟨ol, hol, hcl, nl, hdl⟩ := ht
  refine wpAny_bind (wpAny_callSpecial?_slot hit.typeIs PySem.F.slot_tuple_iterator_next (wpAny_call_entry PySem.F.slot_tuple_iterator_next hit.typeIs PySem.F.entry_tuple_iterator_next ?_ (PySem.F.args_tuple_iterator_next_1 _)))
  refine wpAny_bind (wpAny_pure ?_)
  refine wpAny_bind (wpAny_field ho hd rfl ?_)
  refine wpAny_ite_false rfl ?_
  refine wpAny_bind (wpAny_field ho hd rfl ?_)
  refine wpAny_bind (wpAny_seqItems hol hdl ?_)
  show wpAny _ _ (match items[i]? with
    | some x => do
      setField (Value.ref it) 1 (rawInt (↑i + 1))
      ret x
    | none => do
      rule (toString "tuple_iterator.__next__" ++ toString ".end")
      setField (Value.ref it) 0 Value.none
      Builtin.SmallTypes.stopIteration) _ _ _
  rw [hx]
  refine wpAny_bind (wpAny_rule ?_)
  refine wpAny_bind (wpAny_setField ho hd (by simp) ?_)
  have hh1 : A.in1.handled = none := hh
  unfold Builtin.SmallTypes.stopIteration newExc raiseNew
  wp_walk
  refine hE _ _ ((Heap.ExtBut.push (fun b o hb e => ?_) _).push _) ⟨_, Heap.get?_push_size _ rfl, rfl⟩
  rw [Heap.get?_update_other _ _ (Ne.symm hb)]
  exact e
set_option maxHeartbeats 4000000 in
theorem pyNext_enumT {e it t : Addr} {i : Nat} {items : Array Value} {x old : Value} {Q : Option Value → Shared → Prop} (he : IsEnum s.heap e it (i : Nat) old) (hit : s.heap.IsTupleIter it t i) (ht : s.heap.IsTuple t items) (hx : items[i]? = some x) (hne : e ≠ it)
    (hQ : ∀ h' : Heap, IsEnumOut h' e it ((i : Nat) + 1) x s.heap.objs.size → h'.IsTupleIter it t (i + 1) → h'.get? s.heap.objs.size = some { cls := .type "tuple", data := .seq #[.int (i : Nat) s.toks, x] } → h'.objs.size = s.heap.objs.size + 1 →
      (∀ b o, b ≠ e → b ≠ it → s.heap.get? b = some o → h'.get? b = some o) → Q (some (.ref s.heap.objs.size)) { s with heap := h', toks := s.toks + 1 }) : wpAny (model prog w) A (pyNext (.ref e)) Q E s := by
  have hT : s.TypeIs (.ref e) "enumerate" := ⟨_, he, rfl⟩
  refine wpAny_bind (wpAny_attempt (wpAny_callSpecial?_slot hT PySem.F.slot_enumerate_next (wpAny_call_entry PySem.F.slot_enumerate_next hT PySem.F.entry_enumerate_next ?_ (PySem.F.args_enumerate_next_1 _))))
  refine wpAny_bind (wpAny_pure ?_)
  refine wpAny_bind (wpAny_field he rfl rfl ?_)
  refine wpAny_bind (nextOf_tup_item hit ht hx fun h1 hit1 sb1 => ?_)
  have he1 : h1.get? e = some { cls := .type "enumerate", data := .fields #[.none, .bool false, .ref it, rawInt (i : Nat), .none, old] } := (sb1.2 e hne).trans he
  refine wpAny_bind (wpAny_field he1 rfl rfl ?_)
  refine wpAny_bind (wpAny_field he1 rfl rfl ?_)
  refine wpAny_ite_true rfl ?_
  refine wpAny_bind (wpAny_mkInt ?_)
  refine wpAny_bind (wpAny_setField_rec he1 (by simp) fun h2 he2 hs2 => ?_)
  refine wpAny_bind (wpAny_setField_rec he2 (by simp) fun h3 he3 hs3 => ?_)
  refine wpAny_bind (wpAny_newTuple ?_)
  have sz3 : h3.objs.size = s.heap.objs.size := hs3.1.trans (hs2.1.trans sb1.1)
  have tup4 : (h3.push { cls := .type "tuple", data := .seq #[.int (i : Nat) s.toks, x] }).get? s.heap.objs.size = some { cls := .type "tuple", data := .seq #[.int (i : Nat) s.toks, x] } := by
    rw [← sz3]
    exact Heap.get?_push_size _ rfl
  have he4 := Heap.get?_push_of_some { cls := .type "tuple", data := .seq #[.int (i : Nat) s.toks, x] } he3
  refine wpAny_bind (wpAny_bind (wpAny_field he4 rfl rfl ?_))
  refine wpAny_pure ?_
  refine wpAny_ite_true rfl ?_
  refine wpAny_bind (wpAny_rule ?_)
  refine wpAny_bind (wpAny_field he4 rfl rfl ?_)
  refine wpAny_bind (wpAny_setField_rec he4 (by simp) fun h5 he5 hs5 => ?_)
  refine wpAny_bind (wpAny_bind (wpAny_setField_rec he5 (by simp) fun h6 he6 hs6 => ?_))
  refine wpAny_setField_rec he6 (by simp) fun h7 he7 hs7 => ?_
  refine wpAny_bind (wpAny_letGo ?_)
  have hel : e < s.heap.objs.size := Heap.lt_size he
  have nes : s.heap.objs.size ≠ e := (Nat.ne_of_lt hel).symm
  have ku : ∀ b o, b ≠ e → b ≠ it → s.heap.get? b = some o → h7.get? b = some o := fun b o be bi q => by
    rw [hs7.2 b be, hs6.2 b be, hs5.2 b be]
    refine Heap.get?_push_of_some _ ?_
    rw [hs3.2 b be, hs2.2 b be, sb1.2 b bi]
    exact q
  have iti : h7.IsTupleIter it t (i + 1) := by
    obtain ⟨o, ho, hc, hd⟩ := hit1
    refine ⟨o, ?_, hc, hd⟩
    have ne : it ≠ e := Ne.symm hne
    rw [hs7.2 it ne, hs6.2 it ne, hs5.2 it ne]
    refine Heap.get?_push_of_some _ ?_
    rw [hs3.2 it ne, hs2.2 it ne]
    exact ho
  have fin := hQ h7 (by
    show h7.get? e = _
    rw [he7]
    simp [sz3]) iti (by rw [hs7.2 _ nes, hs6.2 _ nes, hs5.2 _ nes]; exact tup4) (by rw [hs7.1, hs6.1, hs5.1, Heap.size_push, sz3]) ku
  rw [← sz3] at fin
  exact wpAny_pure ⟨_, rfl, wpAny_pure fin⟩
theorem meets_enumT (t : Addr) (items : Array Value) (n : Nat) (dct : Option Addr) (sl : Array (Option Value)) : Meets (Builtin.«enumerate.__new__» { pos := [.type "enumerate", .ref t] }) fun _ R s =>
    s.heap.get? t = some { cls := .type "tuple", dict := dct, data := .seq items n, slots := sl } ∧
      R (.ok (.ret (.ref (s.heap.push { cls := .type "tuple_iterator", data := .fields #[.ref t, .int 0 0] }).objs.size))) { s with heap := (s.heap.push { cls := .type "tuple_iterator", data := .fields #[.ref t, .int 0 0] }).push { cls := .type "enumerate", data := .fields #[.none, .bool false, .ref s.heap.objs.size, rawInt 0, .none, .none] } } :=
  Meets.of_wp fun prog w A R s ⟨hl, h⟩ => by
    have ht : s.heap.IsTuple t items := ⟨_, hl, rfl, _, rfl⟩
    have sub1 := F.called_enumerate.sub
    have fin : wpAny (model prog w) A.in1 (do
        let it ← pyIter (.ref t)
        let r ← Builtin.SmallTypes.newRecord (.type "enumerate") (Builtin.SmallTypes.ownedTupleFields ++ [it, rawInt 0, .none, .none])
        ret r) (fun fin s' => ∃ v, fin = Fin.done (Flow.ret v) ∧ R (.ok (.ret v)) s') (fun e s' => R (.error e) s') s := by
      refine wpAny_bind (wpAny_pyIter_tuple ht ?_)
      wp_walk
      exact ⟨_, rfl, h⟩
    wp_walk
    refine wpAny_stack fun fs _ _ _ => ?_
    refine wpAny_pure ?_
    split
    · show wpAny _ _ (if _ then _ else _) _ _ _
      split
      · refine wpAny_bind ?_
        refine wpAny_pure ?_
        exact fin
      · refine wpAny_bind ?_
        refine wpAny_pure ?_
        exact fin
    · refine wpAny_ite_false rfl ?_
      refine wpAny_bind ?_
      refine wpAny_pure ?_
      exact fin
theorem pyNext_enumT_end {e it t : Addr} {i : Nat} {items : Array Value} {old : Value} {Q : Option Value → Shared → Prop} (hh : A.handled = none) (he : IsEnum s.heap e it (i : Nat) old) (hit : s.heap.IsTupleIter it t i) (ht : s.heap.IsTuple t items) (hx : items[i]? = none)
    (hQ : ∀ h' : Heap, Heap.ExtBut it s.heap h' → Q none { s with heap := h' }) : wpAny (model prog w) A (pyNext (.ref e)) Q E s := by
  have hT : s.TypeIs (.ref e) "enumerate" := ⟨_, he, rfl⟩
  refine wpAny_bind (wpAny_attempt (wpAny_callSpecial?_slot hT PySem.F.slot_enumerate_next (wpAny_call_entry PySem.F.slot_enumerate_next hT PySem.F.entry_enumerate_next ?_ (PySem.F.args_enumerate_next_1 _))))
  refine wpAny_bind (wpAny_pure ?_)
  refine wpAny_bind (wpAny_field he rfl rfl ?_)
  refine wpAny_bind (nextOf_tup_end (show A.in1.handled = none from hh) hit ht hx fun h' x he' hx' => ?_)
  obtain ⟨o, ho, hc⟩ := hx'
  exact wpAny_bind (wpAny_isInstance ⟨o, ho, hc⟩ isSubtype_stop (wpAny_pure (hQ h' he')))
theorem call_enumT {t : Addr} {items : Array Value} {Q : Value → Shared → Prop} (ht : s.heap.IsTuple t items)
    (hQ : ∀ h' : Heap, IsEnum h' (s.heap.objs.size + 1) s.heap.objs.size 0 .none → h'.IsTupleIter s.heap.objs.size t 0 → (∀ b o, s.heap.get? b = some o → h'.get? b = some o) → Q (.ref (s.heap.objs.size + 1)) { s with heap := h' }) :
    wpAny (model prog w) A (call (.type "enumerate") [.ref t]) Q E s := by
  obtain ⟨⟨c, dct, dt, sl⟩, hl, hc, n, hd⟩ := ht
  simp only at hc hd
  subst hc hd
  refine callType_new F.called_enumerate (by decide) (F.typeCall_enumerate_1 (.ref t)) (F.newCall_enumerate_1 (.ref t)) (fun obj => F.args_object_init_2 obj (.ref t)) F.entry_enumerate_new (meets_enumT t items n dct sl) ⟨hl, ?_⟩
  have hz : (s.heap.push { cls := .type "tuple_iterator", data := .fields #[.ref t, .int 0 0] }).objs.size = s.heap.objs.size + 1 := Heap.size_push ..
  have he : ((s.heap.push { cls := .type "tuple_iterator", data := .fields #[.ref t, .int 0 0] }).push { cls := .type "enumerate", data := .fields #[.none, .bool false, .ref s.heap.objs.size, rawInt 0, .none, .none] }).get? (s.heap.objs.size + 1) = some { cls := .type "enumerate", data := .fields #[.none, .bool false, .ref s.heap.objs.size, rawInt 0, .none, .none] } := by
    rw [← hz]
    exact Heap.get?_push_size _ rfl
  show Shared.TypeIs _ _ _ ∧ _
  rw [hz]
  exact ⟨⟨_, he, rfl⟩, hQ _ he ⟨_, Heap.get?_push_of_some _ (Heap.get?_push_size _ rfl), rfl, rfl⟩ fun b o x => Heap.get?_push_of_some _ (Heap.get?_push_of_some _ x)⟩
end
def IteT (K : PySem.W.Frag) (a : Addr) : It where
  go := fun i H => ∃ (xs : List V) (x : V), SqT K H a xs ∧ xs[i]? = some x
  yld := fun i H v H' => ∃ (T : Addr) (x : V), v = .ref T ∧ H T = none ∧ H' = upd H T (.tup [.int (i : Nat), x]) ∧ ∀ xs : List V, SqT K H a xs → xs[i]? = some x
  stop := fun i H => ∃ xs : List V, SqT K H a xs ∧ xs.length ≤ i
theorem turn_enumT {P : Program} {w : World} {K : PySem.W.Frag} {elts : List Expr} {kk : Nat} {tpos : Pos} (a e it : Addr) : Turn P w K (.Tuple elts kk tpos) (IteT K a) [e, it] e fun i h => (∃ old, IsEnum h e it (i : Nat) old) ∧ h.IsTupleIter it a i ∧ e ≠ it := by
  refine ⟨List.mem_cons_self, fun i h st b hb => ?_, fun i h h' st k => ?_, fun X hP hw hK hc i pins s σ H E I hf st hg => ?_, fun X hP hw hK hc i pins s σ H E I hf st hg => ?_, fun A i s Q E st h => ?_⟩
  · obtain ⟨⟨old, he⟩, ⟨o, ho, hcl, hd⟩, hne⟩ := st
    simp only [List.mem_cons, List.not_mem_nil, or_false] at hb
    rcases hb with rfl | rfl
    · exact ⟨_, he, fun v q => nomatch q⟩
    · exact ⟨o, ho, fun v q => by rw [hd] at q; cases q⟩
  · obtain ⟨⟨old, he⟩, ⟨o, ho, hcl, hd⟩, hne⟩ := st
    exact ⟨⟨old, k e (by simp) _ he⟩, ⟨o, k it (by simp) _ ho, hcl, hd⟩, hne⟩
  · subst hP hw hK
    obtain ⟨⟨old, he⟩, hit, hne⟩ := st
    obtain ⟨xs, x, hq, hx⟩ := hg
    obtain ⟨its, rv, p, hz⟩ := I.tuple hq
    obtain ⟨u, hu, ru⟩ := rv.get hx
    have hel := Heap.lt_size he
    have hp : s.heap.IsTuple a its.toArray := p
    refine pyNext_enumT he hit hp (by simpa using hu) hne fun h' ho hit' hT hsz hk => ⟨_, rfl, wpAny_letOwnedTupleGo_enum ho fun h'' he' sb => ?_⟩
    have hT2 : h''.get? s.heap.objs.size = some { cls := .type "tuple", data := .seq #[.int (i : Nat) s.toks, u] } := (sb.2 _ (Nat.ne_of_gt hel)).trans hT
    have new : ObjOk X.prog X.w (upd H s.heap.objs.size (.tup [.int (i : Nat), x])) h'' s.heap.objs.size (.tup [.int (i : Nat), x]) := ⟨by show (2 : Nat) ≤ _; decide, [.int (i : Nat) s.toks, u], .cons ⟨s.toks, rfl⟩ (.cons ru .nil), _, hT2, rfl, 0, rfl⟩
    have I1 := Inv.turnedNew (t' := s.toks + 1) I (fun b ob hb q => by
      simp only [List.mem_cons, List.not_mem_nil, or_false, not_or] at hb
      rw [sb.2 b hb.1]
      exact hk b ob hb.1 hb.2 q) hf (Nat.le_refl _) new
    obtain ⟨o2, ho2, hc2, hd2⟩ := hit'
    refine ⟨.ref s.heap.objs.size, _, I1, rfl, ⟨_, x, rfl, HOk.fresh I.hok (Nat.le_refl _), rfl, fun ys hy => by rw [I.tuple_inj hy hq]; exact hx⟩, ⟨⟨u, he'⟩, ⟨o2, (sb.2 it (Ne.symm hne)).trans ho2, hc2, hd2⟩, hne⟩, fun b hb => ?_⟩
    have hbl : b ≠ s.heap.objs.size := by
      simp only [List.mem_cons, List.not_mem_nil, or_false] at hb
      rcases hb with rfl | rfl
      · exact Nat.ne_of_lt hel
      · obtain ⟨o3, ho3, _⟩ := hit
        exact Nat.ne_of_lt (Heap.lt_size ho3)
    show upd H _ _ b = none
    rw [upd_ne hbl]
    exact (hf b hb).1
  · subst hP hw hK
    obtain ⟨⟨old, he⟩, hit, hne⟩ := st
    obtain ⟨xs, hq, hx⟩ := hg
    obtain ⟨its, rv, p, hz⟩ := I.tuple hq
    obtain ⟨f0, f1, f2, f3, f4, f5⟩ := hf it (by simp)
    have hl := rv.length
    have hp : s.heap.IsTuple a its.toArray := p
    exact pyNext_enumT_end (I.ok.hd hc) he hit hp (by simp; omega) fun h' eb => ⟨rfl, Inv.turned I (fun b o hb q => eb b o hb q) f0 f1 f3 f4 f5⟩
  · obtain ⟨⟨old, he⟩, _⟩ := st
    exact wpAny_pyIter_enum he h
def iEnumA (K : PySem.W.Frag) (ta : TA) : TI := fun σ H R => ta σ H fun vs H1 => ∃ a, vs = [.ref a] ∧ ((∃ xs, SqL K H1 a xs ∧ R (Ite K a) H1) ∨ (∃ xs, SqT K H1 a xs ∧ R (IteT K a) H1))
theorem pi_enumA {X : Cx} {e : Expr} {ta : TA} {p pos tpos : Pos} {elts : List Expr} {kk : Nat} (hg : Gl X "enumerate") (hm : X.mg "enumerate" = none) (ha : PA X [e] ta) (hs : starEach [e] X.env = [(false, eval e X.env)]) :
    PI X (.Tuple elts kk tpos) (.Call (.Name "enumerate" p) [e] [] pos) (iEnumA X.K ta) :=
  ⟨fun pins s σ H R I h => Call_ (ld_blt I hg hm boot_enumerate (callWith_type1 (thn (ha.run pos pins s σ H _ I h) fun us s1 ⟨vs, H1, I1, r1, a, ex, alt⟩ => by
    subst ex
    rw [Vals.ref1 r1]
    rcases alt with ⟨xs, hq, q⟩ | ⟨xs, hq, q⟩
    · obtain ⟨its, rv, pl, hz⟩ := I1.list hq
      refine call_enumerate_list pl.isList fun h' he hit hsz hk => wpAny_pyIter_enum he ?_
      refine ⟨s1.heap.objs.size + 1, [s1.heap.objs.size + 1, s1.heap.objs.size], _, Ite X.K a, H1, rfl, I1.kept hk, turn_enum a (s1.heap.objs.size + 1) s1.heap.objs.size, ⟨⟨.none, he⟩, hit, Nat.succ_ne_self _⟩, fun b hb => ?_, q⟩
      have hle : s1.heap.objs.size ≤ b := by
        simp only [List.mem_cons, List.not_mem_nil, or_false] at hb
        rcases hb with rfl | rfl
        · exact Nat.le_add_right _ _
        · exact Nat.le_refl _
      exact Inv.fpOk I1 hle (HOk.fresh I1.hok hle)
    · obtain ⟨its, rv, pl, hz⟩ := I1.tuple hq
      have hp : s1.heap.IsTuple a its.toArray := pl
      refine call_enumT hp fun h' he hit hk => wpAny_pyIter_enum he ?_
      refine ⟨s1.heap.objs.size + 1, [s1.heap.objs.size + 1, s1.heap.objs.size], _, IteT X.K a, H1, rfl, I1.kept hk, turn_enumT a (s1.heap.objs.size + 1) s1.heap.objs.size, ⟨⟨.none, he⟩, hit, Nat.succ_ne_self _⟩, fun b hb => ?_, q⟩
      have hle : s1.heap.objs.size ≤ b := by
        simp only [List.mem_cons, List.not_mem_nil, or_false] at hb
        rcases hb with rfl | rfl
        · exact Nat.le_add_right _ _
        · exact Nat.le_refl _
      exact Inv.fpOk I1 hle (HOk.fresh I1.hok hle)) hs rfl)) rfl⟩
end PP

set_option Elab.async false
set_option linter.all false
set_option maxRecDepth 100000
/-! PP10d: going through a dict's keys. -/
namespace PP
open PySem PySem.Spec PyProof.Rows L2
def ItO (a : Addr) (o : Obj) (es : Array DictEntry) : It :=
  ⟨fun i H => H a = some (objO a o) ∧ ∃ en q, es[i]? = some en ∧ en.key = .ref q, fun i H x H' => H' = H ∧ ∃ en q, es[i]? = some en ∧ en.key = .ref q ∧ x = .ref q, fun i H => H a = some (objO a o) ∧ es.size ≤ i⟩
theorem turn_o {P : Program} {w : World} {K : PySem.W.Frag} {tg : Expr} {a : Addr} {o : Obj} {es : Array DictEntry} {ep : Nat} (it : Addr) (hod : o.data = .dict es ep) : Turn P w K tg (ItO a o es) [it] it (fun i h => h.IsKeyIter it a i es.size ep) where
  mem := by simp
  obj := fun i h st b hb => by
    have e : b = it := by simpa using hb
    subst e
    obtain ⟨oi, e, c, dd⟩ := st
    exact ⟨oi, e, fun v z => by rw [dd] at z; cases z⟩
  keep := fun i h h' st k => st.at fun oi e => k it (by simp) oi e
  item := by
    intro X hP hw hK hc i pins s σ H E I hf st hg
    subst hP hw hK
    obtain ⟨hd, en, q, hen, hq⟩ := hg
    obtain ⟨f0, f1, f2, f3, f4, f5⟩ := hf it (by simp)
    refine next_key_item st (I.hok a _ hd).1 hod rfl hen fun h' st' sb => ?_
    have I1 : Inv X pins σ H { s with heap := h' } := I.turned (t' := s.toks) (fun b ob hb e => (sb.2 b hb).trans e) f0 f1 f3 f4 f5
    obtain ⟨oi, e, c, dd⟩ := id st'
    exact ⟨en.key, rfl, go_of (s := { s with heap := h' }) e c dd (by decide) ⟨.ref q, H, I1, hq, ⟨rfl, en, q, hen, hq, rfl⟩, st', fun b hb => (hf b hb).1⟩⟩
  done := by
    intro X hP hw hK hc i pins s σ H E I hf st hg
    subst hP hw hK
    obtain ⟨hd, hi⟩ := hg
    obtain ⟨f0, f1, f2, f3, f4, f5⟩ := hf it (by simp)
    exact next_key_end (I.ok.hd hc) st (I.hok a _ hd).1 hod rfl hi fun h' eb => ⟨rfl, I.turned (t' := s.toks) (fun b ob hb e => eb b ob hb e) f0 f1 f3 f4 f5⟩
  self := fun A i s Q E st h => wpAny_pyIter_keyiter st h
theorem RpD.get {T : Wd} {g : Gh} : ∀ {es : List DictEntry} {kvs : List (PV × PV)} {i : Nat} {p : PV × PV}, RpD T g es kvs → kvs[i]? = some p → ∃ en ka, es[i]? = some en ∧ en.key = .ref ka ∧ Rp T g (.ref ka) p.1
  | _, _, i, p, .nil, h => by simp at h
  | _, _, 0, p, .cons hk ek rk eh rv rp t, h => by
    rw [List.getElem?_cons_zero] at h
    cases h
    exact ⟨_, _, rfl, ek, rk⟩
  | _, _, i + 1, p, .cons hk ek rk eh rv rp t, h => by
    rw [List.getElem?_cons_succ] at h
    rw [List.getElem?_cons_succ]
    exact RpD.get t h
theorem RpD.len {T : Wd} {g : Gh} : ∀ {es : List DictEntry} {kvs : List (PV × PV)}, RpD T g es kvs → es.length = kvs.length
  | _, _, .nil => rfl
  | _, _, .cons hk ek rk eh rv rp t => by rw [List.length_cons, List.length_cons, RpD.len t]
theorem Rp.dicD {T : Wd} {g : Gh} {v : V} {kvs : List (PV × PV)} (r : Rp T g v (.dic kvs)) : ∃ a o, v = .ref a ∧ g.F a = some (objO a o) ∧ DicR T g a o kvs := by
  cases r with
  | dic e sm ex d r nd l => exact ⟨_, _, rfl, e, sm, ex, ⟨_, _, d, r⟩, nd, l⟩
end PP

set_option Elab.async false
set_option linter.all false
set_option maxRecDepth 100000
set_option maxHeartbeats 1000000
/-! PP10e: zip, each of both a list or a tuple. -/
namespace PP
open PySem PySem.Spec PyProof.Rows L2
/-- what is gone through: a list (true), a tuple (false) -/
def SqK (k : Bool) (K : PySem.W.Frag) (H : Hp) (a : Addr) (xs : List V) : Prop := match k with
  | true => SqL K H a xs
  | false => SqT K H a xs
def ItK (k : Bool) (h : Heap) (it a : Addr) (i : Nat) : Prop := match k with
  | true => h.IsListIter it a i
  | false => h.IsTupleIter it a i
def ArK (k : Bool) (h : Heap) (a : Addr) (its : Array Value) : Prop := match k with
  | true => h.IsList a its
  | false => h.IsTuple a its
def obK (k : Bool) (a : Addr) : Obj := match k with
  | true => { cls := .type "list_iterator", data := .fields #[.ref a, .int 0 0] }
  | false => { cls := .type "tuple_iterator", data := .fields #[.ref a, .int 0 0] }
theorem dr_K {prog : Program} {w : World} {A : Around} (k : Bool) (hh : A.handled = none) (it a : Addr) (hne : a ≠ it) (its : Array Value) : Draws prog w A it [it, a] its.size (fun i v => its[i]? = some v) (fun i h => ItK k h it a i ∧ ArK k h a its) := by
  cases k
  · exact Draws.tuple hh it a hne its
  · exact Draws.list hh it a hne its
theorem bg_K (k : Bool) (a : Addr) (its : Array Value) : Begins (.ref a) (obK k a) (fun h => ArK k h a its) := by
  cases k
  · exact begins_tuple a its
  · exact begins_list a its
section
variable {X : Cx} {pins : List (Addr × Obj)} {σ : L2.St} {H : Hp} {s : Shared} {k l : Bool} {a b : Addr} {xs ys : List V}
theorem inv_K (J : Inv X pins σ H s) (e : SqK k X.K H a xs) : ∃ its : List Value, Vals xs its ∧ ArK k s.heap a its.toArray ∧ a < s.heap.objs.size := by
  cases k
  · obtain ⟨its, rv, q, _⟩ := J.tuple e
    obtain ⟨o, ho, _⟩ := id q
    exact ⟨its, rv, q, Heap.lt_size ho⟩
  · obtain ⟨its, rv, q, _⟩ := J.list e
    exact ⟨its, rv, q.isList, q.lt⟩
theorem inj_K (J : Inv X pins σ H s) (e : SqK k X.K H a xs) (e' : SqK k X.K H a ys) : xs = ys := by
  cases k
  · exact J.tuple_inj e e'
  · exact J.list_inj e e'
theorem itK_obj {h : Heap} {it : Addr} {i : Nat} (e : ItK k h it a i) : ∃ o, h.get? it = some o ∧ ∀ v, o.data ≠ .cell v := by
  cases k
  · obtain ⟨o, e1, _, d⟩ := e
    exact ⟨o, e1, fun v q => by rw [d] at q; cases q⟩
  · obtain ⟨o, e1, _, d⟩ := e
    exact ⟨o, e1, fun v q => by rw [d] at q; cases q⟩
theorem itK_at {h h' : Heap} {it : Addr} {i : Nat} (e : ItK k h it a i) (q : ∀ o, h.get? it = some o → h'.get? it = some o) : ItK k h' it a i := by
  obtain ⟨o, e1, e2⟩ : ∃ o, h.get? it = some o ∧ (h'.get? it = some o → ItK k h' it a i) := by
    cases k
    · obtain ⟨o, e1, r⟩ := e
      exact ⟨o, e1, fun z => ⟨o, z, r⟩⟩
    · obtain ⟨o, e1, r⟩ := e
      exact ⟨o, e1, fun z => ⟨o, z, r⟩⟩
  exact e2 (q o e1)
theorem itK_new {h : Heap} {it : Addr} (e : h.get? it = some (obK k a)) : ItK k h it a 0 := by
  cases k
  · exact ⟨_, e, rfl, rfl⟩
  · exact ⟨_, e, rfl, rfl⟩
end
/-- both as they stand at each turn, the items in new pairs -/
def MzI (k l : Bool) (K : PySem.W.Frag) (a b : Addr) : It :=
  ⟨fun i H => ∃ (us ws : List V) (u w : V), SqK k K H a us ∧ SqK l K H b ws ∧ us[i]? = some u ∧ ws[i]? = some w,
    fun i H v H' => ∃ Ta u w, v = .ref Ta ∧ H Ta = none ∧ H' = upd H Ta (.tup [u, w]) ∧ (∀ us, SqK k K H a us → us[i]? = some u) ∧ ∀ ws, SqK l K H b ws → ws[i]? = some w,
    fun i H => ∃ us ws : List V, SqK k K H a us ∧ SqK l K H b ws ∧ (i ≤ us.length ∧ i ≤ ws.length) ∧ (i = us.length ∨ i = ws.length)⟩
theorem sep_of {z TI TO i1 i2 a b : Addr} (D : ZipApart z TI TO i1 i2 a b) : ZipSep2 z TI TO i1 i2 [i1, a] [i2, b] where
  TIz := D.TIz
  TOz := D.TOz
  TITO := D.TITO
  TIi1 := D.TIi1
  mem1 := by simp
  zf1 := by simp [D.i1z.symm, D.l1z.symm]
  Tf1 := by simp [D.TOi1, D.l1TO.symm]
  TIi2 := D.TIi2
  mem2 := by simp
  zf2 := by simp [D.i2z.symm, D.l2z.symm]
  Tf2 := by simp [D.TOi2, D.l2TO.symm]
  sep1_2 := by simp [D.i12, D.l2i1.symm]
  sep2_1 := by simp [D.i12.symm, D.l1i2.symm]
def tnK (k l : Bool) (z TI TO i1 i2 a b : Addr) (i : Nat) (h : Heap) : Prop := IsZip h z TI TO .none ∧ IsTupOf2 h TI (.ref i1) (.ref i2) ∧ (∃ u w, IsTupOf2 h TO u w) ∧ ItK k h i1 a i ∧ ItK l h i2 b i
theorem five {c z TI TO i1 i2 : Addr} (hc : c ∈ [z, TI, TO, i1, i2]) : c = z ∨ c = TI ∨ c = TO ∨ c = i1 ∨ c = i2 := by simpa using hc
theorem out5 {c z TI TO i1 i2 : Addr} (hc : c ∉ [z, TI, TO, i1, i2]) : c ≠ z ∧ c ≠ TO ∧ c ≠ i1 ∧ c ≠ i2 := by
  simp only [List.mem_cons, List.not_mem_nil, or_false, not_or] at hc
  exact ⟨hc.1, hc.2.2.1, hc.2.2.2.1, hc.2.2.2.2⟩
theorem turn_K {P : Program} {w : World} {K : PySem.W.Frag} {elts : List Expr} {kk : Nat} {tpos : Pos} {a b z TI TO i1 i2 : Addr} {k l : Bool} (D : ZipApart z TI TO i1 i2 a b) : Turn P w K (.Tuple elts kk tpos) (MzI k l K a b) [z, TI, TO, i1, i2] z (tnK k l z TI TO i1 i2 a b) where
  mem := List.mem_cons_self
  obj := fun i h tn c hc => by
    obtain ⟨hz, hI, ⟨u, w, hO⟩, t1, t2⟩ := tn
    rcases five hc with rfl | rfl | rfl | rfl | rfl
    · exact ⟨_, hz, fun v q => (nomatch q)⟩
    · exact ⟨_, hI, fun v q => (nomatch q)⟩
    · exact ⟨_, hO, fun v q => (nomatch q)⟩
    · exact itK_obj t1
    · exact itK_obj t2
  keep := fun i h h' tn q => by
    obtain ⟨hz, hI, ⟨u, w, hO⟩, t1, t2⟩ := tn
    refine ⟨q z (by simp) _ hz, q TI (by simp) _ hI, ⟨u, w, q TO (by simp) _ hO⟩, itK_at t1 (q i1 (by simp)), itK_at t2 (q i2 (by simp))⟩
  item := by
    intro X eP ew eK hcalm i pins s σ H E J hf tn hg
    subst eP ew eK
    obtain ⟨hz, hI, ⟨u0, w0, hO⟩, t1, t2⟩ := tn
    obtain ⟨us, ws, u, w, q1, q2, g1, g2⟩ := hg
    obtain ⟨its, rv, ar, _⟩ := inv_K J q1
    obtain ⟨jts, rw', ar', _⟩ := inv_K J q2
    obtain ⟨p, hp, rp⟩ := rv.get g1
    obtain ⟨p', hp', rp'⟩ := rw'.get g2
    have hzl : z < s.heap.objs.size := Heap.lt_size hz
    have hh : X.A.in1.handled = none := J.ok.hd hcalm
    have lt1 : i < its.toArray.size := by simpa using (List.getElem?_eq_some_iff.mp hp).1
    have lt2 : i < jts.toArray.size := by simpa using (List.getElem?_eq_some_iff.mp hp').1
    refine wpAny_pyNext_zipD2_item (sep_of D) (dr_K k hh i1 a D.l1i1 its.toArray) (dr_K l hh i2 b D.l2i2 jts.toArray) hz hI hO ⟨t1, ar⟩ ⟨t2, ar'⟩ lt1 lt2 fun y1 y2 h' tk e1 e2 z' O' s1 s2 T' hsz hk => ?_
    have y1e : y1 = p := by
      have e1' : its.toArray[i]? = some y1 := e1
      rw [List.getElem?_toArray, hp] at e1'
      exact (Option.some.inj e1').symm
    have y2e : y2 = p' := by
      have e2' : jts.toArray[i]? = some y2 := e2
      rw [List.getElem?_toArray, hp'] at e2'
      exact (Option.some.inj e2').symm
    subst y1e y2e
    refine ⟨_, rfl, wpAny_letOwnedTupleGo_zip (s := { s with heap := h', toks := tk }) z' fun h2 z2 sb => ?_⟩
    have T2 : h2.get? s.heap.objs.size = some { cls := .type "tuple", data := .seq #[y1, y2] } := (sb.2 _ (Nat.ne_of_gt hzl)).trans T'
    have new : ObjOk X.prog X.w (upd H s.heap.objs.size (.tup [u, w])) h2 s.heap.objs.size (.tup [u, w]) := ⟨by show 2 ≤ sizeLine; decide, [y1, y2], .cons rp (.cons rp' .nil), ⟨_, T2, rfl, _, rfl⟩⟩
    have J2 : Inv X pins σ (upd H s.heap.objs.size (.tup [u, w])) { s with heap := h2, toks := tk } := J.turnedNew (t' := tk) (ch := [z, TI, TO, i1, i2]) (fun c o hc q => by
      obtain ⟨n1, n2, n3, n4⟩ := out5 hc
      exact (sb.2 c n1).trans (hk c o n1 n2 n3 n4 q)) hf (Nat.le_refl _) new
    refine ⟨.ref s.heap.objs.size, _, J2, rfl, ⟨_, u, w, rfl, J.hok.fresh (Nat.le_refl _), rfl, fun m hm => by rw [inj_K J hm q1]; exact g1, fun m hm => by rw [inj_K J hm q2]; exact g2⟩, ⟨z2, ?_, ⟨y1, y2, ?_⟩, ?_, ?_⟩, fun c hc => ?_⟩
    · exact (sb.2 _ D.TIz).trans (hk _ _ D.TIz D.TITO D.TIi1 D.TIi2 hI)
    · exact (sb.2 _ D.TOz).trans O'
    · exact itK_at s1.1 fun o q => (sb.2 _ D.i1z).trans q
    · exact itK_at s2.1 fun o q => (sb.2 _ D.i2z).trans q
    · have hlt : c < s.heap.objs.size := by
        rcases five hc with rfl | rfl | rfl | rfl | rfl
        · exact hzl
        · exact Heap.lt_size hI
        · exact Heap.lt_size hO
        · obtain ⟨_, q, _⟩ := itK_obj t1
          exact Heap.lt_size q
        · obtain ⟨_, q, _⟩ := itK_obj t2
          exact Heap.lt_size q
      rw [upd_ne (Nat.ne_of_lt hlt)]
      exact (hf c hc).1
  done := by
    intro X eP ew eK hcalm i pins s σ H E J hf tn hg
    subst eP ew eK
    obtain ⟨hz, hI, ⟨u0, w0, hO⟩, t1, t2⟩ := tn
    obtain ⟨us, ws, q1, q2, hle, hend⟩ := hg
    obtain ⟨its, rv, ar, _⟩ := inv_K J q1
    obtain ⟨jts, rw', ar', _⟩ := inv_K J q2
    have l1 := rv.length
    have l2 := rw'.length
    have hh : X.A.in1.handled = none := J.ok.hd hcalm
    have n1 : its.toArray.size = us.length := by rw [List.size_toArray, l1]
    have n2 : jts.toArray.size = ws.length := by rw [List.size_toArray, l2]
    refine wpAny_pyNext_zipD2_end (sep_of D) (dr_K k hh i1 a D.l1i1 its.toArray) (dr_K l hh i2 b D.l2i2 jts.toArray) hz hI hO ⟨t1, ar⟩ ⟨t2, ar'⟩ (by rw [n1]; exact hle.1) (by rw [n2]; exact hle.2) (by rw [n1, n2]; exact hend) fun h' tk hk => ⟨rfl, ?_⟩
    exact J.turnedL (t' := tk) (ch := [z, TI, TO, i1, i2]) (fun c o hc q => by
      obtain ⟨m1, m2, m3, m4⟩ := out5 hc
      exact hk c o m1 m2 m3 m4 q) hf
  self := fun A i s Q E tn h => wpAny_pyIter_zip tn.1 h
def iZipK (K : PySem.W.Frag) (ta : TA) : TI := fun σ H R => ta σ H fun vs H1 => ∃ (k l : Bool) (a b : Addr) (us ws : List V), vs = [.ref a, .ref b] ∧ SqK k K H1 a us ∧ SqK l K H1 b ws ∧ R (MzI k l K a b) H1
theorem pi_zipK {X : Cx} {e e2 : Expr} {ta : TA} {p pos tpos : Pos} {elts : List Expr} {kk : Nat} (hg : Gl X "zip") (hm : X.mg "zip" = none) (ha : PA X [e, e2] ta) (hs : starEach [e, e2] X.env = (false, eval e X.env) :: starEach [e2] X.env) (hpl : (backTo pos (starEach [e2] X.env)).any (·.1) = false) :
    PI X (.Tuple elts kk tpos) (.Call (.Name "zip" p) [e, e2] [] pos) (iZipK X.K ta) := by
  refine ⟨fun pins s σ H R J hq => ?_⟩
  refine Call_ (ld_blt J hg hm PyProof.Rows.boot_zip (PyProof.Rows.callWith_type1 (thn (ha.run pos pins s σ H _ J hq) fun us s1 ⟨vs, H1, J1, r1, w1⟩ => ?_) hs hpl))
  obtain ⟨k, l, a, b, xs, ys, ex, q1, q2, hR⟩ := w1
  subst ex
  cases r1 with
  | cons r rr =>
    cases rr with
    | cons r' rr =>
      cases rr
      cases r
      cases r'
      obtain ⟨its, _, ar, la⟩ := inv_K J1 q1
      obtain ⟨jts, _, ar', lb⟩ := inv_K J1 q2
      refine zip_begins2 (bg_K k a its.toArray) (bg_K l b jts.toArray) ar ar' fun h' hz hI hO o1 o2 hsz hk => wpAny_pyIter_zip hz ?_
      have J2 : Inv X pins σ H1 { s1 with heap := h' } := J1.kept (t' := s1.toks) hk
      refine ⟨s1.heap.objs.size + 4, [s1.heap.objs.size + 4, s1.heap.objs.size + 2, s1.heap.objs.size + 3, s1.heap.objs.size, s1.heap.objs.size + 1], tnK k l (s1.heap.objs.size + 4) (s1.heap.objs.size + 2) (s1.heap.objs.size + 3) s1.heap.objs.size (s1.heap.objs.size + 1) a b, MzI k l X.K a b, H1, rfl, J2, turn_K (PySem.W.ktu_apart s1.heap.objs.size a b la lb), ⟨hz, hI, ⟨_, _, hO⟩, itK_new o1, itK_new o2⟩, fun c hc => ?_, hR⟩
      have hle : s1.heap.objs.size ≤ c := by
        rcases five hc with rfl | rfl | rfl | rfl | rfl <;> first | exact Nat.le_refl _ | exact Nat.le_add_right _ _
      exact J1.fpOk hle (J1.hok.fresh hle)
end PP

set_option Elab.async false
set_option linter.all false
set_option maxRecDepth 100000
/-! PP10: targets, iterators, comprehensions. -/
namespace PP
open PySem PySem.Spec PyProof.Rows L2

/-! ### slots written -/
mutual
def Tg.vars : Tg → List Nat
  | .name i => [i]
  | .tup ts => Tg.varss ts
def Tg.varss : List Tg → List Nat
  | [] => []
  | t :: ts => Tg.vars t ++ Tg.varss ts
end
section
variable {T : Wd} {g g' : Gh} {H H' : Hp} {B : Addr → Prop} {env : Env} {σ : L2.St}
theorem EnvR.put (e : EnvR T g H B env σ) {i : Nat} {v : V} {p : PV} (r : Rp T g v p) : EnvR T g H B (env.set i (.val p)) (σ.set i (some v)) := by
  refine ⟨by simp [e.len], fun j s hs => ?_, fun j k p q a hj hk sj sk => ?_⟩
  · by_cases h : i = j
    · subst h
      obtain ⟨h1, h2⟩ := List.getElem?_eq_some_iff.mp hs
      have h1' : i < env.length := by simpa using h1
      rw [List.getElem?_set_self h1'] at hs
      cases hs
      exact ⟨v, by rw [List.getElem?_set_self (by rw [e.len]; exact h1')], r⟩
    · rw [List.getElem?_set_ne h] at hs
      rw [List.getElem?_set_ne h]
      exact e.at_ j s hs
  · by_cases h : i = j
    · subst h
      obtain ⟨h1, _⟩ := List.getElem?_eq_some_iff.mp hj
      rw [List.getElem?_set_self (by simpa using h1)] at hj
      cases hj
    · by_cases h' : i = k
      · subst h'
        obtain ⟨h1, _⟩ := List.getElem?_eq_some_iff.mp hk
        rw [List.getElem?_set_self (by simpa using h1)] at hk
        cases hk
      · rw [List.getElem?_set_ne h] at hj sj
        rw [List.getElem?_set_ne h'] at hk sk
        exact e.inj j k p q a hj hk sj sk
theorem EnvR.clear (e : EnvR T g H B env σ) (i : Nat) (x : Option V) : EnvR T g H B (env.set i .no) (σ.set i x) := by
  refine ⟨by simp [e.len], fun j s hs => ?_, fun j k p q a hj hk sj sk => ?_⟩
  · by_cases h : i = j
    · subst h
      obtain ⟨h1, h2⟩ := List.getElem?_eq_some_iff.mp hs
      rw [List.getElem?_set_self (by simpa using h1)] at hs
      cases hs
      trivial
    · rw [List.getElem?_set_ne h] at hs
      rw [List.getElem?_set_ne h]
      exact e.at_ j s hs
  · by_cases h : i = j
    · subst h
      obtain ⟨h1, _⟩ := List.getElem?_eq_some_iff.mp hj
      rw [List.getElem?_set_self (by simpa using h1)] at hj
      cases hj
    · by_cases h' : i = k
      · subst h'
        obtain ⟨h1, _⟩ := List.getElem?_eq_some_iff.mp hk
        rw [List.getElem?_set_self (by simpa using h1)] at hk
        cases hk
      · rw [List.getElem?_set_ne h] at hj sj
        rw [List.getElem?_set_ne h'] at hk sk
        exact e.inj j k p q a hj hk sj sk
theorem EnvR.wipe (e : EnvR T g H B env σ) : ∀ vs : List Nat, EnvR T g H B (wipeP env vs) (L2.wipe σ vs)
  | [] => e
  | v :: vs => by
    rw [wipeP, L2.wipe]
    exact (EnvR.wipe e vs).clear v none
theorem wipe_get {σ : L2.St} {i : Nat} : ∀ {vs : List Nat}, i ∉ vs → (L2.wipe σ vs)[i]? = σ[i]?
  | [], _ => rfl
  | v :: vs, h => by
    rw [L2.wipe, List.getElem?_set_ne (by intro z; exact h (by simp [z]))]
    exact wipe_get fun z => h (by simp [z])
theorem wipe_mem {σ : L2.St} {i : Nat} : ∀ {vs : List Nat}, i ∈ vs → i < σ.length → (L2.wipe σ vs)[i]? = some none
  | [], h, _ => nomatch h
  | v :: vs, h, l => by
    rw [L2.wipe]
    by_cases q : v = i
    · subst q
      rw [List.getElem?_set_self (by rw [L2.wipe_length]; exact l)]
    · rw [List.getElem?_set_ne q]
      rcases List.mem_cons.mp h with z | z
      · exact absurd z.symm q
      · exact wipe_mem z l
theorem wipe_same {σ τ : L2.St} {vs : List Nat} (hl : σ.length = τ.length) (h : ∀ i, i ∉ vs → σ[i]? = τ[i]?) : L2.wipe σ vs = L2.wipe τ vs := by
  apply List.ext_getElem?
  intro i
  by_cases hi : i ∈ vs
  · by_cases hl' : i < σ.length
    · rw [wipe_mem hi hl', wipe_mem hi (by omega)]
    · rw [List.getElem?_eq_none (by rw [L2.wipe_length]; omega), List.getElem?_eq_none (by rw [L2.wipe_length]; omega)]
  · rw [wipe_get hi, wipe_get hi]; exact h i hi
end

/-! ### targets -/
def tG (T : Wd) (t : Tg) : TG := fun v σ H Q => ∃ g env c B p env', EnvR T g H B env σ ∧ HR T g c H ∧ Rp T g v p ∧ bindT t p env = some env' ∧
  ∀ σ', EnvR T g H B env' σ' → (∀ i, i ∉ t.vars → σ'[i]? = σ[i]?) → Q σ' H
def tGs (T : Wd) (ts : List Tg) : TGs := fun vs σ H Q => ∃ g env c B ps env', EnvR T g H B env σ ∧ HR T g c H ∧ RpL T g vs ps ∧ bindTs ts ps env = some env' ∧
  ∀ σ', EnvR T g H B env' σ' → (∀ i, i ∉ Tg.varss ts → σ'[i]? = σ[i]?) → Q σ' H
section
variable {X : Cx} {e : Expr} {es : List Expr} {pos : Pos} {x : Str}
theorem pg_weak {t t' : TG} (h : L2.PG X e t) (w : ∀ v σ H Q, t' v σ H Q → t v σ H Q) : L2.PG X e t' := ⟨fun pins s σ H v u Q I r q => h.run pins s σ H v u Q I r (w v σ H Q q)⟩
theorem pgs_weak {t t' : TGs} (h : L2.PGs X es t) (w : ∀ v σ H Q, t' v σ H Q → t v σ H Q) : L2.PGs X es t' := ⟨fun pins s σ H v u Q I r q => h.run pins s σ H v u Q I r (w v σ H Q q)⟩
theorem xg_name {i : Nat} (hN : X.N.Nodup) (hi : X.N[i]? = some x) (hx : Loc X.env.scope x) (hf : X.fn x = true ∨ X.env.scope.names.lookup x = some .local) : L2.PG X (.Name x pos) (tG (wd X) (.name i)) :=
  pg_weak (pg_name hN hi hx hf) fun v σ H Q ⟨g, env, c, B, p, env', er, hr, rp, hb, k⟩ => by
    rw [bindT] at hb
    cases hb
    exact k _ (er.put rp) fun j hj => List.getElem?_set_ne fun z => hj (by simp [Tg.vars, z])
theorem xgs_nil : L2.PGs X [] (tGs (wd X) []) := pgs_weak pgs_nil fun vs σ H Q ⟨g, env, c, B, ps, env', er, hr, rp, hb, k⟩ => by
  cases rp with
  | nil =>
    rw [bindTs] at hb
    cases hb
    exact ⟨rfl, k σ er fun _ _ => rfl⟩
  | cons r t => simp [bindTs] at hb
theorem assignEach_cons {env : PySem.Env} (h : notStar e = true) : assignEach (e :: es) env = (false, assign e env) :: assignEach es env := by
  cases e <;> first | rfl | cases h
theorem assignEach_len {env : PySem.Env} : ∀ {es : List Expr}, (assignEach es env).length = es.length
  | [] => rfl
  | e :: es => by
    cases e <;> (first | (show (_ :: assignEach es env).length = _); rw [List.length_cons, List.length_cons, assignEach_len])
theorem assignEach_no {env : PySem.Env} : ∀ {es : List Expr}, es.all notStar = true → (assignEach es env).findIdx? (·.1) = none
  | [], _ => rfl
  | e :: es, h => by
    rw [List.all_cons, Bool.and_eq_true] at h
    rw [assignEach_cons h.1, List.findIdx?_cons]
    simp [assignEach_no h.2]
theorem xgs_cons {t : Tg} {ts : List Tg} (h1 : L2.PG X e (tG (wd X) t)) (h2 : L2.PGs X es (tGs (wd X) ts)) (hs : notStar e = true) : L2.PGs X (e :: es) (tGs (wd X) (t :: ts)) :=
  pgs_weak (pgs_cons h1 h2 (by rw [assignEach_cons hs]; rfl)) fun vs σ H Q ⟨g, env, c, B, ps, env', er, hr, rp, hb, k⟩ => by
    cases rp with
    | nil => simp [bindTs] at hb
    | @cons v p vs' ps' r rt =>
      rw [bindTs] at hb
      cases h0 : bindT t p env with
      | none => rw [h0] at hb; cases hb
      | some env1 =>
        rw [h0] at hb
        refine ⟨_, _, rfl, g, env, c, B, _, env1, er, hr, r, h0, fun σ1 er1 k1 => ?_⟩
        refine ⟨g, env1, c, B, _, env', er1, hr, rt, hb, fun σ2 er2 k2 => k σ2 er2 fun i hi => ?_⟩
        rw [k2 i fun z => hi (by simp [Tg.varss, z]), k1 i fun z => hi (by simp [Tg.varss, z])]
theorem bindTs_len : ∀ {ts : List Tg} {ps : List PV} {env env' : Env}, bindTs ts ps env = some env' → ps.length = ts.length
  | [], [], _, _, _ => rfl
  | [], _ :: _, _, _, h => by simp [bindTs] at h
  | _ :: _, [], _, _, h => by simp [bindTs] at h
  | t :: ts, p :: ps, env, env', h => by
    rw [bindTs] at h
    cases h0 : bindT t p env with
    | none => rw [h0] at h; cases h
    | some e1 => rw [h0] at h; rw [List.length_cons, List.length_cons, bindTs_len h]
theorem xg_tup {ts : List Tg} {k : Nat} (hc : X.calm = true) (h : L2.PGs X es (tGs (wd X) ts)) (hs : es.all notStar = true) (hl : ts.length = es.length) : L2.PG X (.Tuple es k pos) (tG (wd X) (.tup ts)) :=
  pg_weak (pg_tup (n := es.length) hc h assignEach_len (assignEach_no hs)) fun v σ H Q ⟨g, env, c, B, p, env', er, hr, rp, hb, k⟩ => by
    cases p with
    | tup xs =>
      rw [bindT] at hb
      cases rp with
      | tup e r =>
        refine ⟨_, _, rfl, hr.sqT e, ?_, g, env, c, B, xs, env', er, hr, r, hb, fun σ' er' k' => k σ' er' fun i hi => k' i (by simpa [Tg.vars] using hi)⟩
        rw [r.length, bindTs_len hb, hl]
    | _ => simp [bindT] at hb
end

/-! ### iterators -/
structure ItP (T : Wd) (J : It) (g1 : Gh) (items : List PV) : Prop where
  item : ∀ i p g c H, items[i]? = some p → Ext g1 g → HR T g c H → J.go i H ∧ ∀ x H', J.yld i H x H' → ∃ g', Pres g H g' H' ∧ HR T g' c H' ∧ Rp T g' x p
  stop : ∀ i g c H, items.length = i → Ext g1 g → HR T g c H → J.stop i H
abbrev EvI := Env → List PV → R (List PV)
def tI (T : Wd) (mg : MG) (W : WX) (ev : EvI) : TI := fun σ H R => tR T mg W ev (fun items g' _ H' => ∀ J, ItP T J g' items → R J H') σ H
abbrev XI (X : Cx) (W : WX) (tg e : Expr) (ev : EvI) : Prop := L2.PI X tg e (tI (wd X) X.mg W ev)
section
variable {T : Wd} {g g' : Gh} {H : Hp} {c : List PV}
theorem RpL.get' : ∀ {vs : List V} {ps : List PV} {i : Nat} {v : V} {p : PV}, RpL T g vs ps → ps[i]? = some p → vs[i]? = some v → Rp T g v p := fun r h1 h2 => by
  obtain ⟨v', e, r'⟩ := r.get h1
  rw [h2] at e; cases e; exact r'
theorem it_list {a : Addr} {vs : List V} {ps : List PV} (e : SqL T.K g.F a vs) (r : RpL T g vs ps) : ItP T (Itl T.K a) g ps := by
  refine ⟨fun i p g2 c H hp x hr => ?_, fun i g2 c H hi0 x hr => have hi := Nat.le_of_eq hi0; ⟨vs, hr.sqL (x.sqL e), by rw [r.length]; exact hi⟩⟩
  obtain ⟨v, hv, rv⟩ := r.get hp
  have q := hr.sqL (x.sqL e)
  refine ⟨⟨vs, v, q, hv⟩, fun y H' hy => ?_⟩
  obtain ⟨rfl, hy⟩ := hy
  exact ⟨g2, Pres.refl, hr, (r.get' hp (hy vs q)).ext x⟩
theorem it_tup {a : Addr} {vs : List V} {ps : List PV} (e : SqT T.K g.F a vs) (r : RpL T g vs ps) : ItP T (Itt T.K a) g ps := by
  refine ⟨fun i p g2 c H hp x hr => ?_, fun i g2 c H hi0 x hr => have hi := Nat.le_of_eq hi0; ⟨vs, hr.sqT (x.sqT e), by rw [r.length]; exact hi⟩⟩
  obtain ⟨v, hv, rv⟩ := r.get hp
  have q := hr.sqT (x.sqT e)
  refine ⟨⟨vs, v, q, hv⟩, fun y H' hy => ?_⟩
  obtain ⟨rfl, hy⟩ := hy
  exact ⟨g2, Pres.refl, hr, (r.get' hp (hy vs q)).ext x⟩
theorem it_str (s : Str) : ItP T (Its s) g (s.cps.toList.map fun d => .str ⟨#[d]⟩) := by
  refine ⟨fun i p g2 c H hp x hr => ?_, fun i g2 c H hi0 x hr => have hi := Nat.le_of_eq hi0; by simpa [Its] using hi⟩
  rw [List.getElem?_map] at hp
  obtain ⟨d, hd, rfl⟩ := Option.map_eq_some_iff.mp hp
  have hd' : s.cps[i]? = some d := by simpa using hd
  obtain ⟨hl, _⟩ := Array.getElem?_eq_some_iff.mp hd'
  refine ⟨hl, fun y H' hy => ?_⟩
  obtain ⟨rfl, d', e', rfl⟩ := hy
  rw [hd'] at e'; cases e'
  exact ⟨g2, Pres.refl, hr, .str _⟩
theorem it_o {a : Addr} {o : Obj} {es : Array DictEntry} {kvs : List (PV × PV)} (e : g.F a = some (objO a o)) (r : RpD T g es.toList kvs) : ItP T (ItO a o es) g (kvs.map (·.1)) := by
  refine ⟨fun i p g2 c H hp x hr => ?_, fun i g2 c H hi0 x hr => have hi := Nat.le_of_eq hi0; ⟨hr.sub _ _ (x.F _ _ e), ?_⟩⟩
  · rw [List.getElem?_map] at hp
    obtain ⟨kv, hkv, rfl⟩ := Option.map_eq_some_iff.mp hp
    obtain ⟨en, ka, h1, h2, h3⟩ := RpD.get r hkv
    have h1' : es[i]? = some en := by rw [← h1]; simp
    refine ⟨⟨hr.sub _ _ (x.F _ _ e), en, ka, h1', h2⟩, fun y H' hy => ?_⟩
    obtain ⟨rfl, en', q, e1, e2, rfl⟩ := hy
    rw [h1'] at e1
    cases e1
    rw [h2] at e2
    cases e2
    exact ⟨g2, Pres.refl, hr, h3.ext x⟩
  · have := RpD.len r
    rw [List.length_map] at hi
    have e2 : es.toList.length = es.size := by simp
    omega
theorem it_rng (a b : Int) : ItP T (Itr a (b - a).toNat) g (PP.rng a b) := by
  refine ⟨fun i p g2 c H hp x hr => ?_, fun i g2 c H hi0 x hr => have hi := Nat.le_of_eq hi0; by simpa [Itr, PP.rng] using hi⟩
  unfold PP.rng at hp
  rw [List.getElem?_map] at hp
  obtain ⟨j, hj, rfl⟩ := Option.map_eq_some_iff.mp hp
  obtain ⟨hl, hj⟩ := List.getElem?_eq_some_iff.mp hj
  rw [List.getElem_range] at hj
  subst hj
  rw [List.length_range] at hl
  refine ⟨hl, fun y H' hy => ?_⟩
  obtain ⟨rfl, rfl⟩ := hy
  exact ⟨g2, Pres.refl, hr, .int _⟩
theorem zipV_get : ∀ {xs ys : List PV} {i : Nat} {p : PV}, (zipV xs ys)[i]? = some p → ∃ x y, xs[i]? = some x ∧ ys[i]? = some y ∧ p = .tup [x, y]
  | [], _, _, _, h => by simp [zipV] at h
  | _ :: _, [], _, _, h => by simp [zipV] at h
  | x :: xs, y :: ys, 0, p, h => by
    rw [zipV] at h
    simp at h
    exact ⟨x, y, by simp, by simp, h.symm⟩
  | x :: xs, y :: ys, i + 1, p, h => by
    rw [zipV] at h
    simpa using zipV_get (by simpa using h)
theorem zipV_len : ∀ {xs ys : List PV} {i : Nat}, (zipV xs ys).length ≤ i → xs.length ≤ i ∨ ys.length ≤ i
  | [], _, _, _ => .inl (by simp)
  | _ :: _, [], _, _ => .inr (by simp)
  | x :: xs, y :: ys, 0, h => by simp [zipV] at h
  | x :: xs, y :: ys, i + 1, h => by
    rw [zipV] at h
    have := zipV_len (xs := xs) (ys := ys) (i := i) (by simpa using h)
    simpa using this
theorem new_tup {vs : List V} {ps : List PV} (hr : HR T g c H) {a : Addr} (n : H a = none) (r : RpL T g vs ps) : ∃ g', Pres g H g' (upd H a (.tup vs)) ∧ HR T g' c (upd H a (.tup vs)) ∧ Rp T g' (.ref a) (.tup ps) := by
  obtain ⟨x, h'⟩ := hr.alloc (o := .tup vs) n
  exact ⟨_, x, h', .tup (SqT.of upd_same) (r.ext x.ext)⟩
theorem zipV_len2 : ∀ {xs ys : List PV} {i : Nat}, (zipV xs ys).length = i → (i ≤ xs.length ∧ i ≤ ys.length) ∧ (i = xs.length ∨ i = ys.length)
  | [], _, i, h => by
    have : i = 0 := by rw [← h]; rfl
    subst this
    simp
  | _ :: _, [], i, h => by
    have : i = 0 := by rw [← h]; rfl
    subst this
    simp
  | x :: xs, y :: ys, i, h => by
    rw [zipV, List.length_cons] at h
    obtain ⟨⟨a, b⟩, d⟩ := zipV_len2 (xs := xs) (ys := ys) rfl
    rw [List.length_cons, List.length_cons]
    omega
theorem sqK_sub {k : Bool} {g2 : Gh} {c : List PV} {H : Hp} {a : Addr} {vs : List V} (hr : HR T g2 c H) (x : Ext g g2) (e : SqK k T.K g.F a vs) : SqK k T.K H a vs := by
  cases k
  · exact hr.sqT (x.sqT e)
  · exact hr.sqL (x.sqL e)
theorem it_zipK {k l : Bool} {a b : Addr} {vs ws : List V} {ps qs : List PV} (e : SqK k T.K g.F a vs) (r : RpL T g vs ps) (e' : SqK l T.K g.F b ws) (r' : RpL T g ws qs) : ItP T (MzI k l T.K a b) g (zipV ps qs) := by
  refine ⟨fun i p g2 c H hp x hr => ?_, fun i g2 c H hi x hr => ⟨vs, ws, sqK_sub hr x e, sqK_sub hr x e', by rw [r.length, r'.length]; exact zipV_len2 hi⟩⟩
  obtain ⟨x1, y1, hx, hy, rfl⟩ := zipV_get hp
  obtain ⟨v, hv, rv⟩ := r.get hx
  obtain ⟨w, hw, rw'⟩ := r'.get hy
  have q := sqK_sub hr x e
  have q' := sqK_sub hr x e'
  refine ⟨⟨vs, ws, v, w, q, q', hv, hw⟩, fun y H' hyl => ?_⟩
  obtain ⟨Ta, x2, y2, rfl, hn, rfl, k1, k2⟩ := hyl
  exact new_tup hr hn (.cons ((r.get' hx (k1 vs q)).ext x) (.cons ((r'.get' hy (k2 ws q')).ext x) .nil))
theorem enumV_get : ∀ {xs : List PV} {i n : Nat} {p : PV}, (enumV n xs)[i]? = some p → ∃ x, xs[i]? = some x ∧ p = .tup [.int (n + i : Nat), x]
  | [], _, _, _, h => by simp [enumV] at h
  | x :: xs, 0, n, p, h => by
    rw [enumV] at h
    simp at h
    exact ⟨x, by simp, by rw [← h]; rfl⟩
  | x :: xs, i + 1, n, p, h => by
    rw [enumV] at h
    obtain ⟨y, h1, h2⟩ := enumV_get (n := n + 1) (i := i) (xs := xs) (by simpa using h)
    exact ⟨y, by simpa using h1, by rw [h2, show n + 1 + i = n + (i + 1) by omega]⟩
theorem enumV_len : ∀ {xs : List PV} {n : Nat}, (enumV n xs).length = xs.length
  | [], _ => rfl
  | x :: xs, n => by rw [enumV, List.length_cons, List.length_cons, enumV_len]
theorem it_enum {a : Addr} {vs : List V} {ps : List PV} (e : SqL T.K g.F a vs) (r : RpL T g vs ps) : ItP T (Ite T.K a) g (enumV 0 ps) := by
  refine ⟨fun i p g2 c H hp x hr => ?_, fun i g2 c H hi0 x hr => have hi := Nat.le_of_eq hi0; ⟨vs, hr.sqL (x.sqL e), by rw [r.length]; rw [enumV_len] at hi; exact hi⟩⟩
  obtain ⟨x1, hx, rfl⟩ := enumV_get hp
  obtain ⟨v, hv, rv⟩ := r.get hx
  have q := hr.sqL (x.sqL e)
  refine ⟨⟨vs, v, q, hv⟩, fun y H' hyl => ?_⟩
  obtain ⟨Ta, x2, rfl, hn, rfl, k1⟩ := hyl
  rw [Nat.zero_add]
  exact new_tup hr hn (.cons (.int _) (.cons ((r.get' hx (k1 vs q)).ext x) .nil))
theorem it_enumT {a : Addr} {vs : List V} {ps : List PV} (e : SqT T.K g.F a vs) (r : RpL T g vs ps) : ItP T (IteT T.K a) g (enumV 0 ps) := by
  refine ⟨fun i p g2 c H hp x hr => ?_, fun i g2 c H hi0 x hr => have hi := Nat.le_of_eq hi0; ⟨vs, hr.sqT (x.sqT e), by rw [r.length]; rw [enumV_len] at hi; exact hi⟩⟩
  obtain ⟨x1, hx, rfl⟩ := enumV_get hp
  obtain ⟨v, hv, rv⟩ := r.get hx
  have q := hr.sqT (x.sqT e)
  refine ⟨⟨vs, v, q, hv⟩, fun y H' hyl => ?_⟩
  obtain ⟨Ta, x2, rfl, hn, rfl, k1⟩ := hyl
  rw [Nat.zero_add]
  exact new_tup hr hn (.cons (.int _) (.cons ((r.get' hx (k1 vs q)).ext x) .nil))
end
section
variable {X : Cx} {W : WX} {tg e a b : Expr} {ev ea eb : Ev} {pos p : Pos}
theorem pi_weak {t t' : TI} (h : L2.PI X tg e t) (w : ∀ σ H R, t' σ H R → t σ H R) : L2.PI X tg e t' := ⟨fun pins s σ H Q I q => h.run pins s σ H Q I (w σ H Q q)⟩
/-- a list, a tuple or a str -/
def iSeq (K : PySem.W.Frag) (tl : TE) : TI := fun σ H R => tl σ H fun x H1 => (∃ a, x = .ref a ∧ (∃ xs, SqL K H1 a xs) ∧ R (Itl K a) H1) ∨ (∃ a, x = .ref a ∧ (∃ xs, SqT K H1 a xs) ∧ R (Itt K a) H1) ∨ (∃ s, x = .str s ∧ R (Its s) H1) ∨ (∃ a o es ep, x = .ref a ∧ H1 a = some (objO a o) ∧ (a == sysModules) = false ∧ o.ExactDict ∧ o.data = .dict es ep ∧ R (ItO a o es) H1) ∨ ∃ a i j, x = .ref a ∧ H1 a = some (.rng i j) ∧ (-(2 ^ 62) ≤ i ∧ i < 2 ^ 62 ∧ -(2 ^ 62) ≤ j ∧ j < 2 ^ 62) ∧ R (Itr i (j - i).toNat) H1
theorem pi_seq {l : Expr} {tl : TE} (hl : L2.PE X l tl) : L2.PI X tg l (iSeq X.K tl) := by
  refine ⟨fun pins s σ H R I h => ?_⟩
  refine thn (hl.run pins s σ H _ I h) fun v s1 ⟨x, H1, I1, r1, q1⟩ => ?_
  rcases q1 with ⟨a, rfl, ⟨xs, hq⟩, q⟩ | ⟨a, rfl, ⟨xs, hq⟩, q⟩ | ⟨y, rfl, q⟩ | ⟨a, o, es, ep, rfl, ea, hsm, hex, hdt, q⟩ | ⟨a, i, j, rfl, ea, hb, q⟩
  · cases r1
    obtain ⟨its, rv, p, hz⟩ := I1.list hq
    refine wpAny_pyIter_list p.isList ?_
    refine ⟨s1.heap.objs.size, [s1.heap.objs.size], _, _, H1, rfl, I1.kept (t' := s1.toks) fun b o e => Heap.get?_push_of_some _ e, turn_list a _, ⟨_, Heap.get?_push_size _ rfl, rfl, rfl⟩, fun b hb => ?_, q⟩
    have e : b = s1.heap.objs.size := by simpa using hb
    subst e
    exact I1.fpOk (Nat.le_refl _) (I1.hok.fresh (Nat.le_refl _))
  · cases r1
    obtain ⟨its, rv, p, hz⟩ := I1.tuple hq
    refine wpAny_pyIter_tuple (show s1.heap.IsTuple a its.toArray from p) ?_
    refine ⟨s1.heap.objs.size, [s1.heap.objs.size], _, _, H1, rfl, I1.kept (t' := s1.toks) fun b o e => Heap.get?_push_of_some _ e, turn_tuple a _, ⟨_, Heap.get?_push_size _ rfl, rfl, rfl⟩, fun b hb => ?_, q⟩
    have e : b = s1.heap.objs.size := by simpa using hb
    subst e
    exact I1.fpOk (Nat.le_refl _) (I1.hok.fresh (Nat.le_refl _))
  · obtain ⟨t, rfl⟩ := r1
    cases ha : y.cps.all (· < 128)
    · exact wpAny_pyIter_wide ha (pi_one (tk := s1.toks) I1 _ (turn_str _ y t "str_iterator" (.inr rfl)) ⟨_, Heap.get?_push_size _ rfl, rfl, rfl⟩ q)
    · exact wpAny_pyIter_ascii ha (pi_one (tk := s1.toks) I1 _ (turn_str _ y t "str_ascii_iterator" (.inl rfl)) ⟨_, Heap.get?_push_size _ rfl, rfl, rfl⟩ q)
  · cases r1
    refine iter_keys hsm (I1.hok a _ ea).1 hex hdt ?_
    refine ⟨s1.heap.objs.size, [s1.heap.objs.size], _, _, H1, rfl, I1.kept (t' := s1.toks) fun b o e => Heap.get?_push_of_some _ e, turn_o _ hdt, ⟨_, Heap.get?_push_size _ rfl, rfl, rfl⟩, fun b hb => ?_, q⟩
    have e : b = s1.heap.objs.size := by simpa using hb
    subst e
    exact I1.fpOk (Nat.le_refl _) (I1.hok.fresh (Nat.le_refl _))
  · cases r1
    obtain ⟨t, u, v, hob⟩ := I1.hok a _ ea
    refine wpAny_pyIter_range (t := t) (u := u) (v := v) hob (small_one hb.1 hb.2.1 hb.2.2.1 hb.2.2.2) ?_
    refine ⟨s1.heap.objs.size, [s1.heap.objs.size], _, _, H1, rfl, I1.kept (t' := s1.toks) fun b o e => Heap.get?_push_of_some _ e, turn_range _ i (j - i).toNat, ?_, fun b hb => ?_, q⟩
    · have e1 : i + ((0 : Nat) : Int) * 1 = i := by simp
      have e2 : (((j - i).toNat : Nat) : Int) - ((0 : Nat) : Int) = Builtin.Range.rangeSize i j 1 := by rw [rangeSize_one]; split <;> omega
      show IsRangeIter _ _ (i + ((0 : Nat) : Int) * 1) ((((j - i).toNat : Nat) : Int) - ((0 : Nat) : Int)) 1
      rw [e1, e2]
      exact Heap.get?_push_size _ rfl
    · have e : b = s1.heap.objs.size := by simpa using hb
      subst e
      exact I1.fpOk (Nat.le_refl _) (I1.hok.fresh (Nat.le_refl _))
theorem xi_seq (h : XE' X W e ev) : XI X W tg e (fun env c => (ev env c).bind fun x c => seqR (asSeq x) c) := pi_weak (pi_seq h) fun σ H R q => by
  refine (tR.one (f := fun x c => seqR (asSeq x) c) q).mono fun p g1 c1 H1 ⟨h1, _, k⟩ v rv => ?_
  cases p with
  | lst ps =>
    have k := k g1 H1 Pres.refl h1
    cases rv with
    | lst e r => exact .inl ⟨_, rfl, ⟨_, h1.sqL (SqL.of e)⟩, k _ (it_list (SqL.of e) r)⟩
  | tup ps =>
    have k := k g1 H1 Pres.refl h1
    cases rv with
    | tup e r => exact .inr (.inl ⟨_, rfl, ⟨_, h1.sqT e⟩, k _ (it_tup e r)⟩)
  | str s =>
    have k := k g1 H1 Pres.refl h1
    cases rv
    exact .inr (.inr (.inl ⟨s, rfl, k _ (it_str s)⟩))
  | dic kvs =>
    have k := k g1 H1 Pres.refl h1
    obtain ⟨a, o, rfl, eF, d⟩ := rv.dicD
    obtain ⟨es, ep, hdt, rd⟩ := d.at_
    exact .inr (.inr (.inr (.inl ⟨a, o, es, ep, rfl, h1.sub _ _ eF, d.sm, d.ex, hdt, k _ (it_o eF rd)⟩)))
  | rg i j =>
    cases rv with
    | rg eF =>
      by_cases ho : (okR i && okR j) = true
      · have e1 : asSeq (.rg i j) = some (PP.rng i j) := by rw [asSeq, if_pos ho]
        rw [e1] at k
        have k := k g1 H1 Pres.refl h1
        have ho' := ho
        unfold okR at ho'
        simp only [Bool.and_eq_true, decide_eq_true_eq] at ho'
        exact .inr (.inr (.inr (.inr ⟨_, i, j, rfl, h1.sub _ _ eF, ⟨ho'.1.1, ho'.1.2, ho'.2.1, ho'.2.2⟩, k _ (it_rng i j)⟩)))
      · have e1 : asSeq (.rg i j) = none := by rw [asSeq, if_neg ho]
        rw [e1] at k
        exact k.elim
  | _ => exact k.elim
theorem xi_range1 (kr : BOk X "range") (ha : XB X W a ea) (hs : notStar a = true) : XI X W tg (.Call (.Name "range" p) [a] [] pos) (fun env c => (ea env c).bind fun x c => match x with
    | .int b => if okR b then .ok (PP.rng 0 b) c else .stuck
    | _ => .stuck) := pi_weak (pi_range1 kr.gl kr.no (pa_cons ha pa_nil (star_cons hs)) (star_cons hs)) fun σ H R q => by
  refine q.one.mono fun x g1 c1 H1 ⟨h1, _, k⟩ v cv => ?_
  cases x with
  | int n =>
    simp only at k
    split at k
    · rename_i ho
      unfold okR at ho
      have ho' := of_decide_eq_true ho
      refine ⟨n, by rw [cv.int], ho'.1, ho'.2, ?_⟩
      have z := it_rng (T := wd X) (g := g1) 0 n
      rw [show n - 0 = n by omega] at z
      exact k g1 H1 Pres.refl h1 _ z
    · exact k.elim
  | _ => exact k.elim
theorem xi_range2 (kr : BOk X "range") (ha : XB X W a ea) (hb : XB X W b eb) (hs : notStar a = true) (hs2 : notStar b = true) : XI X W tg (.Call (.Name "range" p) [a, b] [] pos) (fun env c => (ea env c).bind fun x c => (eb env c).bind fun y c => match x, y with
    | .int i, .int j => if okR i && okR j then .ok (PP.rng i j) c else .stuck
    | _, _ => .stuck) := pi_weak (pi_range2 kr.gl kr.no (pa_cons ha (pa_cons hb pa_nil (star_cons hs2)) (star_cons hs)) (by rw [star_cons hs, star_cons hs2]; rfl) (star_cons hs2)) fun σ H R q => by
  refine q.two.mono fun x g1 c1 H1 k v cv => k.mono fun y g2 c2 H2 ⟨p2, _, h2, k2⟩ w cw => ?_
  cases x with
  | int n =>
    cases y with
    | int m =>
      simp only at k2
      split at k2
      · rename_i ho
        unfold okR at ho
        simp only [Bool.and_eq_true, decide_eq_true_eq] at ho
        exact ⟨n, m, by rw [(cv.pres p2).int, cw.int], ⟨ho.1.1, ho.1.2, ho.2.1, ho.2.2⟩, k2 g2 H2 Pres.refl h2 _ (it_rng n m)⟩
      · exact k2.elim
    | _ => exact k2.elim
  | _ => exact k2.elim
theorem xi_zip {elts : List Expr} {kk : Nat} {tpos : Pos} (kr : BOk X "zip") (ha : XE' X W a ea) (hb : XE' X W b eb) (hs : notStar a = true) (hs2 : notStar b = true) : XI X W (.Tuple elts kk tpos) (.Call (.Name "zip" p) [a, b] [] pos) (fun env c => (ea env c).bind fun x c => (eb env c).bind fun y c => match x, y with
    | .lst xs, .lst ys => .ok (zipV xs ys) c
    | .tup xs, .tup ys => .ok (zipV xs ys) c
    | .lst xs, .tup ys => .ok (zipV xs ys) c
    | .tup xs, .lst ys => .ok (zipV xs ys) c
    | _, _ => .stuck) := pi_weak (pi_zipK kr.gl kr.no (pa_cons ha (pa_cons hb pa_nil (star_cons hs2)) (star_cons hs)) (star_cons hs) (star_any (by simp [hs2]))) fun σ H R q => by
  refine q.two.mono fun x g1 c1 H1 k v cv => k.mono fun y g2 c2 H2 ⟨p2, _, h2, k2⟩ w cw => ?_
  have cv := cv.ext p2.ext
  cases x with
  | lst xs =>
    cases y with
    | lst ys =>
      have k2 := k2 g2 H2 Pres.refl h2
      cases cv with
      | lst e r =>
        cases cw with
        | lst e' r' => exact ⟨true, true, _, _, _, _, rfl, h2.sqL (SqL.of e), h2.sqL (SqL.of e'), k2 _ (it_zipK (k := true) (l := true) (SqL.of e) r (SqL.of e') r')⟩
    | tup ys =>
      have k2 := k2 g2 H2 Pres.refl h2
      cases cv with
      | lst e r =>
        cases cw with
        | tup e' r' => exact ⟨true, false, _, _, _, _, rfl, h2.sqL (SqL.of e), h2.sqT e', k2 _ (it_zipK (k := true) (l := false) (SqL.of e) r e' r')⟩
    | _ => exact k2.elim
  | tup xs =>
    cases y with
    | tup ys =>
      have k2 := k2 g2 H2 Pres.refl h2
      cases cv with
      | tup e r =>
        cases cw with
        | tup e' r' => exact ⟨false, false, _, _, _, _, rfl, h2.sqT e, h2.sqT e', k2 _ (it_zipK (k := false) (l := false) e r e' r')⟩
    | lst ys =>
      have k2 := k2 g2 H2 Pres.refl h2
      cases cv with
      | tup e r =>
        cases cw with
        | lst e' r' => exact ⟨false, true, _, _, _, _, rfl, h2.sqT e, h2.sqL (SqL.of e'), k2 _ (it_zipK (k := false) (l := true) e r (SqL.of e') r')⟩
    | _ => exact k2.elim
  | _ => exact k2.elim
theorem xi_enum {elts : List Expr} {kk : Nat} {tpos : Pos} (kr : BOk X "enumerate") (ha : XE' X W a ea) (hs : notStar a = true) : XI X W (.Tuple elts kk tpos) (.Call (.Name "enumerate" p) [a] [] pos) (fun env c => (ea env c).bind fun x c => match x with
    | .lst xs => .ok (enumV 0 xs) c
    | .tup xs => .ok (enumV 0 xs) c
    | _ => .stuck) := pi_weak (pi_enumA kr.gl kr.no (pa_cons ha pa_nil (star_cons hs)) (star_cons hs)) fun σ H R q => by
  refine q.one.mono fun x g1 c1 H1 ⟨h1, _, k⟩ v cv => ?_
  cases x with
  | lst xs =>
    have k := k g1 H1 Pres.refl h1
    cases cv with
    | lst e r => exact ⟨_, rfl, .inl ⟨_, h1.sqL (SqL.of e), k _ (it_enum (SqL.of e) r)⟩⟩
  | tup xs =>
    have k := k g1 H1 Pres.refl h1
    cases cv with
    | tup e r => exact ⟨_, rfl, .inr ⟨_, h1.sqT e, k _ (it_enumT e r)⟩⟩
  | _ => exact k.elim
end
end PP

set_option Elab.async false
set_option linter.all false
set_option maxRecDepth 100000
/-! PP11: comprehensions. -/
namespace PP
open PySem PySem.Spec PyProof.Rows L2

section
variable {T : Wd} {g g1 g2 : Gh} {H H1 H2 : Hp} {c : List PV}
/-- an object of one's own is written -/
theorem Pres.write (x : Pres g H g1 H1) {D : Addr} {o o' : HO} (n : Nt H D) (e : H1 D = some o) : Pres g H g1 (upd H1 D o') := by
  refine ⟨x.ext, fun a u h nc nt => ?_, x.newF, x.newC, fun a u h nt => ?_⟩
  · have : a ≠ D := fun z => n.no (z ▸ h) nt
    rw [upd_ne this]; exact x.keep a u h nc nt
  · have : a ≠ D := fun z => n.no (z ▸ h) nt
    rw [upd_ne this]; exact x.live a u h nt
theorem tabs_write {ts : List (Addr × Str)} (h : LamX.Tabs ts H) {D : Addr} {o' : HO} (w : Wr H D) : LamX.Tabs ts (upd H D o') := fun p hp => by
  obtain ⟨ps, h1, h2, h3⟩ := h p hp
  refine ⟨ps, by rw [upd_ne (fun z => w.tb ps (by rw [← z]; exact h1))]; exact h1, h2, fun pos cv hc => ?_⟩
  obtain ⟨c, e1, e2⟩ := h3 pos cv hc
  exact ⟨c, e1, by rw [upd_ne (fun z => w.co p.2 (by rw [← z]; exact e2))]; exact e2⟩
theorem HR.write (h : HR T g c H) {D : Addr} {o' : HO} (nf : g.F D = none) (nc : g.c ≠ some D) (w : Wr H D) : HR T g c (upd H D o') := by
  refine ⟨fun a u e => ?_, h.ntb, tabs_write h.tabs w, h.cup0, fun a e => ?_⟩
  · have : a ≠ D := fun z => by rw [z, nf] at e; cases e
    rw [upd_ne this]; exact h.sub a u e
  · obtain ⟨f, ne0, vs, q, r⟩ := h.cup1 a e
    have : a ≠ D := fun z => nc (z ▸ e)
    exact ⟨f, ne0, vs, by rw [upd_ne this]; exact q, r⟩
end
section
variable {T : Wd} {g : Gh} {H : Hp} {B B' : Addr → Prop} {env : Env} {σ : L2.St}
theorem EnvR.imp (e : EnvR T g H B env σ) (h : ∀ a u, B a → H a = some u → B' a) : EnvR T g H B' env σ := by
  refine ⟨e.len, fun i s hs => ?_, e.inj⟩
  have q := e.at_ i s hs
  cases s with
  | no => trivial
  | val p => exact q
  | own p =>
    obtain ⟨a, h1, hb, h2, h3⟩ := q
    obtain ⟨u, hu⟩ := h3.there
    exact ⟨a, h1, h a u hb hu, h2, h3⟩
theorem OwnR.upd {a D : Addr} {o : HO} {p : PV} (h : OwnR T g H a p) (n : a ≠ D) : OwnR T g (upd H D o) a p := by
  cases p with
  | lst ps => obtain ⟨h1, vs, h2, h3⟩ := h; exact ⟨h1, vs, by rw [upd_ne n]; exact h2, h3⟩
  | dic ps => obtain ⟨h1, vs, h2, h3⟩ := h; exact ⟨h1, vs, by rw [upd_ne n]; exact h2, h3⟩
  | dki ks ps => obtain ⟨h1, vs, h2, h3⟩ := h; exact ⟨h1, vs, by rw [upd_ne n]; exact h2, h3⟩
  | _ => exact h.elim
theorem EnvR.write {D : Addr} {o : HO} (e : EnvR T g H B env σ) (h : ∀ a, B a → a ≠ D) : EnvR T g (upd H D o) B env σ := by
  refine ⟨e.len, fun i s hs => ?_, e.inj⟩
  have q := e.at_ i s hs
  cases s with
  | no => trivial
  | val p => exact q
  | own p =>
    obtain ⟨a, h1, hb, h2, h3⟩ := q
    exact ⟨a, h1, hb, h2, h3.upd (h a hb)⟩
end
abbrev WF : WX := fun _ _ _ _ => False
theorem loopC_cons {f : PV → Nat → List PV → R (List PV)} {x : PV} {r : List PV} {n : Nat} {c : List PV} : loopC f (x :: r) n c = ((f x n c).calm).bind fun ys c => (loopC f r (n + ys.length) c).bind fun zs c => .ok (ys ++ zs) c := rfl
theorem R.bind_assoc {α β γ : Type} (x : R α) (f : α → List PV → R β) (k : β → List PV → R γ) : (x.bind f).bind k = x.bind fun a c => (f a c).bind k := by cases x <;> rfl
/-- the turn's block -/
def stepC (t : Tg) (vs : List Nat) (ec : Env → List PV → R Bool) (ev : Ev) (env : Env) : PV → Nat → List PV → R (List PV) := fun x n c => match bindT t x (wipeP env vs) with
  | some env1 => (ec env1 c).bind fun k c => if k then (ev env1 c).bind fun y c => guardR (decide (n < LIM)) (.ok [y] c) else .ok [] c
  | none => .stuck
theorem calm_ok {α : Type} {x : R α} {T : Wd} {mg : MG} {W : WX} {g : Gh} {H : Hp} {σ : L2.St} {β : Type} {K : β → Gh → List PV → Hp → Prop} {f : α → List PV → R β} (h : GoodR T mg W g H σ K ((x.calm).bind f)) : ∃ a c, x = .ok a c ∧ GoodR T mg W g H σ K (f a c) := by
  cases x with
  | ok a c => exact ⟨a, c, rfl, h⟩
  | exc cl arg c => exact h.elim
  | stuck => exact h.elim
theorem bind_ok_inv {α β : Type} {x : R α} {f : α → List PV → R β} {b : β} {c : List PV} (h : x.bind f = .ok b c) : ∃ a c1, x = .ok a c1 ∧ f a c1 = .ok b c := by
  cases x with
  | ok a c1 => exact ⟨a, c1, rfl, h⟩
  | exc cl arg c1 => cases h
  | stuck => cases h
theorem guardR_inv {α : Type} {b : Bool} {x : R α} {a : α} {c : List PV} (h : guardR b x = .ok a c) : b = true ∧ x = .ok a c := by
  cases b with
  | true => exact ⟨rfl, h⟩
  | false => cases h
theorem stepC_inv {t : Tg} {vs : List Nat} {ec : Env → List PV → R Bool} {ev : Ev} {env : Env} {x : PV} {n : Nat} {c c2 : List PV} {ys : List PV} (h : stepC t vs ec ev env x n c = .ok ys c2) :
    ∃ env1 k c1, bindT t x (wipeP env vs) = some env1 ∧ ec env1 c = .ok k c1 ∧ ((k = false ∧ ys = [] ∧ c2 = c1) ∨ (k = true ∧ ∃ y, ev env1 c1 = .ok y c2 ∧ ys = [y] ∧ n < LIM)) := by
  unfold stepC at h
  cases hb : bindT t x (wipeP env vs) with
  | none => rw [hb] at h; cases h
  | some env1 =>
    rw [hb] at h
    obtain ⟨k, c1, h1, h2⟩ := bind_ok_inv h
    refine ⟨env1, k, c1, rfl, h1, ?_⟩
    cases k with
    | false => cases h2; exact .inl ⟨rfl, rfl, rfl⟩
    | true =>
      simp only [if_true] at h2
      obtain ⟨y, c3, h3, h4⟩ := bind_ok_inv h2
      obtain ⟨h5, h6⟩ := guardR_inv h4
      cases h6
      exact .inr ⟨rfl, y, h3, rfl, of_decide_eq_true h5⟩
mutual
theorem bindT_len : ∀ {t : Tg} {p : PV} {env env' : Env}, bindT t p env = some env' → env'.length = env.length
  | .name i, p, env, env', h => by rw [bindT] at h; cases h; simp
  | .tup ts, .tup xs, env, env', h => by rw [bindT] at h; exact bindTs_len' h
  | .tup ts, .non, env, env', h => by simp [bindT] at h
  | .tup ts, .bl _, env, env', h => by simp [bindT] at h
  | .tup ts, .int _, env, env', h => by simp [bindT] at h
  | .tup ts, .str _, env, env', h => by simp [bindT] at h
  | .tup ts, .lst _, env, env', h => by simp [bindT] at h
  | .tup ts, .dic _, env, env', h => by simp [bindT] at h
  | .tup ts, .dki _ _, env, env', h => by simp [bindT] at h
  | .tup ts, .cup, env, env', h => by simp [bindT] at h
  | .tup ts, .scr _, env, env', h => by simp [bindT] at h
  | .tup ts, .rg _ _, env, env', h => by simp [bindT] at h
  | .tup ts, .fnv _, env, env', h => by simp [bindT] at h
theorem bindTs_len' : ∀ {ts : List Tg} {ps : List PV} {env env' : Env}, bindTs ts ps env = some env' → env'.length = env.length
  | [], [], env, env', h => by rw [bindTs] at h; cases h; rfl
  | [], _ :: _, _, _, h => by simp [bindTs] at h
  | _ :: _, [], _, _, h => by simp [bindTs] at h
  | t :: ts, p :: ps, env, env', h => by
    rw [bindTs] at h
    cases h0 : bindT t p env with
    | none => rw [h0] at h; cases h
    | some e1 => rw [h0] at h; rw [bindTs_len' h, bindT_len h0]
end
theorem wipeP_len {env : Env} : ∀ vs : List Nat, (wipeP env vs).length = env.length
  | [] => rfl
  | v :: vs => by rw [wipeP, List.length_set, wipeP_len vs]
/-- the list that grows -/
def LS (T : Wd) (g : Gh) (H : Hp) (D : Addr) (acc : List PV) : Prop := ∃ ws, H D = some (.lst ws) ∧ RpL T g ws acc ∧ g.F D = none ∧ g.c ≠ some D
theorem LS.pres {T : Wd} {g g' : Gh} {H H' : Hp} {D : Addr} {acc : List PV} (l : LS T g H D acc) (x : Pres g H g' H') : LS T g' H' D acc := by
  obtain ⟨ws, e, r, nf, nc⟩ := l
  have nc' : g'.c ≠ some D := fun z => by
    rcases x.newC D z with w | w
    · exact nc w
    · exact w.lst e
  refine ⟨ws, x.keep D _ e nc' (fun _ z => by cases z), r.ext x.ext, ?_, nc'⟩
  cases z : g'.F D with
  | none => rfl
  | some o =>
    rcases x.newF D o z with y | y
    · rw [nf] at y; cases y
    · exact (y.lst e).elim
theorem LS.app {T : Wd} {g : Gh} {H : Hp} {D : Addr} {acc : List PV} {v : V} {y : PV} (l : LS T g H D acc) (r : Rp T g v y) : ∃ ws, H D = some (.lst ws) ∧ ws.length = acc.length ∧ LS T g (upd H D (.lst (ws ++ [v]))) D (acc ++ [y]) := by
  obtain ⟨ws, e, rw', nf, nc⟩ := l
  exact ⟨ws, e, rw'.length, ws ++ [v], upd_same, rw'.append (.one r), nf, nc⟩
theorem Pres.born {g : Gh} {H : Hp} {D : Addr} {o : HO} (nD : H D = none) : Pres g H g (upd H D o) :=
  ⟨Ext.refl, fun a u e _ _ => by rw [upd_ne (fun z => by rw [z, nD] at e; cases e)]; exact e, fun _ _ e => .inl e, fun _ e => .inl e, fun a u e nt => ⟨u, by rw [upd_ne (fun z => by rw [z, nD] at e; cases e)]; exact e, nt⟩⟩
section
variable {X : Cx} {W : WX} {elt tg iter tg1 iter1 : Expr} {ifs ifs1 : List Expr} {scope : Scope} {own : List (Str × Nat)} {pos : Pos} {ei ei1 : EvI} {t t1 : Tg} {ec ec1 : Env → List PV → R Bool} {ev : Ev} {vs vs1 : List Nat}
/-- the meaning of one -/
def compR (ei : EvI) (t : Tg) (vs : List Nat) (ec : Env → List PV → R Bool) (ev : Ev) : Ev := fun env c => (ei env c).bind fun items c => (loopC (stepC t vs ec ev env) items 0 c).bind fun ys c => .ok (.lst ys) c
/-- what the loop's end wants -/
abbrev KL (T : Wd) (H0 : Hp) (Q : VK) : PV → Gh → List PV → Hp → Prop := fun p g' _ H' => ∀ a, Nt H0 a → g'.F a = none → g'.c ≠ some a → OwnR T g' H' a p → Q (.ref a) H'
theorem tLc_read (ht : ∀ i ∈ t.vars, i ∈ vs) {σ : L2.St} {H : Hp} {Q : VK} (h : tO (wd X) X.mg W (compR ei t vs ec ev) σ H Q) :
    tLc (tI (wd X) X.mg W ei) (tG (wd X) t) (tT (wd X) X.mg WF ec) (tE (wd X) X.mg WF ev) vs σ H Q := by
  obtain ⟨g0, env, c0, B, er0, hr0, gd⟩ := h
  refine ⟨g0, env, c0, B, er0, hr0, gd.bind.mono fun items g1 c1 H1 p1 h1 k1 => ?_⟩
  intro J hJ D nD
  obtain ⟨nf1, nc1⟩ := h1.ne nD
  have er1 := er0.pres p1
  refine ⟨fun i m H => m = items.length - i ∧ i ≤ items.length ∧ ∃ g c acc, Pres g1 H1 g H ∧ HR (wd X) g c H ∧ LS (wd X) g H D acc ∧
    GoodR (wd X) X.mg W g1 H1 σ (KL (wd X) H1 Q) ((loopC (stepC t vs ec ev env) (items.drop i) acc.length c).bind fun zs c => R.ok (PV.lst (acc ++ zs)) c), ⟨items.length, by simp, Nat.zero_le _, g1, c1, [], Pres.born nD, h1.write nf1 nc1 (.no nD), ⟨[], upd_same, .nil, nf1, nc1⟩, ?_⟩, ?_⟩
  · have k1' : GoodR (wd X) X.mg W g1 H1 σ _ ((loopC (stepC t vs ec ev env) items 0 c1).bind fun ys c => R.ok (PV.lst ys) c) := k1
    exact k1'.mono (K' := KL (wd X) H1 Q) fun p g' c' H' _ _ q a na nf nc o => q a (p1.dead na) nf nc o
  rintro i m H ⟨rfl, hi, g, c, acc, pr, hr, ls, gd⟩
  have er := er1.pres pr
  by_cases hlt : i < items.length
  · refine .inr ?_
    have hx : items[i]? = some items[i] := List.getElem?_eq_getElem hlt
    obtain ⟨hgo, hy⟩ := hJ.item i _ g c H hx pr.ext hr
    rw [List.drop_eq_getElem_cons hlt, loopC_cons, R.bind_assoc] at gd
    obtain ⟨ys, c2, hs, gd⟩ := calm_ok gd
    rw [R.bind_assoc] at gd
    obtain ⟨env1, k, c1', hb, hc, hk⟩ := stepC_inv hs
    have gd : GoodR (wd X) X.mg W g1 H1 σ (KL (wd X) H1 Q) ((loopC (stepC t vs ec ev env) (items.drop (i + 1)) (acc ++ ys).length c2).bind fun zs c => R.ok (PV.lst ((acc ++ ys) ++ zs)) c) := by
      rw [List.length_append]
      simp only [List.append_assoc]
      exact gd
    refine ⟨hgo, fun H' => ∃ g', Pres g1 H1 g' H' ∧ HR (wd X) g' c2 H' ∧ LS (wd X) g' H' D (acc ++ ys), ?_, ?_⟩
    · rintro H' ⟨g', pq, hr', ls'⟩
      exact ⟨items.length - (i + 1), by omega, rfl, hlt, g', c2, acc ++ ys, pq, hr', ls', gd⟩
    · intro x H' hyld
      obtain ⟨g', pr', hr', rx⟩ := hy x H' hyld
      refine ⟨g', wipeP env vs, c, B, _, env1, (er.pres pr').wipe vs, hr', rx, hb, fun σ2 er2 keep => ⟨?_, ?_⟩⟩
      · rw [wipe_same (vs := vs) (σ := σ2) (τ := L2.wipe σ vs) (by rw [er2.len, bindT_len hb, ((er.pres pr').wipe vs).len]) fun i hi => keep i fun z => hi (ht i z)]
        exact wipe_same (by rw [L2.wipe_length]) fun i hi => wipe_get hi
      · refine ⟨g', env1, c, B, er2, hr', ?_⟩
        rw [hc]
        intro g3 H3 pr3 hr3
        have l3 := (ls.pres pr').pres pr3
        have er3 := er2.pres pr3
        rcases hk with ⟨rfl, rfl, rfl⟩ | ⟨rfl, y, hv, rfl, hl⟩
        · refine ⟨g3, pr.trans (pr'.trans pr3), hr3, ?_⟩
          rw [List.append_nil]; exact l3
        · refine ⟨g3, env1, c1', B, er3, hr3, ?_⟩
          rw [hv]
          intro g4 H4 pr4 hr4 v rv
          obtain ⟨ws, e4, hwl, l4⟩ := (l3.pres pr4).app rv
          obtain ⟨ws', e4', _, nf4, nc4⟩ := l3.pres pr4
          exact ⟨ws, e4, by rw [hwl, lim_eq]; exact hl, g4, (pr.trans ((pr'.trans pr3).trans pr4)).write (.of nD) e4, hr4.write nf4 nc4 (.lst e4), l4⟩
  · have e : i = items.length := by omega
    subst e
    refine .inl ⟨hJ.stop _ g c H rfl pr.ext hr, ?_⟩
    rw [List.drop_length] at gd
    obtain ⟨ws, hD, rw', nf, nc⟩ := ls
    have gd' : GoodR (wd X) X.mg W g1 H1 σ (KL (wd X) H1 Q) (R.ok (PV.lst (acc ++ [])) c) := gd
    rw [List.append_nil] at gd'
    exact gd' g H pr hr D (.of nD) nf nc ⟨nc, ws, hD, rw'⟩
/-- the inner one: n items stand already -/
def stepC2 (t : Tg) (vs : List Nat) (ec : Env → List PV → R Bool) (ei1 : EvI) (t1 : Tg) (vs1 : List Nat) (ec1 : Env → List PV → R Bool) (ev : Ev) (env : Env) : PV → Nat → List PV → R (List PV) := fun x n c => match bindT t x (wipeP env vs) with
  | some env1 => (ec env1 c).bind fun k c => if k then (ei1 env1 c).bind fun items1 c => loopC (stepC t1 vs1 ec1 ev env1) items1 n c else .ok [] c
  | none => .stuck
theorem stepC2_inv {env : Env} {x : PV} {n : Nat} {c c2 : List PV} {ys : List PV} (h : stepC2 t vs ec ei1 t1 vs1 ec1 ev env x n c = .ok ys c2) :
    ∃ env1 k c1, bindT t x (wipeP env vs) = some env1 ∧ ec env1 c = .ok k c1 ∧ ((k = false ∧ ys = [] ∧ c2 = c1) ∨ (k = true ∧ ∃ items1 c3, ei1 env1 c1 = .ok items1 c3 ∧ loopC (stepC t1 vs1 ec1 ev env1) items1 n c3 = .ok ys c2)) := by
  unfold stepC2 at h
  cases hb : bindT t x (wipeP env vs) with
  | none => rw [hb] at h; cases h
  | some env1 =>
    rw [hb] at h
    obtain ⟨k, c1, h1, h2⟩ := bind_ok_inv h
    refine ⟨env1, k, c1, rfl, h1, ?_⟩
    cases k with
    | false => cases h2; exact .inl ⟨rfl, rfl, rfl⟩
    | true =>
      simp only [if_true] at h2
      obtain ⟨y, c3, h3, h4⟩ := bind_ok_inv h2
      exact .inr ⟨rfl, y, c3, h3, h4⟩
def compR2 (ei : EvI) (t : Tg) (vs : List Nat) (ec : Env → List PV → R Bool) (ei1 : EvI) (t1 : Tg) (vs1 : List Nat) (ec1 : Env → List PV → R Bool) (ev : Ev) : Ev := fun env c => (ei env c).bind fun items c => (loopC (stepC2 t vs ec ei1 t1 vs1 ec1 ev env) items 0 c).bind fun ys c => .ok (.lst ys) c
theorem calm_inv {α : Type} {x : R α} {a : α} {c : List PV} (h : x.calm = .ok a c) : x = .ok a c := by
  cases x with
  | ok b d => exact h
  | exc cl arg d => cases h
  | stuck => cases h
theorem tLc2_read (ht : ∀ i ∈ t.vars, i ∈ vs) (ht1 : ∀ i ∈ t1.vars, i ∈ vs1) (hv1 : ∀ i ∈ vs1, i ∈ vs) {σ : L2.St} {H : Hp} {Q : VK} (h : tO (wd X) X.mg W (compR2 ei t vs ec ei1 t1 vs1 ec1 ev) σ H Q) :
    tLc2 (tI (wd X) X.mg W ei) (tG (wd X) t) (tT (wd X) X.mg WF ec) (tI (wd X) X.mg WF ei1) (tG (wd X) t1) (tT (wd X) X.mg WF ec1) (tE (wd X) X.mg WF ev) vs vs1 σ H Q := by
  obtain ⟨g0, env, c0, B, er0, hr0, gd⟩ := h
  refine ⟨g0, env, c0, B, er0, hr0, gd.bind.mono fun items g1 c1 H1 p1 h1 k1 => ?_⟩
  intro J hJ D nD
  obtain ⟨nf1, nc1⟩ := h1.ne nD
  have er1 := (er0.pres p1).imp (B' := fun a => B a ∧ a ≠ D) fun a u hb hu => ⟨hb, fun z => by rw [z, nD] at hu; cases hu⟩
  refine ⟨fun i m H => m = items.length - i ∧ i ≤ items.length ∧ ∃ g c acc, Pres g1 H1 g H ∧ HR (wd X) g c H ∧ LS (wd X) g H D acc ∧
    GoodR (wd X) X.mg W g1 H1 σ (KL (wd X) H1 Q) ((loopC (stepC2 t vs ec ei1 t1 vs1 ec1 ev env) (items.drop i) acc.length c).bind fun zs c => R.ok (PV.lst (acc ++ zs)) c), ⟨items.length, by simp, Nat.zero_le _, g1, c1, [], Pres.born nD, h1.write nf1 nc1 (.no nD), ⟨[], upd_same, .nil, nf1, nc1⟩, ?_⟩, ?_⟩
  · have k1' : GoodR (wd X) X.mg W g1 H1 σ _ ((loopC (stepC2 t vs ec ei1 t1 vs1 ec1 ev env) items 0 c1).bind fun ys c => R.ok (PV.lst ys) c) := k1
    exact k1'.mono (K' := KL (wd X) H1 Q) fun p g' c' H' _ _ q a na nf nc o => q a (p1.dead na) nf nc o
  rintro i m H ⟨rfl, hi, g, c, acc, pr, hr, ls, gd⟩
  have er := er1.pres pr
  by_cases hlt : i < items.length
  · refine .inr ?_
    have hx : items[i]? = some items[i] := List.getElem?_eq_getElem hlt
    obtain ⟨hgo, hy⟩ := hJ.item i _ g c H hx pr.ext hr
    rw [List.drop_eq_getElem_cons hlt, loopC_cons, R.bind_assoc] at gd
    obtain ⟨ys, c2, hs, gd⟩ := calm_ok gd
    rw [R.bind_assoc] at gd
    obtain ⟨env1, k, c1', hb, hc, hk⟩ := stepC2_inv hs
    have gd : GoodR (wd X) X.mg W g1 H1 σ (KL (wd X) H1 Q) ((loopC (stepC2 t vs ec ei1 t1 vs1 ec1 ev env) (items.drop (i + 1)) (acc ++ ys).length c2).bind fun zs c => R.ok (PV.lst ((acc ++ ys) ++ zs)) c) := by
      rw [List.length_append]
      simp only [List.append_assoc]
      exact gd
    refine ⟨hgo, fun H' => ∃ g', Pres g1 H1 g' H' ∧ HR (wd X) g' c2 H' ∧ LS (wd X) g' H' D (acc ++ ys), ?_, ?_⟩
    · rintro H' ⟨g', pq, hr', ls'⟩
      exact ⟨items.length - (i + 1), by omega, rfl, hlt, g', c2, acc ++ ys, pq, hr', ls', gd⟩
    · intro x H' hyld
      obtain ⟨g', pr', hr', rx⟩ := hy x H' hyld
      refine ⟨g', wipeP env vs, c, _, _, env1, (er.pres pr').wipe vs, hr', rx, hb, fun σ2 er2 keep => ⟨?_, ?_⟩⟩
      · rw [wipe_same (vs := vs) (σ := σ2) (τ := L2.wipe σ vs) (by rw [er2.len, bindT_len hb, ((er.pres pr').wipe vs).len]) fun i hi => keep i fun z => hi (ht i z)]
        exact wipe_same (by rw [L2.wipe_length]) fun i hi => wipe_get hi
      · refine ⟨g', env1, c, _, er2, hr', ?_⟩
        rw [hc]
        intro g3 H3 pr3 hr3
        have l3 := (ls.pres pr').pres pr3
        have er3 := er2.pres pr3
        rcases hk with ⟨rfl, rfl, rfl⟩ | ⟨rfl, items1, c3, hi1, hl1⟩
        · refine ⟨g3, pr.trans (pr'.trans pr3), hr3, ?_⟩
          rw [List.append_nil]; exact l3
        · refine ⟨g3, env1, c1', _, er3, hr3, ?_⟩
          rw [hi1]
          intro g4 H4 pr4 hr4 J1 hJ1
          have l4 := l3.pres pr4
          have er4 := er3.pres pr4
          have prA : Pres g1 H1 g4 H4 := pr.trans ((pr'.trans pr3).trans pr4)
          -- the inner loop
          refine ⟨fun j k H => k = items1.length - j ∧ j ≤ items1.length ∧ ∃ g c acc1, Pres g1 H1 g H ∧ Ext g4 g ∧ EnvR (wd X) g H (fun a => B a ∧ a ≠ D) env1 σ2 ∧ HR (wd X) g c H ∧ LS (wd X) g H D (acc ++ acc1) ∧ ∃ zs, ys = acc1 ++ zs ∧ loopC (stepC t1 vs1 ec1 ev env1) (items1.drop j) (acc ++ acc1).length c = .ok zs c2,
            ⟨items1.length, by simp, Nat.zero_le _, g4, c3, [], prA, Ext.refl, er4, hr4, by rw [List.append_nil]; exact l4, ys, rfl, by rw [List.append_nil]; exact hl1⟩, ?_⟩
          rintro j k H ⟨rfl, hj, g, c, acc1, prB, exB, erB, hrB, lsB, zs, hz, hl⟩
          by_cases hjt : j < items1.length
          · refine .inr ?_
            have hx1 : items1[j]? = some items1[j] := List.getElem?_eq_getElem hjt
            obtain ⟨hgo1, hy1⟩ := hJ1.item j _ g c H hx1 exB hrB
            rw [List.drop_eq_getElem_cons hjt, loopC_cons] at hl
            obtain ⟨ys1, c5, hs1, hl⟩ := bind_ok_inv hl
            have hs1 := calm_inv hs1
            obtain ⟨zs1, c6, hl, hzz⟩ := bind_ok_inv hl
            cases hzz
            obtain ⟨env2, k2, c7, hb2, hc2, hk2⟩ := stepC_inv hs1
            refine ⟨hgo1, fun H' => ∃ g', Pres g1 H1 g' H' ∧ Ext g4 g' ∧ EnvR (wd X) g' H' (fun a => B a ∧ a ≠ D) env1 σ2 ∧ HR (wd X) g' c5 H' ∧ LS (wd X) g' H' D (acc ++ (acc1 ++ ys1)), ?_, ?_⟩
            · rintro H' ⟨g', pq, ex', er', hr', ls'⟩
              refine ⟨items1.length - (j + 1), by omega, rfl, hjt, g', c5, acc1 ++ ys1, pq, ex', er', hr', ls', zs1, by rw [hz, List.append_assoc], ?_⟩
              rw [← List.append_assoc, List.length_append]
              exact hl
            · intro x1 H5 hyld1
              obtain ⟨g5, pr5, hr5, rx5⟩ := hy1 x1 H5 hyld1
              refine ⟨g5, wipeP env1 vs1, c, _, _, env2, (erB.pres pr5).wipe vs1, hr5, rx5, hb2, fun σ3 er5 keep5 => ⟨?_, ?_⟩⟩
              · rw [wipe_same (vs := vs1) (σ := σ3) (τ := L2.wipe σ2 vs1) (by rw [er5.len, bindT_len hb2, ((erB.pres pr5).wipe vs1).len]) fun i hi => keep5 i fun z => hi (ht1 i z)]
                exact wipe_same (by rw [L2.wipe_length]) fun i hi => wipe_get hi
              · refine ⟨g5, env2, c, _, er5, hr5, ?_⟩
                rw [hc2]
                intro g6 H6 pr6 hr6
                have l6 := (lsB.pres pr5).pres pr6
                have er6 := er5.pres pr6
                have prE := pr5.trans pr6
                have e56 : Ext g4 g6 := ⟨fun a o h => prE.ext.F a o (exB.F a o h), fun a h => prE.ext.c a (exB.c a h)⟩
                rcases hk2 with ⟨rfl, rfl, rfl⟩ | ⟨rfl, y, hv, rfl, hlm⟩
                · refine ⟨g6, prB.trans prE, e56, erB.pres prE, hr6, ?_⟩
                  rw [List.append_nil]; exact l6
                · refine ⟨g6, env2, c7, _, er6, hr6, ?_⟩
                  rw [hv]
                  intro g7 H7 pr7 hr7 v rv
                  obtain ⟨ws, e7, hwl, l7⟩ := (l6.pres pr7).app rv
                  obtain ⟨ws', e7', _, nf7, nc7⟩ := l6.pres pr7
                  have prF := prE.trans pr7
                  refine ⟨ws, e7, by rw [hwl, lim_eq]; exact hlm, g7, (prB.trans prF).write (.of nD) e7, ⟨fun a o h => pr7.ext.F a o (e56.F a o h), fun a h => pr7.ext.c a (e56.c a h)⟩, (erB.pres prF).write fun a hb => hb.2, hr7.write nf7 nc7 (.lst e7), by rw [← List.append_assoc]; exact l7⟩
          · have e : j = items1.length := by omega
            subst e
            refine .inl ⟨hJ1.stop _ g c H rfl exB hrB, ?_⟩
            rw [List.drop_length] at hl
            have hl' : R.ok ([] : List PV) c = R.ok zs c2 := hl
            cases hl'
            rw [List.append_nil] at hz
            subst hz
            exact ⟨g, prB, hrB, lsB⟩
  · have e : i = items.length := by omega
    subst e
    refine .inl ⟨hJ.stop _ g c H rfl pr.ext hr, ?_⟩
    rw [List.drop_length] at gd
    obtain ⟨ws, hD, rw', nf, nc⟩ := ls
    have gd' : GoodR (wd X) X.mg W g1 H1 σ (KL (wd X) H1 Q) (R.ok (PV.lst (acc ++ [])) c) := gd
    rw [List.append_nil] at gd'
    exact gd' g H pr hr D (.of nD) nf nc ⟨nc, ws, hD, rw'⟩
/-! ### the rules -/
abbrev XTs (X : Cx) (W : WX) (ifs : List Expr) (ev : Env → List PV → R Bool) : Prop := L2.PTs X ifs (tT (wd X) X.mg W ev)
theorem pts_weak {X : Cx} {ifs : List Expr} {t t' : TT} (h : L2.PTs X ifs t) (w : ∀ σ H Q, t' σ H Q → t σ H Q) : L2.PTs X ifs t' := ⟨fun pins s σ H Q I q => h.run pins s σ H Q I (w σ H Q q)⟩
theorem xts_nil {X : Cx} {W : WX} : XTs X W [] (fun _ c => .ok true c) := pts_weak pts_nil fun σ H Q h => by
  obtain ⟨g, env, c, B, er, hr, gd⟩ := h
  exact gd g H Pres.refl hr
theorem xts_one {X : Cx} {W : WX} {e : Expr} {et : Env → List PV → R Bool} (h : XT X W e et) : XTs X W [e] et := pts_one h
theorem x_comp (hc : X.calm = true) (hN : X.N.Nodup) (hi : XI X W tg iter ei) (ok : BlkOk X.N X.env.scope scope own) (ht : ∀ i ∈ t.vars, i ∈ own.map (·.2))
    (hg : ∀ (s : Shared) (H : Hp) (C : Addr) (cl : List (Str × Addr)) (fp : List Addr), L2.PG (X.blk s H scope (compEnvC scope cl C X.env) fp) tg (tG (wd X) t))
    (hts : ∀ (s : Shared) (H : Hp) (C : Addr) (cl : List (Str × Addr)) (fp : List Addr), XTs (X.blk s H scope (compEnvC scope cl C X.env) fp) WF ifs ec)
    (he : ∀ (s : Shared) (H : Hp) (C : Addr) (cl : List (Str × Addr)) (fp : List Addr), XE' (X.blk s H scope (compEnvC scope cl C X.env) fp) WF elt ev) (hs : ∀ x, foldedSetIterable iter X.env x = pure x) :
    XO X W (.ListComp elt [⟨tg, iter, ifs, 0⟩] scope pos) (compR ei t (own.map (·.2)) ec ev) :=
  pe_weak (pe_lc hc hN hi ok hg hts he hs) fun σ H Q h => tLc_read ht h
theorem x_comp2 (hc : X.calm = true) (hN : X.N.Nodup) (hi : XI X W tg iter ei) (ok : BlkOk X.N X.env.scope scope own) (ht : ∀ i ∈ t.vars, i ∈ own.map (·.2)) (ht1 : ∀ i ∈ t1.vars, i ∈ vs1) (hv1 : ∀ i ∈ vs1, i ∈ own.map (·.2))
    (hg : ∀ (s : Shared) (H : Hp) (C : Addr) (cl : List (Str × Addr)) (fp : List Addr), L2.PG (X.blk s H scope (compEnvC scope cl C X.env) fp) tg (tG (wd X) t))
    (hts : ∀ (s : Shared) (H : Hp) (C : Addr) (cl : List (Str × Addr)) (fp : List Addr), XTs (X.blk s H scope (compEnvC scope cl C X.env) fp) WF ifs ec)
    (hi1 : ∀ (s : Shared) (H : Hp) (C : Addr) (cl : List (Str × Addr)) (fp : List Addr), XI (X.blk s H scope (compEnvC scope cl C X.env) fp) WF tg1 iter1 ei1)
    (hg1 : ∀ (s : Shared) (H : Hp) (C : Addr) (cl : List (Str × Addr)) (fp : List Addr), L2.PG (X.blk s H scope (compEnvC scope cl C X.env) fp) tg1 (tG (wd X) t1))
    (hts1 : ∀ (s : Shared) (H : Hp) (C : Addr) (cl : List (Str × Addr)) (fp : List Addr), XTs (X.blk s H scope (compEnvC scope cl C X.env) fp) WF ifs1 ec1)
    (he : ∀ (s : Shared) (H : Hp) (C : Addr) (cl : List (Str × Addr)) (fp : List Addr), XE' (X.blk s H scope (compEnvC scope cl C X.env) fp) WF elt ev) (hs : ∀ x, foldedSetIterable iter X.env x = pure x) (hs1 : ∀ env x, foldedSetIterable iter1 env x = pure x) :
    XO X W (.ListComp elt [⟨tg, iter, ifs, 0⟩, ⟨tg1, iter1, ifs1, 0⟩] scope pos) (compR2 ei t (own.map (·.2)) ec ei1 t1 vs1 ec1 ev) :=
  pe_weak (pe_lc2 hc hN hi ok hv1 hg hts hi1 hg1 hts1 he hs hs1) fun σ H Q h => tLc2_read ht ht1 hv1 h
end
end PP

set_option Elab.async false
set_option linter.all false
set_option maxRecDepth 100000
/-! PP6f: displays of dicts with dicts in them. -/
namespace PP
open PySem PySem.Spec PyProof.Rows L2
section
variable {prog : Program} {w : World} {K : Type} [DecidableEq K] {knd : HeapKind prog w K} {A : Around} {E : Value → Shared → Prop} {s : Shared}
theorem wpAny_dictPut_heap {d a : Addr} {xs : List (K × Addr × Value)} {k : K} {v : Value} {Q : Unit → Shared → Prop} (hu : knd.room A) (hkey : knd.is s.heap k a) (hm : s.heap.DictOfH knd d xs)
    (hQ : ∀ h', h'.DictOfH knd d (storedH xs k a v) → Heap.SameBut d s.heap h' → Q () { s with heap := h' })
    (hsz : xs.length ≤ sizeLine) :
    wpAny (model prog w) A (dictPut d (knd.hash k) (.ref a) v) Q E s := by
  obtain ⟨o, es, ep, ho, hc, hd, he, his, hn⟩ := hm
  unfold dictPut
  refine wpAny_bind (wpAny_dictFind_heap hu hkey ho hd he his hn ?_ ?_)
  · intro hno
    have hnot : k ∉ xs.map (·.1) := not_mem_keys_of_get hno
    refine wpAny_updateDictKeys (hz := by have e := size_of_entries he; omega) ho hd (hQ _ ⟨_, _, ep + 1, Heap.get?_update_self _ ho (Obj.isFreed_of_dict (Obj.data_mapDictKeys hd _)),
      hc.mapDictKeys _, Obj.data_mapDictKeys hd _, ?_, ?_, ?_⟩ (Heap.SameBut.update ..))
    · rw [storedH_new (atKey_none_of_get hno)]
      simp [he, entryOfKey]
    · rw [storedH_new (atKey_none_of_get hno)]
      intro x hx
      rcases List.mem_append.mp hx with hx | hx
      · exact knd.keeps (his x hx) ho hd (Heap.SameBut.update ..)
      · simp only [List.mem_singleton] at hx
        subst hx
        exact knd.keeps hkey ho hd (Heap.SameBut.update ..)
    · rw [storedH_new (atKey_none_of_get hno)]
      rw [List.map_append, List.nodup_append]
      refine ⟨hn, by simp, ?_⟩
      intro x hx y hy
      simp only [List.map_cons, List.map_nil, List.mem_singleton] at hy
      subst hy
      exact fun e => hnot (e ▸ hx)
  · intro j p hj
    refine wpAny_updateDict ho hd (hQ _ ⟨_, _, ep, Heap.get?_update_self _ ho (Obj.isFreed_of_dict (Obj.data_mapDict hd _)),
      hc.mapDict _, Obj.data_mapDict hd _, ?_, ?_, ?_⟩ (Heap.SameBut.update ..))
    · rw [storedH_old (atKey_of_get hn hj)]
      have := modify_map_putAt (entryOfKey knd) (fun e : DictEntry => { e with val := v }) k v (fun _ _ => rfl) hn hj
      rw [← he] at this
      obtain ⟨l⟩ := es
      simpa using this
    · rw [storedH_old (atKey_of_get hn hj)]
      intro x hx
      obtain ⟨y, hy, rfl⟩ := List.mem_map.mp hx
      unfold putAt
      split <;> exact knd.keeps (his y hy) ho hd (Heap.SameBut.update ..)
    · rw [storedH_old (atKey_of_get hn hj)]
      rw [keys_map_putAt]; exact hn
theorem wpAny_mergeMapping_heap {d o : Addr} {kvs more : List (K × Addr × Value)} {Q : Unit → Shared → Prop} (hu : knd.room A) (hdo : d ≠ o) (hoS : (o == sysModules) = false)
    (hd : s.heap.DictOfH knd d kvs) (ho : s.heap.DictOfH knd o more) (hty : ∀ x ∈ more, s.TypeIs (.ref x.2.1) "tuple") (hap : kvs ≠ [] ∨ (more.map fun x => knd.hash x.1).Nodup)
    (hQ : ∀ h', h'.DictOfH knd d (storedAllH kvs more) → h'.DictOfH knd o more → Heap.SameBut d s.heap h' → Q () { s with heap := h' })
    (hsz : kvs.length + more.length ≤ sizeLine) :
    wpAny (model prog w) A (mergeMapping d (.ref o) false) Q E s := by
  obtain ⟨od, esd, epd, hod, hcd, hdd, hed, hisd, hnd⟩ := id hd
  obtain ⟨oo, eso, epo, hoo, hco, hdo', heo, hiso, hno⟩ := id ho
  have hlen : eso.size = more.length := size_of_entries heo
  have loop : wpAny (model prog w) A (do
      let size := (← dictEntries o).size
      let epoch ← dictEpoch o
      for i in List.range size do
        let some e := (← dictEntries o)[i]? | unsupported "dict.changed-during-merge"
        holding [e.key, e.val] do
          if false = true then
            if (← dictFind d e.key e.hash).isSome then rule "dict.merge.duplicate-key"; raiseNew (← newExc (.type "KeyError") [e.key])
          dictPut d e.hash e.key e.val
        if (← dictEpoch o) != epoch then unsupported "dict.changed-during-merge") Q E s := by
    refine wpAny_bind (wpAny_dictEntries hoo hdo' ?_)
    refine wpAny_bind (wpAny_dictEpoch hoo hdo' ?_)
    rw [List.range_eq_range']
    refine wpAny_bind (wpAny_forIn_list _
      (fun rest _ s' => ∃ h' i, s' = { s with heap := h' } ∧ rest = List.range' i (eso.size - i) ∧ i ≤ eso.size ∧ h'.DictOfH knd d (storedAllH kvs (more.take i)) ∧ h'.DictOfH knd o more ∧ h'.get? o = some oo ∧ Heap.SameBut d s.heap h')
      _ ?_ ?_ _ _ ⟨s.heap, 0, rfl, by simp, Nat.zero_le _, by simpa [storedAllH] using hd, ho, hoo, Heap.SameBut.refl _ _⟩)
    · rintro x rest b s' ⟨h', i, rfl, hr, hi, hd', ho', hoo', hs'⟩
      have hlt : i < eso.size := by
        rcases Nat.lt_or_ge i eso.size with h | h
        · exact h
        · rw [Nat.sub_eq_zero_of_le h] at hr; simp at hr
      obtain ⟨rfl, hrest⟩ : x = i ∧ rest = List.range' (i + 1) (eso.size - (i + 1)) := by
        have e : eso.size - i = (eso.size - (i + 1)) + 1 := by omega
        rw [e, List.range'_succ] at hr
        injection hr with h1 h2
        exact ⟨h1, h2⟩
      refine wpAny_bind (wpAny_dictEntries hoo' hdo' ?_)
      obtain ⟨⟨k, a, v⟩, hkv⟩ : ∃ kv, more[x]? = some kv := ⟨more[x]'(by rw [← hlen]; exact hlt), List.getElem?_eq_getElem _⟩
      rw [entry_at heo x, hkv]
      have hmx : (storedAllH kvs (more.take x)).length ≤ sizeLine := by
        have e1 := storedAllH_length (more.take x) kvs
        have e2 : (more.take x).length ≤ more.length := by rw [List.length_take]; omega
        omega
      have hkey : knd.is h' k a := by
        obtain ⟨_, _, _, _, _, _, _, his', _⟩ := ho'
        exact his' (k, a, v) (List.mem_of_getElem? hkv)
      show wpAny _ _ (holding [.ref a, v] (dictPut d (knd.hash k) (.ref a) v) >>= _) _ _ _
      refine wpAny_bind (wpAny_holding (wpAny_dictPut_heap (s := { s with heap := h' }) hu hkey hd' (fun h'' hd'' hs'' => ?_) hmx))
      have hoo'' : h''.get? o = some oo := (hs''.2 o (Ne.symm hdo)).trans hoo'
      refine wpAny_bind (wpAny_dictEpoch hoo'' hdo' ?_)
      rw [if_neg (by simp)]
      exact wpAny_pure ⟨h'', x + 1, rfl, hrest, hlt, by rw [storedAllH_take_succ kvs more x (k, a, v) hkv]; exact hd'', ho'.notHere hd' hdo hs'', hoo'', hs'.trans hs''⟩
    · rintro b s' ⟨h', i, rfl, hr, hi, hd', ho', hoo', hs'⟩
      have hin : i = eso.size := by
        rcases Nat.lt_or_ge i eso.size with h | h
        · have e : eso.size - i = (eso.size - (i + 1)) + 1 := by omega
          rw [e, List.range'_succ] at hr; exact nomatch hr
        · exact Nat.le_antisymm hi h
      refine wpAny_pure (hQ h' ?_ ho' hs')
      rw [hin, hlen, List.take_length] at hd'; exact hd'
  unfold mergeMapping
  refine wpAny_bind (wpAny_isInstance ho.typeIs isSubtype_dict_dict ?_)
  rw [if_pos rfl]
  refine wpAny_bind (wpAny_specialOf ho.typeIs F.slot_dict_iter.lookup ?_)
  refine wpAny_bind (wpAny_pure ?_)
  simp only [beq_self_eq_true]
  rw [if_neg (by rw [hoS]; exact Bool.false_ne_true)]
  refine wpAny_bind (wpAny_dictEntries hod hdd ?_)
  split
  · rename_i hemp
    have hkvs : kvs = [] := by
      have h0 : esd = #[] := Array.isEmpty_iff.mp hemp
      have := size_of_entries hed
      rw [h0] at this
      exact List.length_eq_zero_iff.mp (by simpa using this.symm)
    have hap' := hap.resolve_left fun h => h hkvs
    refine wpAny_bind (wpAny_dictEntries hoo hdo' ?_)
    have apart := keysApart heo hty hap'
    refine wpAny_bind ?_
    rw [← Array.forIn_toList]
    refine wpAny_forIn_list _ (fun rest _ s' => s' = s ∧ ∀ e ∈ rest, KeyApart s eso e) _ ?_ ?_ _ _ ⟨rfl, apart⟩
    · rintro e rest b s' ⟨rfl, hall⟩
      have hrest : ∀ x ∈ rest, KeyApart s' eso x := fun x hx => hall x (List.mem_cons_of_mem _ hx)
      rcases hall e List.mem_cons_self with hv | ⟨a, hk, hT, h1⟩
      · generalize e.key = kk at hv ⊢
        cases kk <;> first | exact wpAny_pure ⟨rfl, hrest⟩ | cases hv
      · rw [hk]
        refine wpAny_bind (wpAny_specialOf hT F.slot_tuple_eq.lookup ?_)
        refine wpAny_ite_split (fun _ => ?_) (fun _ => wpAny_pure ⟨rfl, hrest⟩)
        rw [if_neg (by omega)]
        exact wpAny_pure ⟨rfl, hrest⟩
    · rintro b s' ⟨rfl, _⟩
      exact loop
  · exact loop
end
end PP

set_option Elab.async false
set_option linter.all false
set_option maxRecDepth 100000
/-! PP6g: the display's steps. -/
namespace PP
open PySem PySem.Spec PyProof.Rows L2
/-- one dict taken into the new one -/
def mstep (d : Addr) (v : Sem Value) : Sem Unit := do
  let m ← holding [.ref d] v
  (((holding [.ref d, m] (mergeMapping d m false)).onRaise fun x => do let _ ← holding [.ref d, m, x] (runValue (.builtin "proto.let_go" {}))).tryCatch fun e => do
    if ← isInstance e (.type "AttributeError") then
      rule "dict.display.not-a-mapping"; raiseError "TypeError" s!"'{← typeNameOf m}' object is not a mapping"
    throw e).onRaise fun x => do let _ ← holding [.ref d, x] (runValue (.builtin "proto.let_go" {}))
/-- the pairs at the end taken into the new one -/
def pstep (d : Addr) (run : List (Sem Value × Sem Value)) : Sem Unit := do
  let sub ← holding [.ref d] (subDict run)
  (holding [.ref d, .ref sub] (mergeMapping d (.ref sub) false)).onRaise fun x => do let _ ← holding [.ref d, x] (runValue (.builtin "proto.let_go" {}))
theorem display_cat (x y : Sem Value) : dictDisplay [(none, x), (none, y)] = (do
    let d ← alloc { cls := .type "dict", data := .dict #[] }
    mstep d x
    mstep d y
    pure (.ref d)) := by
  unfold dictDisplay mstep
  simp
theorem display_add (x k v : Sem Value) : dictDisplay [(none, x), (some k, v)] = (do
    let d ← alloc { cls := .type "dict", data := .dict #[] }
    mstep d x
    pstep d [(k, v)]
    pure (.ref d)) := by
  unfold dictDisplay mstep pstep
  simp
section
variable {M : Model} {A : Around} {E : Value → Shared → Prop} {s : Shared}
theorem mstep_run {d : Addr} {x : Sem Value} {Q : Unit → Shared → Prop} (h : wpAny M A x (fun m s1 => ∀ E', wpAny M A (mergeMapping d m false) Q E' s1) E s) : wpAny M A (mstep d x) Q E s := by
  unfold mstep
  refine wpAny_bind (wpAny_holding (wpAny_mono h (fun m s1 hm => ?_) fun _ _ e => e))
  exact wpAny_onRaise (wpAny_tryCatch (wpAny_onRaise (wpAny_holding (hm _))))
theorem pstep_run {d : Addr} {run : List (Sem Value × Sem Value)} {Q : Unit → Shared → Prop} (h : wpAny M A (subDict run) (fun m s1 => ∀ E', wpAny M A (mergeMapping d (.ref m) false) Q E' s1) E s) : wpAny M A (pstep d run) Q E s := by
  unfold pstep
  refine wpAny_bind (wpAny_holding (wpAny_mono h (fun m s1 hm => ?_) fun _ _ e => e))
  exact wpAny_onRaise (wpAny_holding (hm _))
end
end PP

set_option Elab.async false
set_option linter.all false
set_option maxRecDepth 100000
/-! PP6h: dict displays, as pure operations. -/
namespace PP
open PySem PySem.Spec PyProof.Rows L2
/-! ### hashes -/
theorem mapM_cons' {α β : Type} {f : α → Option β} {x : α} {xs : List α} {ys : List β} (h : (x :: xs).mapM f = some ys) : ∃ y zs, f x = some y ∧ xs.mapM f = some zs ∧ ys = y :: zs := by
  rw [List.mapM_cons] at h
  cases e : f x with
  | none => rw [e] at h; cases h
  | some y =>
    rw [e] at h
    cases e2 : xs.mapM f with
    | none => simp [e2] at h
    | some zs =>
      simp [e2] at h
      exact ⟨y, zs, rfl, rfl, h.symm⟩
theorem pkh_eq {w : World} : ∀ (n : Nat) (p : PV) (x : Int), pkh n p = some x → (nk p).hash w = x := by
  intro n
  induction n with
  | zero => intro p x h; cases p <;> simp [pkh] at h <;> (try subst h) <;> simp [nk, NestedKey.hash]
  | succ n ih =>
    have all : ∀ (xs : List PV) (hs : List Int), xs.mapM (pkh n) = some hs → NestedKey.hashes w (nks xs) = hs := fun xs => by
      induction xs with
      | nil => intro hs h; simp at h; subst h; simp [nks, NestedKey.hashes]
      | cons y r ihr =>
        intro hs h
        obtain ⟨a, b, e1, e2, rfl⟩ := mapM_cons' h
        rw [nks, NestedKey.hashes, ih y a e1, ihr b e2]
    intro p x h
    cases p with
    | tup xs =>
      rw [pkh] at h
      obtain ⟨hs, e, rfl⟩ := Option.map_eq_some_iff.mp h
      rw [nk, NestedKey.hash, all xs hs e]
    | _ => simp [pkh] at h <;> (try subst h) <;> simp [nk, NestedKey.hash]
theorem apart_nd {prog : Program} {w : World} {kvs : List (PV × PV)} (h : apart kvs = true) : ((kvs.map fun p => nk p.1).map (nestedKind prog w).hash).Nodup := by
  unfold apart at h
  rw [Bool.or_eq_true] at h
  rcases h with h | h
  · have := of_decide_eq_true h
    match kvs, this with
    | [], _ => exact List.nodup_nil
    | [_], _ => simp
    | _ :: _ :: _, h => simp at h
  · split at h
    · rename_i hs e
      have key : ∀ (r : List (PV × PV)) (hs : List Int), (r.map (·.1)).mapM (pkh 8) = some hs → (r.map fun p => nk p.1).map (nestedKind prog w).hash = hs := fun r => by
        induction r with
        | nil => intro hs e; simp at e; subst e; rfl
        | cons q r ih =>
          intro hs e
          rw [List.map_cons] at e
          obtain ⟨a, b, e1, e2, rfl⟩ := mapM_cons' e
          rw [List.map_cons, List.map_cons, ih b e2]
          congr 1
          exact pkh_eq 8 q.1 a e1
      rw [key kvs hs e]
      exact of_decide_eq_true h
    · cases h

/-! ### entries -/
section
variable {T : Wd} {g g' : Gh}
inductive RpX (T : Wd) (g : Gh) : List (NestedKey × Addr × Value) → List (PV × PV) → Prop
  | nil : RpX T g [] []
  | cons {k v : PV} {ka : Addr} {u : Value} {vv : V} {xs : List (NestedKey × Addr × Value)} {kvs : List (PV × PV)} : isKey k = true → Rp T g (.ref ka) k → RelV vv u → Rp T g vv v → RpX T g xs kvs → RpX T g ((nk k, ka, u) :: xs) ((k, v) :: kvs)
theorem RpD.toX : ∀ {es : List DictEntry} {kvs : List (PV × PV)}, RpD T g es kvs → ∃ xs, es = xs.map (entryOfKey (nestedKind T.P T.w)) ∧ RpX T g xs kvs
  | _, _, .nil => ⟨[], rfl, .nil⟩
  | _, _, .cons (en := en) (k := k0) (ka := ka) hk ek rk eh rv rp t => by
    obtain ⟨xs, e, r⟩ := RpD.toX t
    refine ⟨(nk k0, ka, en.val) :: xs, ?_, .cons hk rk rv rp r⟩
    rw [List.map_cons, ← e]
    congr 1
    obtain ⟨h1, h2, h3⟩ := en
    simp only at ek eh
    subst ek eh
    rfl
theorem RpX.toD : ∀ {xs : List (NestedKey × Addr × Value)} {kvs : List (PV × PV)}, RpX T g xs kvs → RpD T g (xs.map (entryOfKey (nestedKind T.P T.w))) kvs
  | _, _, .nil => .nil
  | _, _, .cons hk rk rv rp t => .cons hk rfl rk rfl rv rp (RpX.toD t)
theorem RpX.keys : ∀ {xs : List (NestedKey × Addr × Value)} {kvs : List (PV × PV)}, RpX T g xs kvs → xs.map (·.1) = kvs.map fun p => nk p.1
  | _, _, .nil => rfl
  | _, _, .cons _ _ _ _ t => by rw [List.map_cons, List.map_cons, RpX.keys t]
theorem RpX.len {xs : List (NestedKey × Addr × Value)} {kvs : List (PV × PV)} (r : RpX T g xs kvs) : xs.length = kvs.length := by
  have := congrArg List.length r.keys
  simpa using this
theorem RpX.ext (x : Ext g g') : ∀ {xs : List (NestedKey × Addr × Value)} {kvs : List (PV × PV)}, RpX T g xs kvs → RpX T g' xs kvs
  | _, _, .nil => .nil
  | _, _, .cons hk rk rv rp t => .cons hk (rk.ext x) rv (rp.ext x) (RpX.ext x t)
theorem storedH_hit {K : Type} [DecidableEq K] {xs : List (K × Addr × Value)} {k : K} {a b : Addr} {u u' : Value} (hn : k ∉ xs.map (·.1)) : storedH ((k, b, u') :: xs) k a u = (k, b, u) :: xs := by
  have h : atKey ((k, b, u') :: xs) k = some (b, u') := by simp [atKey]
  rw [storedH_old h, List.map_cons, map_putAt_of_not_mem xs k u hn]
  simp [putAt]
theorem storedH_miss {K : Type} [DecidableEq K] {xs : List (K × Addr × Value)} {x : K × Addr × Value} {k : K} {a : Addr} {u : Value} (h : x.1 ≠ k) : storedH (x :: xs) k a u = x :: storedH xs k a u := by
  unfold storedH
  have e : atKey (x :: xs) k = atKey xs k := by simp [atKey, h]
  rw [e]
  split
  · rw [List.map_cons]
    congr 1
    simp [putAt, h]
  · rfl
theorem storedH_keys {K : Type} [DecidableEq K] {xs : List (K × Addr × Value)} {k : K} {a : Addr} {u : Value} (nd : (xs.map (·.1)).Nodup) : ((storedH xs k a u).map (·.1)).Nodup := by
  cases h : atKey xs k with
  | some p => rw [storedH_old h, keys_map_putAt]; exact nd
  | none =>
    rw [storedH_new h, List.map_append, List.nodup_append]
    refine ⟨nd, by simp, fun x hx y hy e => ?_⟩
    simp only [List.map_cons, List.map_nil, List.mem_singleton] at hy
    subst hy
    subst e
    obtain ⟨q, hq, e⟩ := List.mem_map.mp hx
    have := List.find?_eq_none.mp (Option.map_eq_none_iff.mp h) q hq
    exact this (by simpa using e)
theorem RpX.put {k v : PV} {a : Addr} {u : Value} {vv : V} (hk : isKey k = true) (rk : Rp T g (.ref a) k) (rv : RelV vv u) (rp : Rp T g vv v) : ∀ {xs : List (NestedKey × Addr × Value)} {kvs : List (PV × PV)}, RpX T g xs kvs → (xs.map (·.1)).Nodup → RpX T g (storedH xs (nk k) a u) (dput kvs k v)
  | _, _, .nil, _ => by
    show RpX T g (storedH [] (nk k) a u) [(k, v)]
    exact .cons hk rk rv rp .nil
  | _, _, .cons (k := k0) (v := v0) (ka := ka0) (u := u0) (xs := xs) (kvs := kvs) hk0 rk0 rv0 rp0 t, nd => by
    rw [List.map_cons, List.nodup_cons] at nd
    rw [dput, key_eq hk0 hk]
    by_cases h : nk k0 = nk k
    · rw [decide_eq_true h, if_pos rfl, ← h, storedH_hit nd.1]
      exact .cons hk0 rk0 rv rp t
    · rw [decide_eq_false h, if_neg Bool.false_ne_true, storedH_miss h]
      exact .cons hk0 rk0 rv0 rp0 (RpX.put hk rk rv rp t nd.2)
theorem RpX.putAll : ∀ {ys : List (NestedKey × Addr × Value)} {more : List (PV × PV)} {xs : List (NestedKey × Addr × Value)} {kvs : List (PV × PV)}, RpX T g ys more → RpX T g xs kvs → (xs.map (·.1)).Nodup → RpX T g (storedAllH xs ys) (dputAll kvs more)
  | _, _, xs, kvs, .nil, r, _ => r
  | _, _, xs, kvs, .cons (k := k0) (v := v0) (ka := ka0) (u := u0) (xs := ys) (kvs := more) hk rk rv rp t, r, nd => by
    show RpX T g (storedAllH (storedH xs (nk k0) ka0 u0) ys) (dputAll (dput kvs k0 v0) more)
    exact RpX.putAll t (RpX.put hk rk rv rp r nd) (storedH_keys nd)
end
section
variable {X : Cx} {pins : List (Addr × Obj)} {σ : L2.St} {H : Hp} {s : Shared} {g : Gh} {c : List PV}
theorem RpX.is (I : Inv X pins σ H s) (hr : HR (wd X) g c H) : ∀ {xs : List (NestedKey × Addr × Value)} {kvs : List (PV × PV)}, RpX (wd X) g xs kvs → ∀ x ∈ xs, (nestedKind X.prog X.w).is s.heap x.1 x.2.1 ∧ s.TypeIs (.ref x.2.1) "tuple"
  | _, _, .nil => fun x h => nomatch h
  | _, _, .cons (k := k0) (ka := ka) hk rk rv rp t => fun x hx => by
    rcases List.mem_cons.mp hx with rfl | hx
    · obtain ⟨a, ea, _, hi⟩ := rk.key I hr (u := .ref ka) hk rfl
      cases ea
      refine ⟨hi, ?_⟩
      obtain ⟨xs, rfl, _⟩ := isKey_tup hk
      cases rk with
      | tup e rl =>
        obtain ⟨its, _, pt, _⟩ := I.tuple (hr.sqT e)
        exact pt.typeIs
    · exact RpX.is I hr t x hx
/-- a dict, by its entries with their keys -/
theorem DicR.x (I : Inv X pins σ H s) (hr : HR (wd X) g c H) {a : Addr} {o : Obj} {kvs : List (PV × PV)} (e : H a = some (objO a o)) (d : DicR (wd X) g a o kvs) :
    ∃ xs, RpX (wd X) g xs kvs ∧ s.heap.DictOfH (nestedKind X.prog X.w) a xs ∧ (xs.map (·.1)).Nodup := by
  obtain ⟨es, ep, hd, r⟩ := d.at_
  obtain ⟨xs, e1, rx⟩ := r.toX
  have nd : (xs.map (·.1)).Nodup := by rw [rx.keys]; exact d.nd
  exact ⟨xs, rx, ⟨o, es, ep, (I.hok a _ e).1, d.ex, hd, e1, fun x hx => (rx.is I hr x hx).1, nd⟩, nd⟩
theorem DicR.ofX {h : Heap} {a : Addr} {xs : List (NestedKey × Addr × Value)} {kvs : List (PV × PV)} (sm : (a == sysModules) = false) (d : h.DictOfH (nestedKind X.prog X.w) a xs) (r : RpX (wd X) g xs kvs) (hl : kvs.length ≤ LIM) :
    ∃ o, h.get? a = some o ∧ DicR (wd X) g a o kvs := by
  obtain ⟨o, es, ep, ho, ex, hd, he, _, hn⟩ := d
  exact ⟨o, ho, sm, ex, ⟨es, ep, hd, by rw [he]; exact r.toD⟩, by rw [← r.keys]; exact hn, hl⟩
end
end PP

set_option Elab.async false
set_option linter.all false
set_option maxRecDepth 100000
/-! PP6l: dicts by whole numbers taken into others. -/
namespace PP
open PySem PySem.Spec PyProof.Rows L2
section
variable {prog : Program} {w : World} {K : Type} [DecidableEq K] {knd : KeyKind prog w K} {A : Around} {E : Value → Shared → Prop} {s : Shared}
theorem wpAny_dictPut_of {d : Addr} {kvs : List (K × Value)} {k : K} {key v : Value} {Q : Unit → Shared → Prop} (hkey : knd.is k key = true) (hm : s.heap.DictOf knd d kvs)
    (hQ : ∀ h', h'.DictOf knd d (stored kvs k v) → Heap.SameBut d s.heap h' → Q () { s with heap := h' })
    (hsz : kvs.length ≤ sizeLine) : wpAny (model prog w) A (dictPut d (knd.hash k) key v) Q E s := by
  obtain ⟨o, es, ep, ho, hc, hd, hk, hp, hn⟩ := hm
  have hes : es.size ≤ sizeLine := by
    have e1 := hp.length
    have e2 : es.toList.length = es.size := by simp
    omega
  unfold dictPut
  refine wpAny_bind (wpAny_dictFind_of hkey ho hd hk ?_)
  have hidx : (es.findIdx? fun e => knd.is k e.key) = kvs.findIdx? fun kv => decide (kv.1 = k) := by
    rw [← hp.findIdx k]; obtain ⟨l⟩ := es; simp
  cases hi : es.findIdx? fun e => knd.is k e.key with
  | some i =>
    refine wpAny_updateDict ho hd (hQ _ ⟨_, _, ep, Heap.get?_update_self _ ho (Obj.isFreed_of_dict (Obj.data_mapDict hd _)),
      hc.mapDict _, Obj.data_mapDict hd _, hk.modify _ _, ?_, ?_⟩ (Heap.SameBut.update ..))
    · rw [stored, if_pos (any_of_findIdx_some (hidx ▸ hi))]
      have hl : (es.toList.findIdx? fun e => knd.is k e.key) = some i := by rw [← hi]; obtain ⟨l⟩ := es; simp
      have := hp.modify hn hl v
      obtain ⟨l⟩ := es
      simpa using this
    · rw [stored, if_pos (any_of_findIdx_some (hidx ▸ hi)), keys_map_store]; exact hn
  | none =>
    have hnot : k ∉ kvs.map (·.1) := not_mem_of_findIdx_none (hidx ▸ hi)
    have hany : ¬ (kvs.any fun kv => decide (kv.1 = k)) = true := by
      rw [List.any_eq_true]; rintro ⟨kv, hkv, he⟩
      exact hnot (List.mem_map.mpr ⟨kv, hkv, of_decide_eq_true he⟩)
    refine wpAny_updateDictKeys (hz := hes) ho hd (hQ _ ⟨_, _, ep + 1, Heap.get?_update_self _ ho (Obj.isFreed_of_dict (Obj.data_mapDictKeys hd _)),
      hc.mapDictKeys _, Obj.data_mapDictKeys hd _, hk.push hkey _, ?_, ?_⟩ (Heap.SameBut.update ..))
    · rw [stored, if_neg hany]
      have := hp.append hkey (knd.hash k) v
      obtain ⟨l⟩ := es
      simpa using this
    · rw [stored, if_neg hany, List.map_append, List.nodup_append]
      refine ⟨hn, by simp, ?_⟩
      intro a ha b hb
      simp only [List.map_cons, List.map_nil, List.mem_singleton] at hb
      subst hb
      exact fun e => hnot (e ▸ ha)
theorem Pairs.at' : ∀ {es : List DictEntry} {kvs : List (K × Value)}, Pairs knd es kvs → ∀ {i : Nat}, i < es.length → ∃ e kv, es[i]? = some e ∧ kvs[i]? = some kv ∧ knd.is kv.1 e.key = true ∧ e.val = kv.2
  | _, _, .nil, i, h => absurd h (Nat.not_lt_zero _)
  | _, _, .cons h1 h2 t, 0, h => ⟨_, _, rfl, rfl, h1, h2⟩
  | _, _, .cons h1 h2 t, i + 1, h => by
    obtain ⟨e, kv, a1, a2, a3⟩ := Pairs.at' t (i := i) (by simpa using h)
    exact ⟨e, kv, by rw [List.getElem?_cons_succ]; exact a1, by rw [List.getElem?_cons_succ]; exact a2, a3⟩
theorem merged_take (kvs more : List (K × Value)) (x : Nat) (p : K × Value) (h : more[x]? = some p) : merged kvs (more.take (x + 1)) = stored (merged kvs (more.take x)) p.1 p.2 := by
  unfold merged
  rw [List.take_add_one, h, Option.toList_some, List.foldl_append]; rfl
theorem merged_len : ∀ (more kvs : List (K × Value)), (merged kvs more).length ≤ kvs.length + more.length
  | [], kvs => by unfold merged; simp
  | p :: r, kvs => by
    have h1 := merged_len r (stored kvs p.1 p.2)
    have h2 := stored_length_le kvs p.1 p.2
    unfold merged at h1 ⊢
    rw [List.foldl_cons, List.length_cons]
    omega
theorem wpAny_mergeMapping_of {d o : Addr} {kvs more : List (K × Value)} {Q : Unit → Shared → Prop} (hdo : d ≠ o) (hoS : (o == sysModules) = false)
    (hd : s.heap.DictOf knd d kvs) (ho : s.heap.DictOf knd o more)
    (hQ : ∀ h', h'.DictOf knd d (merged kvs more) → Heap.SameBut d s.heap h' → Q () { s with heap := h' })
    (hsz : kvs.length + more.length ≤ sizeLine) :
    wpAny (model prog w) A (mergeMapping d (.ref o) false) Q E s := by
  have hTo : s.TypeIs (.ref o) "dict" := ho.typeIs
  obtain ⟨od, esd, epd, hod, hcd, hdd, hkd, hpd, hnd⟩ := id hd
  obtain ⟨oo, eso, epo, hoo, hco, hdo', hko, hpo, hno⟩ := id ho
  have hlen : eso.size = more.length := by
    have e1 := hpo.length
    have e2 : eso.toList.length = eso.size := by simp
    omega
  have loop : wpAny (model prog w) A (do
      let size := (← dictEntries o).size
      let epoch ← dictEpoch o
      for i in List.range size do
        let some e := (← dictEntries o)[i]? | unsupported "dict.changed-during-merge"
        holding [e.key, e.val] do
          if false = true then
            if (← dictFind d e.key e.hash).isSome then rule "dict.merge.duplicate-key"; raiseNew (← newExc (.type "KeyError") [e.key])
          dictPut d e.hash e.key e.val
        if (← dictEpoch o) != epoch then unsupported "dict.changed-during-merge") Q E s := by
    refine wpAny_bind (wpAny_dictEntries hoo hdo' ?_)
    refine wpAny_bind (wpAny_dictEpoch hoo hdo' ?_)
    rw [List.range_eq_range']
    refine wpAny_bind (wpAny_forIn_list _
      (fun rest _ s' => ∃ h' i, s' = { s with heap := h' } ∧ rest = List.range' i (eso.size - i) ∧ i ≤ eso.size ∧ h'.DictOf knd d (merged kvs (more.take i)) ∧ h'.get? o = some oo ∧ Heap.SameBut d s.heap h')
      _ ?_ ?_ _ _ ⟨s.heap, 0, rfl, by simp, Nat.zero_le _, by simpa [merged] using hd, hoo, Heap.SameBut.refl _ _⟩)
    · rintro x rest b s' ⟨h', i, rfl, hr, hi, hd', hoo', hs'⟩
      have hlt : i < eso.size := by
        rcases Nat.lt_or_ge i eso.size with h | h
        · exact h
        · rw [Nat.sub_eq_zero_of_le h] at hr; simp at hr
      obtain ⟨rfl, hrest⟩ : x = i ∧ rest = List.range' (i + 1) (eso.size - (i + 1)) := by
        have e : eso.size - i = (eso.size - (i + 1)) + 1 := by omega
        rw [e, List.range'_succ] at hr
        injection hr with h1 h2
        exact ⟨h1, h2⟩
      refine wpAny_bind (wpAny_dictEntries hoo' hdo' ?_)
      obtain ⟨e, kv, e1, e2, e3, e4⟩ := Pairs.at' hpo (i := x) (by simpa using hlt)
      have e1' : eso[x]? = some e := by rw [← e1]; simp
      have hh : e.hash = knd.hash kv.1 := by
        obtain ⟨k', q1, q2⟩ := hko e (Array.mem_of_getElem? e1')
        rw [q2, knd.inj _ _ _ q1 e3]
      rw [e1']
      have hmx : (merged kvs (more.take x)).length ≤ sizeLine := by
        have e1 := merged_len (more.take x) kvs
        have e2 : (more.take x).length ≤ more.length := by rw [List.length_take]; omega
        omega
      show wpAny _ _ (holding [e.key, e.val] (dictPut d e.hash e.key e.val) >>= _) _ _ _
      rw [hh, e4]
      refine wpAny_bind (wpAny_holding (wpAny_dictPut_of (s := { s with heap := h' }) e3 hd' (fun h'' hd'' hs'' => ?_) hmx))
      have hoo'' : h''.get? o = some oo := (hs''.2 o (Ne.symm hdo)).trans hoo'
      refine wpAny_bind (wpAny_dictEpoch hoo'' hdo' ?_)
      rw [if_neg (by simp)]
      exact wpAny_pure ⟨h'', x + 1, rfl, hrest, hlt, by rw [merged_take kvs more x kv e2]; exact hd'', hoo'', hs'.trans hs''⟩
    · rintro b s' ⟨h', i, rfl, hr, hi, hd', hoo', hs'⟩
      have hin : i = eso.size := by
        rcases Nat.lt_or_ge i eso.size with h | h
        · have e : eso.size - i = (eso.size - (i + 1)) + 1 := by omega
          rw [e, List.range'_succ] at hr; exact nomatch hr
        · exact Nat.le_antisymm hi h
      refine wpAny_pure (hQ h' ?_ hs')
      rw [hin, hlen, List.take_length] at hd'; exact hd'
  unfold mergeMapping
  refine wpAny_bind (wpAny_isInstance hTo isSubtype_dict_dict ?_)
  rw [if_pos rfl]
  refine wpAny_bind (wpAny_specialOf hTo F.slot_dict_iter.lookup ?_)
  refine wpAny_bind (wpAny_pure ?_)
  simp only [beq_self_eq_true]
  rw [if_neg (by rw [hoS]; exact Bool.false_ne_true)]
  refine wpAny_bind (wpAny_dictEntries hod hdd ?_)
  split
  · refine wpAny_bind (wpAny_dictEntries hoo hdo' ?_)
    have val : ∀ e ∈ eso.toList, carriedByValue e.key = true := fun e he => by
      obtain ⟨k', q1, _⟩ := hko e (Array.mem_toList_iff.mp he)
      exact knd.byValue _ _ q1
    refine wpAny_bind ?_
    rw [← Array.forIn_toList]
    refine wpAny_forIn_list _ (fun rest _ s' => s' = s ∧ ∀ e ∈ rest, carriedByValue e.key = true) _ ?_ ?_ _ _ ⟨rfl, val⟩
    · rintro e rest b s' ⟨rfl, hall⟩
      have hrest : ∀ x ∈ rest, carriedByValue x.key = true := fun x hx => hall x (List.mem_cons_of_mem _ hx)
      have hv := hall e List.mem_cons_self
      generalize e.key = kk at hv ⊢
      cases kk <;> first | exact wpAny_pure ⟨rfl, hrest⟩ | cases hv
    · rintro b s' ⟨rfl, _⟩
      exact loop
  · exact loop
end
section
variable {X : Cx} {pins : List (Addr × Obj)} {σ : L2.St} {H : Hp} {s : Shared} {E : Value → Shared → Prop}
theorem merge_k {d o : Addr} {kvs more : List (Key × V)} {Q : Unit → Shared → Prop} (I : Inv X pins σ H s) (ed : H d = some (.dK kvs)) (eo : H o = some (.dK more)) (hdo : d ≠ o) (hl : kvs.length + more.length ≤ sizeLine)
    (h : ∀ s', Inv X pins σ (upd H d (.dK (mergeK kvs more))) s' → Q () s') :
    wpAny (model X.prog X.w) X.A (mergeMapping d (.ref o) false) Q E s := by
  obtain ⟨z, hd, vs, rel, dd⟩ := dk_of I.hok ed
  obtain ⟨z2, hd2, vs2, rel2, dd2⟩ := dk_of I.hok eo
  refine wpAny_mergeMapping_of (knd := mixKind X.prog X.w) hdo hd2 dd dd2 (fun h' dd' hs => h _ ?_) (by rw [← rel.length, ← rel2.length]; exact hl)
  have he : ∃ q, h'.get? d = some q := let ⟨q, _, _, hq, _⟩ := dd'; ⟨q, hq⟩
  exact d_write (t' := s.toks) I (by rw [ed]; exact True.intro) hs he (dk_new (Nat.le_trans (length_mergeK more kvs) hl) hd (KV.merge rel2 rel) dd')
theorem dk_nodup {d : Addr} {kvs : List (Key × V)} (I : Inv X pins σ H s) (ed : H d = some (.dK kvs)) : (kvs.map (·.1)).Nodup := by
  obtain ⟨z, hd, vs, rel, o, es, ep, _, _, _, _, _, nd⟩ := dk_of I.hok ed
  rw [rel.keys]
  exact nd
end
theorem mergeK_nil {κ : Type} [DecidableEq κ] {V' : Type} : True := trivial
end PP

set_option Elab.async false
set_option linter.all false
set_option maxRecDepth 100000
/-! PP6i: displays of dicts, as expressions. -/
namespace PP
open PySem PySem.Spec PyProof.Rows L2
theorem dput_len (kvs : List (PV × PV)) (k v : PV) : (dput kvs k v).length ≤ kvs.length + 1 := by
  induction kvs with
  | nil => simp [dput]
  | cons p r ih =>
    rw [dput]
    split
    · simp
    · rw [List.length_cons, List.length_cons]; omega
theorem dputAll_len : ∀ (more kvs : List (PV × PV)), (dputAll kvs more).length ≤ kvs.length + more.length
  | [], kvs => by simp [dputAll]
  | (k, v) :: r, kvs => by
    rw [dputAll]
    have h1 := dputAll_len r (dput kvs k v)
    have h2 := dput_len kvs k v
    rw [List.length_cons]; omega
theorem dput_new {kvs : List (PV × PV)} {k v : PV} (hk : isKey k = true) (hall : ∀ p ∈ kvs, isKey p.1 = true) (hn : nk k ∉ kvs.map fun p => nk p.1) : dput kvs k v = kvs ++ [(k, v)] := by
  induction kvs with
  | nil => rfl
  | cons p r ih =>
    obtain ⟨j, u⟩ := p
    rw [List.map_cons, List.mem_cons, not_or] at hn
    rw [dput, key_eq (hall _ List.mem_cons_self) hk, decide_eq_false (fun e => hn.1 e.symm), if_neg Bool.false_ne_true, ih (fun p hp => hall p (List.mem_cons_of_mem _ hp)) hn.2]
    rfl
theorem dputAll_new : ∀ (more kvs : List (PV × PV)), (∀ p ∈ kvs ++ more, isKey p.1 = true) → ((kvs ++ more).map fun p => nk p.1).Nodup → dputAll kvs more = kvs ++ more
  | [], kvs, _, _ => by simp [dputAll]
  | (k, v) :: r, kvs, hk, nd => by
    have e : dput kvs k v = kvs ++ [(k, v)] := by
      refine dput_new (hk (k, v) (by simp)) (fun p hp => hk p (List.mem_append_left _ hp)) fun hm => ?_
      rw [List.map_append, List.nodup_append] at nd
      exact nd.2.2 _ hm _ (List.mem_map.mpr ⟨(k, v), List.mem_cons_self, rfl⟩) rfl
    rw [dputAll, e, dputAll_new r (kvs ++ [(k, v)]) (by rw [List.append_assoc]; exact hk) (by rw [List.append_assoc]; exact nd), List.append_assoc]
    rfl
section
variable {T : Wd} {g g1 g2 : Gh} {H H1 H2 : Hp} {d : Addr} {o : HO}
theorem RpX.isKeys : ∀ {xs : List (NestedKey × Addr × Value)} {kvs : List (PV × PV)}, RpX T g xs kvs → ∀ p ∈ kvs, isKey p.1 = true
  | _, _, .nil => fun p h => nomatch h
  | _, _, .cons hk _ _ _ t => fun p hp => by
    rcases List.mem_cons.mp hp with rfl | hp
    · exact hk
    · exact RpX.isKeys t p hp
theorem DicR.putAll_nil {od : Obj} {kvs : List (PV × PV)} (r : DicR T g d od kvs) : dputAll [] kvs = kvs := by
  obtain ⟨es, ep, _, rd⟩ := r.at_
  obtain ⟨xs, _, rx⟩ := rd.toX
  rw [dputAll_new kvs [] (by simpa using rx.isKeys) (by simpa using r.nd)]
  rfl
/-- an object of one's own stays so -/
theorem Pres.own (p : Pres g1 H1 g2 H2) (hF : g1.F d = none) (hc : g1.c ≠ some d) (hH : H1 d = some o) (nt : ∀ ps, o ≠ .tbl ps := by first | (intro ps z; cases z; done) | exact not_tbl) : g2.F d = none ∧ g2.c ≠ some d ∧ H2 d = some o := by
  have c2 : g2.c ≠ some d := fun z => by
    rcases p.newC d z with q | q
    · exact hc q
    · exact q.no hH nt
  refine ⟨?_, c2, p.keep d _ hH c2 nt⟩
  cases q : g2.F d with
  | none => rfl
  | some u =>
    rcases p.newF d u q with q | q
    · rw [hF] at q; cases q
    · exact (q.no hH nt).elim
end
section
variable {X : Cx} {W : WX} {pins : List (Addr × Obj)} {σ : L2.St} {H H1 H2 : Hp} {s : Shared} {g g1 : Gh} {c : List PV} {env : Env} {B : Addr → Prop}
/-- one dict put into another -/
theorem merge_step {d o : Addr} {od oo : Obj} {kvs more : List (PV × PV)} {E : Value → Shared → Prop} {Q : Unit → Shared → Prop} (hu : X.A.units + 70 < cLine) (I : Inv X pins σ H s) (hr : HR (wd X) g c H) (ed : H d = some (objO d od)) (dd : DicR (wd X) g d od kvs)
    (eo : H o = some (objO o oo)) (dm : DicR (wd X) g o oo more) (hdo : d ≠ o) (hap : kvs ≠ [] ∨ apart more = true) (hl : kvs.length + more.length ≤ LIM)
    (h : ∀ od' s', Inv X pins σ (upd H d (objO d od')) s' → DicR (wd X) g d od' (dputAll kvs more) → Q () s') :
    wpAny (model X.prog X.w) X.A (mergeMapping d (.ref o) false) Q E s := by
  obtain ⟨xs, rx, hx, nx⟩ := dd.x I hr ed
  obtain ⟨ys, ry, hy, ny⟩ := dm.x I hr eo
  have hroom : (nestedKind X.prog X.w).room X.A := by
    show X.A.units + 8 < cLine
    omega
  refine wpAny_mergeMapping_heap (knd := nestedKind X.prog X.w) hroom hdo dm.sm hx hy (fun x hm => (ry.is I hr x hm).2) ?_ (fun h' hd' ho' hs => ?_) (by rw [lim_eq, rx.len, ry.len]; exact hl)
  · rcases hap with z | z
    · refine .inl fun e => z ?_
      have := rx.len
      rw [e] at this
      exact List.length_eq_zero_iff.mp this.symm
    · have := apart_nd (prog := X.prog) (w := X.w) z
      rw [← ry.keys, List.map_map] at this
      exact .inr this
  · obtain ⟨od', ho, dr⟩ := DicR.ofX (X := X) dd.sm hd' (ry.putAll rx nx) (Nat.le_trans (dputAll_len more kvs) hl)
    exact h od' _ (d_write (t' := s.toks) I (by rw [ed]; exact True.intro) hs ⟨_, ho⟩ (objO_new ho)) dr
/-- a step of a display -/
theorem stage {a : Expr} {ea : Ev} {rest : PV → List PV → R PV} {K : PV → Gh → List PV → Hp → Prop} {Q : Value → Shared → Prop} (ha : XE' X W a ea) (I : Inv X pins σ H1 s) (er : EnvR (wd X) g1 H1 B env σ) (hr : HR (wd X) g1 c H1) (p : Pres g H g1 H1)
    (gd : GoodR (wd X) X.mg W g H σ K ((ea env c).bind rest))
    (k : ∀ x c2 g2 H2 v m s2, ea env c = .ok x c2 → Pres g1 H1 g2 H2 → HR (wd X) g2 c2 H2 → Rp (wd X) g2 v x → RelV v m → Inv X pins σ H2 s2 → GoodR (wd X) X.mg W g H σ K (rest x c2) → Q m s2) :
    wpAny (model X.prog X.w) X.A (eval a X.env) Q X.xe s := by
  refine thn (ha.run pins s σ H1 (fun v H2 => ∃ x c2 g2, ea env c = .ok x c2 ∧ Pres g1 H1 g2 H2 ∧ HR (wd X) g2 c2 H2 ∧ Rp (wd X) g2 v x) I ⟨g1, env, c, B, er, hr, ?_⟩) fun m s2 ⟨v, H2, I2, rv, x, c2, g2, hx, p2, h2, r2⟩ => ?_
  · cases hx : ea env c with
    | ok x c2 => exact fun g2 H2 p2 h2 v rv => ⟨x, c2, g2, rfl, p2, h2, rv⟩
    | exc cl arg c2 => rw [hx] at gd; exact GoodR.pres (x := (R.exc cl arg c2 : R PV)) gd p
    | stuck => rw [hx] at gd; exact gd.elim
  · rw [hx] at gd
    exact k x c2 g2 H2 v m s2 hx p2 h2 r2 rv I2 gd
end
section
variable {X : Cx} {W : WX} {a b k v : Expr} {ea eb ek ev : Ev} {pos : Pos}
theorem bChk {x : PV} {z : PV} (h : bltop .dchk [x] = some z) : (∃ kvs, x = .dic kvs ∧ apart kvs = true ∧ z = .dic kvs) ∨ ∃ ks ps, x = .dki ks ps := by
  cases x with
  | dic kvs =>
    simp only [bltop] at h
    split at h <;> cases h
    exact .inl ⟨_, rfl, by assumption, rfl⟩
  | dki ks ps => exact .inr ⟨_, _, rfl⟩
  | _ => simp [bltop] at h
theorem bCat {x : List (PV × PV)} {y z : PV} (h : bltop .dcat [.dic x, y] = some z) : ∃ kvs, y = .dic kvs ∧ (x ≠ [] ∨ apart kvs = true) ∧ x.length + kvs.length ≤ LIM ∧ z = .dic (dputAll x kvs) := by
  cases y with
  | dic kvs =>
    simp only [bltop] at h
    split at h <;> cases h
    rename_i hc
    rw [Bool.and_eq_true, Bool.or_eq_true, decide_eq_true_eq] at hc
    refine ⟨kvs, rfl, hc.1.imp (fun z e => ?_) id, hc.2, rfl⟩
    subst e; cases z
  | _ => simp [bltop] at h
theorem bAdd {x : List (PV × PV)} {y u z : PV} (h : bltop .dadd [.dic x, y, u] = some z) : isKey y = true ∧ x.length + 1 ≤ LIM ∧ z = .dic (dput x y u) := by
  simp only [bltop] at h
  split at h <;> cases h
  rename_i hc
  rw [Bool.and_eq_true, decide_eq_true_eq] at hc
  exact ⟨hc.1, hc.2, rfl⟩
def dict0 : Obj := { cls := .type "dict", data := .dict #[] }
theorem dict0_new {h : Heap} : (h.push dict0).get? h.objs.size = some dict0 := Heap.get?_push_size _ rfl
theorem dicR0 {T : Wd} {g : Gh} {d : Addr} (h : sysModules < d) : DicR T g d dict0 [] := ⟨beq_eq_false_iff_ne.mpr (Nat.ne_of_gt h), ⟨rfl, rfl, rfl⟩, ⟨#[], 0, rfl, .nil⟩, List.nodup_nil, Nat.zero_le _⟩
theorem x_dnew : XO X W (.Dict [] [] pos) (fun _ c => pureR (bltop .dnew []) c) := ⟨fun pins s σ H Q I q => by
  obtain ⟨g, env, c, B, er, hr, gd⟩ := q
  have hn := I.hok.fresh (Nat.le_refl s.heap.objs.size)
  obtain ⟨pr, hr1⟩ := hr.fresh (o := objO s.heap.objs.size dict0) hn
  obtain ⟨na, nc⟩ := hr.ne hn
  exact wpAny_Dict_empty ⟨.ref s.heap.objs.size, _, I.laid (a := s.heap.objs.size) (o := objO s.heap.objs.size dict0) (t' := s.toks) (fun _ _ q => Heap.get?_push_of_some _ q) (Nat.le_refl _) (objO_new dict0_new), rfl, gd g _ pr hr1 _ (.of hn) na nc ⟨nc, dict0, upd_same, dicR0 I.big⟩⟩⟩
theorem x_dnewI : XO X W (.Dict [] [] pos) (fun _ c => pureR (bltop .dnewI []) c) := ⟨fun pins s σ H Q I q => by
  obtain ⟨g, env, c, B, er, hr, gd⟩ := q
  have hn := I.hok.fresh (Nat.le_refl s.heap.objs.size)
  obtain ⟨pr, hr1⟩ := hr.fresh (o := .dK []) hn
  obtain ⟨na, nc⟩ := hr.ne hn
  exact wpAny_Dict_empty ⟨.ref s.heap.objs.size, _, I.laid (a := s.heap.objs.size) (o := .dK []) (t' := s.toks) (fun _ _ q => Heap.get?_push_of_some _ q) (Nat.le_refl _) (dk_empty s.heap I.big), rfl, gd g _ pr hr1 _ (.of hn) na nc ⟨nc, [], upd_same, rfl, .nil⟩⟩⟩
/-! ### dicts by whole numbers -/
theorem bCatI {ks : List Int} {ps : List PV} {y z : PV} (h : bltop .dcat [.dki ks ps, y] = some z) : ∃ b vb, y = .dki b vb ∧ ks.length + b.length ≤ LIM ∧ z = .dki (putIs ks ps b vb).1 (putIs ks ps b vb).2 := by
  cases y with
  | dki b vb =>
    simp only [bltop] at h
    split at h <;> cases h
    rename_i hc
    exact ⟨_, _, rfl, of_decide_eq_true hc, rfl⟩
  | _ => simp [bltop] at h
theorem bAddI {ks : List Int} {ps : List PV} {y u z : PV} (h : bltop .dadd [.dki ks ps, y, u] = some z) : ∃ n, y = .int n ∧ ks.length + 1 ≤ LIM ∧ z = .dki (putI ks ps n u).1 (putI ks ps n u).2 := by
  cases y with
  | int n =>
    simp only [bltop] at h
    split at h <;> cases h
    rename_i hc
    exact ⟨_, rfl, of_decide_eq_true hc, rfl⟩
  | _ => simp [bltop] at h
/-- the keys and values of a dict by whole numbers -/
def RK (T : Wd) (g : Gh) (kvs : List (Key × V)) (ks : List Int) (ps : List PV) : Prop := kvs.map (·.1) = ks.map Sum.inl ∧ RpL T g (kvs.map (·.2)) ps
theorem RK.any {T : Wd} {g : Gh} {kvs : List (Key × V)} {ks : List Int} {ps : List PV} (r : RK T g kvs ks ps) (n : Int) : (kvs.any fun kv => decide (kv.1 = Sum.inl n)) = decide (n ∈ ks) := by
  rw [Bool.eq_iff_iff, List.any_eq_true, decide_eq_true_eq]
  constructor
  · rintro ⟨p, hp, e⟩
    have hm : p.1 ∈ kvs.map (·.1) := List.mem_map.mpr ⟨p, hp, rfl⟩
    rw [r.1, of_decide_eq_true e] at hm
    obtain ⟨n', hn', e'⟩ := List.mem_map.mp hm
    cases e'
    exact hn'
  · intro h
    have hm : (Sum.inl n : Key) ∈ kvs.map (·.1) := by rw [r.1]; exact List.mem_map.mpr ⟨n, h, rfl⟩
    obtain ⟨p, hp, e⟩ := List.mem_map.mp hm
    exact ⟨p, hp, decide_eq_true e⟩
theorem RK.len {T : Wd} {g : Gh} {kvs : List (Key × V)} {ks : List Int} {ps : List PV} (r : RK T g kvs ks ps) : kvs.length = ks.length := by
  have e1 := congrArg List.length r.1
  rwa [List.length_map, List.length_map] at e1
theorem RK.repl {T : Wd} {g : Gh} {n : Int} {v : V} {p : PV} (rv : Rp T g v p) : ∀ {kvs : List (Key × V)} {ks : List Int} {ps : List PV}, kvs.map (·.1) = ks.map Sum.inl → RpL T g (kvs.map (·.2)) ps →
    RK T g (kvs.map fun kv => if kv.1 = Sum.inl n then (kv.1, v) else kv) ks (List.zipWith (fun k v0 => if k = n then p else v0) ks ps)
  | [], [], ps, _, r => by cases r; exact ⟨rfl, .nil⟩
  | [], _ :: _, _, h, _ => by simp at h
  | _ :: _, [], _, h, _ => by simp at h
  | (k0, v0) :: kvs, k :: ks, ps, h, r => by
    rw [List.map_cons, List.map_cons, List.cons.injEq] at h
    obtain ⟨h1, h2⟩ := h
    simp only at h1
    subst h1
    rw [List.map_cons] at r
    cases r with
    | @cons _ p0 _ ps' rp t =>
      obtain ⟨a1, a2⟩ := RK.repl rv (n := n) h2 t
      by_cases hk : k = n
      · subst hk
        refine ⟨?_, ?_⟩
        · rw [List.map_cons, List.map_cons, List.map_cons, a1, if_pos rfl]
        · rw [List.map_cons, List.map_cons, List.zipWith_cons_cons, if_pos rfl, if_pos rfl]
          exact .cons rv a2
      · have hk' : ¬ (Sum.inl k : Key) = Sum.inl n := fun z => hk (Sum.inl.inj z)
        refine ⟨?_, ?_⟩
        · rw [List.map_cons, List.map_cons, List.map_cons, a1, if_neg hk']
        · rw [List.map_cons, List.map_cons, List.zipWith_cons_cons, if_neg hk', if_neg hk]
          exact .cons rp a2
theorem RK.put {T : Wd} {g : Gh} {kvs : List (Key × V)} {ks : List Int} {ps : List PV} {n : Int} {v : V} {p : PV} (r : RK T g kvs ks ps) (rv : Rp T g v p) : RK T g (putK kvs (.inl n) v) (putI ks ps n p).1 (putI ks ps n p).2 := by
  unfold putK putI
  rw [r.any n]
  by_cases h : n ∈ ks
  · rw [if_pos (decide_eq_true h), if_pos h]
    exact RK.repl rv r.1 r.2
  · rw [if_neg (fun z => h (of_decide_eq_true z)), if_neg h]
    refine ⟨by rw [List.map_append, List.map_append, r.1]; rfl, ?_⟩
    rw [List.map_append]
    exact r.2.append (.cons rv .nil)
theorem RK.putAll {T : Wd} {g : Gh} : ∀ {more : List (Key × V)} {b : List Int} {vb : List PV} {kvs : List (Key × V)} {ks : List Int} {ps : List PV}, more.map (·.1) = b.map Sum.inl → RpL T g (more.map (·.2)) vb → RK T g kvs ks ps →
    RK T g (mergeK kvs more) (putIs ks ps b vb).1 (putIs ks ps b vb).2
  | [], [], vb, kvs, ks, ps, _, r, q => by cases r; exact q
  | [], _ :: _, _, _, _, _, h, _, _ => by simp at h
  | _ :: _, [], _, _, _, _, h, _, _ => by simp at h
  | (k0, v0) :: more, k :: b, vb, kvs, ks, ps, h, r, q => by
    rw [List.map_cons, List.map_cons, List.cons.injEq] at h
    obtain ⟨h1, h2⟩ := h
    simp only at h1
    subst h1
    rw [List.map_cons] at r
    cases r with
    | @cons _ p0 _ ps' rp t =>
      have := RK.putAll h2 t (q.put (n := k) rp)
      rw [putIs]
      exact this
theorem RK.ext {T : Wd} {g g' : Gh} (x : Ext g g') {kvs : List (Key × V)} {ks : List Int} {ps : List PV} (r : RK T g kvs ks ps) : RK T g' kvs ks ps := ⟨r.1, RpL.ext x r.2⟩
theorem mergeK_dist : ∀ (more kvs : List (Key × V)), ((kvs ++ more).map (·.1)).Nodup → mergeK kvs more = kvs ++ more
  | [], kvs, _ => by unfold mergeK; simp
  | (k, v) :: r, kvs, nd => by
    have hv : valV kvs k = none := by
      unfold valV
      rw [List.find?_eq_none.mpr fun p hp => ?_]
      · rfl
      · have h2 := nd
        rw [List.map_append, List.nodup_append] at h2
        intro e
        exact h2.2.2 p.1 (List.mem_map.mpr ⟨p, hp, rfl⟩) k (List.mem_map.mpr ⟨(k, v), List.mem_cons_self, rfl⟩) (of_decide_eq_true e)
    have := mergeK_dist r (kvs ++ [(k, v)]) (by rw [List.append_assoc]; exact nd)
    unfold mergeK at this ⊢
    rw [List.foldl_cons, putK_new v hv, this, List.append_assoc]; rfl
theorem Rp.dkiD {T : Wd} {g : Gh} {v : V} {ks : List Int} {ps : List PV} (r : Rp T g v (.dki ks ps)) : ∃ (a : Addr) (kvs : List (Key × V)), v = .ref a ∧ g.F a = some (.dK kvs) ∧ RK T g kvs ks ps := by
  cases r with
  | dki e k r => exact ⟨_, _, rfl, e, k, r⟩
/-- {**a, **b} -/
theorem x_dcat (hu : X.A.units + 70 < cLine) (ha : XE' X W a ea) (hb : XE' X W b eb) :
    XO X W (.Dict [none, none] [a, b] pos) (fun env c => (ea env c).bind fun x c => (pureR (bltop .dchk [x]) c).bind fun x c => (eb env c).bind fun y c => pureR (bltop .dcat [x, y]) c) := by
  refine ⟨fun pins s σ H Q I q => ?_⟩
  obtain ⟨g, env, c, B, er, hr, gd⟩ := q
  rw [arm_eval_Dict]
  refine wpAny_bind (wpAny_standAt ?_)
  show wpAny _ _ (dictDisplay [(none, do let x ← eval a X.env; standAt pos; pure x), (none, do let x ← eval b X.env; standAt pos; pure x)]) _ _ s
  rw [display_cat]
  refine wpAny_bind (wpAny_alloc ?_)
  have hn := I.hok.fresh (Nat.le_refl s.heap.objs.size)
  by_cases hk0 : ∃ ks ps c2, ea env c = .ok (.dki ks ps) c2
  · obtain ⟨ks0, ps0, c0, hx0⟩ := hk0
    have I1 := I.laid (a := s.heap.objs.size) (o := .dK []) (h' := s.heap.push dict0) (t' := s.toks) (fun _ _ q => Heap.get?_push_of_some _ q) (Nat.le_refl _) (dk_empty s.heap I.big)
    generalize s.heap.objs.size = d at hn I1 ⊢
    obtain ⟨na, nc⟩ := hr.ne hn
    obtain ⟨pr, hr1⟩ := hr.fresh (o := .dK []) hn
    simp only at gd
    refine wpAny_bind (mstep_run (wpAny_bind (stage ha I1 (er.pres pr) hr1 pr gd fun x c2 g2 H2 v m s2 hx p2 h2 r2 rv I2 gd => ?_)))
    refine wpAny_bind (wpAny_standAt (wpAny_pure fun E' => ?_))
    rw [hx0] at hx
    cases hx
    have ez : bltop .dchk [.dki ks0 ps0] = some (.dki ks0 ps0) := rfl
    rw [ez] at gd
    obtain ⟨o, more, rfl, eF, rk⟩ := r2.dkiD
    cases rv
    obtain ⟨f2, n2, e2⟩ := p2.own na nc upd_same
    have hdo : d ≠ o := fun z => by rw [← z, f2] at eF; cases eF
    have zl := (dk_of I2.hok (h2.sub _ _ eF)).1
    refine merge_k I2 e2 (h2.sub _ _ eF) hdo (by simpa using zl) fun s3 I3 => ?_
    rw [mergeK_dist more [] (by simpa using dk_nodup I2 (h2.sub _ _ eF)), List.nil_append] at I3
    have p3 : Pres g H g2 (upd H2 d (.dK more)) := (pr.trans p2).write (.of hn) e2
    have h3 := h2.write (o' := .dK more) f2 n2 (.dK e2)
    refine wpAny_bind (mstep_run (wpAny_bind (stage hb I3 (er.pres p3) h3 p3 gd fun y c4 g4 H4 v m s4 hy p4 h4 r4 rv I4 gd => ?_)))
    refine wpAny_bind (wpAny_standAt (wpAny_pure fun E' => ?_))
    obtain ⟨z, ez, kz⟩ := GoodR.pure gd
    obtain ⟨b, vb, rfl, hl, rfl⟩ := bCatI ez
    obtain ⟨o2, more2, rfl, eF2, rk2⟩ := r4.dkiD
    cases rv
    obtain ⟨f4, n4, e4⟩ := p4.own f2 n2 upd_same
    have hdo2 : d ≠ o2 := fun z => by rw [← z, f4] at eF2; cases eF2
    refine merge_k I4 e4 (h4.sub _ _ eF2) hdo2 (by rw [lim_eq, rk.len, rk2.len]; exact hl) fun s5 I5 => wpAny_pure ?_
    have p5 : Pres g H g4 (upd H4 d (.dK (mergeK more more2))) := (p3.trans p4).write (.of hn) e4
    have rr := RK.putAll rk2.1 rk2.2 (rk.ext p4.ext)
    exact ⟨.ref d, _, I5, rfl, kz g4 _ p5 (h4.write f4 n4 (.dK e4)) d (.of hn) f4 n4 ⟨n4, _, upd_same, rr.1, rr.2⟩⟩
  have I1 := I.laid (a := s.heap.objs.size) (o := objO s.heap.objs.size dict0) (h' := s.heap.push dict0) (t' := s.toks) (fun _ _ q => Heap.get?_push_of_some _ q) (Nat.le_refl _) (objO_new dict0_new)
  have hbig := I.big
  generalize s.heap.objs.size = d at hn I1 hbig ⊢
  obtain ⟨na, nc⟩ := hr.ne hn
  obtain ⟨pr, hr1⟩ := hr.fresh (o := objO d dict0) hn
  simp only at gd
  refine wpAny_bind (mstep_run (wpAny_bind (stage ha I1 (er.pres pr) hr1 pr gd fun x c2 g2 H2 v m s2 hx p2 h2 r2 rv I2 gd => ?_)))
  refine wpAny_bind (wpAny_standAt (wpAny_pure fun E' => ?_))
  obtain ⟨z, ez, kz⟩ := GoodR.pure (GoodR.bind gd)
  rw [ez] at gd
  rcases bChk ez with ⟨kvs, rfl, hap, rfl⟩ | ⟨ks, ps, rfl⟩
  rotate_left
  · exact absurd ⟨ks, ps, c2, hx⟩ hk0
  obtain ⟨o, oo, rfl, eF, dm⟩ := r2.dicD
  cases rv
  obtain ⟨f2, n2, e2⟩ := p2.own na nc upd_same
  have hdo : d ≠ o := fun z => by rw [← z, f2] at eF; cases eF
  refine merge_step hu I2 h2 e2 (dicR0 hbig) (h2.sub _ _ eF) dm hdo (.inr hap) (by simpa using dm.len) fun od s3 I3 dr => ?_
  rw [dm.putAll_nil] at dr
  have p3 : Pres g H g2 (upd H2 d (objO d od)) := (pr.trans p2).write (.of hn) e2
  have h3 := h2.write (o' := objO d od) f2 n2 (.dic e2 rfl)
  refine wpAny_bind (mstep_run (wpAny_bind (stage hb I3 (er.pres p3) h3 p3 gd fun y c4 g4 H4 v m s4 hy p4 h4 r4 rv I4 gd => ?_)))
  refine wpAny_bind (wpAny_standAt (wpAny_pure fun E' => ?_))
  obtain ⟨z, ez, kz⟩ := GoodR.pure gd
  obtain ⟨more, rfl, hap2, hl, rfl⟩ := bCat ez
  obtain ⟨o2, oo2, rfl, eF2, dm2⟩ := r4.dicD
  cases rv
  obtain ⟨f4, n4, e4⟩ := p4.own f2 n2 upd_same
  have hdo2 : d ≠ o2 := fun z => by rw [← z, f4] at eF2; cases eF2
  have dr4 : DicR (wd X) g4 d od kvs := dr.ext p4.ext
  refine merge_step hu I4 h4 e4 dr4 (h4.sub _ _ eF2) dm2 hdo2 hap2 hl fun od2 s5 I5 dr5 => wpAny_pure ?_
  have p5 : Pres g H g4 (upd H4 d (objO d od2)) := (p3.trans p4).write (.of hn) e4
  exact ⟨.ref d, _, I5, rfl, kz g4 _ p5 (h4.write f4 n4 (.dicR e4 dr4)) d (.of hn) f4 n4 ⟨n4, od2, upd_same, dr5⟩⟩
theorem sub_stage {W : WX} {k v : Expr} {ek ev : Ev} {pos : Pos} {rest : PV → PV → List PV → R PV} {K : PV → Gh → List PV → Hp → Prop} {pins : List (Addr × Obj)} {σ : L2.St} {H H3 : Hp} {s : Shared} {g g3 : Gh} {c : List PV} {env : Env} {B : Addr → Prop} {Q : Addr → Shared → Prop}
    (hu : X.A.units + 70 < cLine) (hk : XE' X W k ek) (hv : XE' X W v ev) (I : Inv X pins σ H3 s) (er : EnvR (wd X) g3 H3 B env σ) (hr : HR (wd X) g3 c H3) (p : Pres g H g3 H3)
    (gd : GoodR (wd X) X.mg W g H σ K ((ek env c).bind fun y c => (ev env c).bind fun u c => rest y u c))
    (hkey : ∀ y u c', GoodR (wd X) X.mg W g H σ K (rest y u c') → isKey y = true)
    (kk : ∀ y u c6 g6 H7 sub os s7, Pres g3 H3 g6 H7 → HR (wd X) g6 c6 H7 → Inv X pins σ H7 s7 → H3 sub = none → g6.F sub = none → g6.c ≠ some sub → H7 sub = some (objO sub os) → DicR (wd X) g6 sub os [(y, u)] → GoodR (wd X) X.mg W g H σ K (rest y u c6) → Q sub s7) :
    wpAny (model X.prog X.w) X.A (subDict [(eval k X.env, do let x ← eval v X.env; standAt pos; pure x)]) Q X.xe s := by
  have hroom : (nestedKind X.prog X.w).room X.A := by
    show X.A.units + 8 < cLine
    omega
  refine wpAny_subDictH (knd := nestedKind X.prog X.w) hroom (show 1 ≤ 15 by decide) ?_
  have hn := I.hok.fresh (Nat.le_refl s.heap.objs.size)
  have I1 := I.laid (a := s.heap.objs.size) (o := objO s.heap.objs.size dict0) (h' := s.heap.push dict0) (t' := s.toks) (fun _ _ q => Heap.get?_push_of_some _ q) (Nat.le_refl _) (objO_new dict0_new)
  have hbig := I.big
  generalize s.heap.objs.size = d at hn I1 hbig ⊢
  obtain ⟨na, nc⟩ := hr.ne hn
  obtain ⟨pr, hr1⟩ := hr.fresh (o := objO d dict0) hn
  unfold evalPairs
  refine wpAny_bind (stage hk I1 (er.pres pr) hr1 (p.trans pr) gd fun y c5 g5 H5 vk mk s5 hy p5 h5 r5 rvk I5 gd => ?_)
  refine wpAny_bind (wpAny_holding (wpAny_bind (stage hv I5 (er.pres (pr.trans p5)) h5 ((p.trans pr).trans p5) gd fun u c6 g6 H6 vv mv s6 hy6 p6 h6 r6 rvv I6 gd => wpAny_bind (wpAny_standAt (wpAny_pure ?_)))))
  refine wpAny_bind (wpAny_holding (wpAny_pure (wpAny_pure ?_)))
  have rk := r5.ext p6.ext
  have hkk := hkey y u c6 gd
  obtain ⟨ka, rfl, rfl, hi⟩ := rk.key I6 h6 hkk rvk
  obtain ⟨f5, n5, e5⟩ := p5.own na nc upd_same
  obtain ⟨f6, n6, e6⟩ := p6.own f5 n5 e5
  have d0 : DicR (wd X) g6 d dict0 [] := dicR0 hbig
  obtain ⟨xs0, rx0, hx0, _⟩ := d0.x I6 h6 e6
  cases rx0
  refine ⟨[(nk y, ka, mv)], ⟨rfl, rfl, hi, trivial⟩, hx0, fun h' tk hd' hs => ?_⟩
  have rx : RpX (wd X) g6 (storedAllH [] [(nk y, ka, mv)]) [(y, u)] := RpX.cons hkk rk rvv r6 .nil
  obtain ⟨os, ho, drs⟩ := DicR.ofX (X := X) d0.sm hd' rx (show 1 ≤ LIM by decide)
  have I7 := d_write (t' := tk) I6 (by rw [e6]; exact True.intro) hs ⟨_, ho⟩ (objO_new (P := X.prog) (w := X.w) (H := upd H6 d (objO d os)) ho)
  exact kk y u c6 g6 _ d os _ (((pr.trans p5).trans p6).write (.of hn) e6) (h6.write f6 n6 (.dic e6 rfl)) I7 hn f6 n6 upd_same drs gd
theorem sub_stageK {W : WX} {k v : Expr} {ek ev : Ev} {pos : Pos} {rest : PV → PV → List PV → R PV} {K : PV → Gh → List PV → Hp → Prop} {pins : List (Addr × Obj)} {σ : L2.St} {H H3 : Hp} {s : Shared} {g g3 : Gh} {c : List PV} {env : Env} {B : Addr → Prop} {Q : Addr → Shared → Prop}
    (hk : XE' X W k ek) (hv : XE' X W v ev) (I : Inv X pins σ H3 s) (er : EnvR (wd X) g3 H3 B env σ) (hr : HR (wd X) g3 c H3) (p : Pres g H g3 H3)
    (gd : GoodR (wd X) X.mg W g H σ K ((ek env c).bind fun y c => (ev env c).bind fun u c => rest y u c))
    (hkey : ∀ y u c', GoodR (wd X) X.mg W g H σ K (rest y u c') → ∃ n, y = .int n)
    (kk : ∀ n u vv c6 g6 H7 sub s7, Pres g3 H3 g6 H7 → HR (wd X) g6 c6 H7 → Inv X pins σ H7 s7 → H3 sub = none → g6.F sub = none → g6.c ≠ some sub → H7 sub = some (.dK [(.inl n, vv)]) → Rp (wd X) g6 vv u → GoodR (wd X) X.mg W g H σ K (rest (.int n) u c6) → Q sub s7) :
    wpAny (model X.prog X.w) X.A (subDict [(eval k X.env, do let x ← eval v X.env; standAt pos; pure x)]) Q X.xe s := by
  refine wpAny_subDict (knd := mixKind X.prog X.w) (show 1 ≤ 15 by decide) ?_
  have hn := I.hok.fresh (Nat.le_refl s.heap.objs.size)
  have I1 := I.laid (a := s.heap.objs.size) (o := .dK []) (h' := s.heap.push { cls := .type "dict", data := .dict #[] }) (t' := s.toks) (fun _ _ q => Heap.get?_push_of_some _ q) (Nat.le_refl _) (dk_empty s.heap I.big)
  generalize s.heap.objs.size = d at hn I1 ⊢
  obtain ⟨na, nc⟩ := hr.ne hn
  obtain ⟨pr, hr1⟩ := hr.fresh (o := .dK []) hn
  unfold evalPairs
  refine wpAny_bind (stage hk I1 (er.pres pr) hr1 (p.trans pr) gd fun y c5 g5 H5 vk mk s5 hy p5 h5 r5 rvk I5 gd => ?_)
  refine wpAny_bind (wpAny_holding (wpAny_bind (stage hv I5 (er.pres (pr.trans p5)) h5 ((p.trans pr).trans p5) gd fun u c6 g6 H6 vv mv s6 hy6 p6 h6 r6 rvv I6 gd => wpAny_bind (wpAny_standAt (wpAny_pure ?_)))))
  refine wpAny_bind (wpAny_holding (wpAny_pure (wpAny_pure ?_)))
  obtain ⟨n, rfl⟩ := hkey y u c6 gd
  cases r5
  obtain ⟨f5, n5, e5⟩ := p5.own na nc upd_same
  obtain ⟨f6, n6, e6⟩ := p6.own f5 n5 e5
  obtain ⟨z, hd, vs0, r0, dd⟩ := dk_of I6.hok e6
  cases r0
  refine ⟨[(.inl n, mv)], ⟨kV_is (k := .inl n) rvk, rfl, trivial⟩, dd, fun h' hd' hs => ?_⟩
  have rel : KV [((.inl n : Key), vv)] [((.inl n : Key), mv)] := .cons ⟨rfl, rvv⟩ .nil
  have he : ∃ q, h'.get? d = some q := let ⟨q, _, _, hq, _⟩ := hd'; ⟨q, hq⟩
  have I7 := d_write (t' := s6.toks + [(mk, mv)].length) I6 (by rw [e6]; exact True.intro) hs he (dk_new (kvs := [((.inl n : Key), vv)]) (by rw [sizeLine_eq, List.length_singleton]; decide) hd (KV.merge rel .nil) hd')
  exact kk n u vv c6 g6 _ d _ (((pr.trans p5).trans p6).write (.of hn) e6) (h6.write f6 n6 (.dK e6)) I7 hn f6 n6 upd_same r6 gd
theorem display_one (k v : Sem Value) : dictDisplay [(some k, v)] = (do
    let d ← subDict [(k, v)]
    pure (.ref d)) := dictDisplay_pairs [(k, v)] (by simp) (by simp)
theorem bOne {y u z : PV} (h : bltop .done [y, u] = some z) : isKey y = true ∧ z = .dic [(y, u)] := by
  simp only [bltop] at h
  split at h <;> cases h
  exact ⟨by assumption, rfl⟩
/-- {k: v} -/
theorem x_done (hu : X.A.units + 70 < cLine) (hk : XE' X W k ek) (hv : XE' X W v ev) :
    XO X W (.Dict [some k] [v] pos) (fun env c => (ek env c).bind fun y c => (ev env c).bind fun u c => pureR (bltop .done [y, u]) c) := by
  refine ⟨fun pins s σ H Q I q => ?_⟩
  obtain ⟨g, env, c, B, er, hr, gd⟩ := q
  rw [arm_eval_Dict]
  refine wpAny_bind (wpAny_standAt ?_)
  show wpAny _ _ (dictDisplay [(some (eval k X.env), do let x ← eval v X.env; standAt pos; pure x)]) _ _ s
  rw [display_one]
  refine wpAny_bind (sub_stage hu hk hv I er hr Pres.refl gd (fun y u c' gd => ?_) fun y u c6 g6 H7 sub os s7 p7 h7 I7 hn f6 n6 e7 drs gd => ?_)
  · obtain ⟨z, ez, _⟩ := gd.pure
    exact (bOne ez).1
  · obtain ⟨z, ez, kz⟩ := gd.pure
    obtain ⟨_, rfl⟩ := bOne ez
    exact wpAny_pure ⟨.ref sub, _, I7, rfl, kz g6 _ p7 h7 sub (.of hn) f6 n6 ⟨n6, os, e7, drs⟩⟩
/-- {**a, k: v} -/
theorem x_dadd (hu : X.A.units + 70 < cLine) (ha : XE' X W a ea) (hk : XE' X W k ek) (hv : XE' X W v ev) :
    XO X W (.Dict [none, some k] [a, v] pos) (fun env c => (ea env c).bind fun x c => (pureR (bltop .dchk [x]) c).bind fun x c => (ek env c).bind fun y c => (ev env c).bind fun u c => pureR (bltop .dadd [x, y, u]) c) := by
  refine ⟨fun pins s σ H Q I q => ?_⟩
  obtain ⟨g, env, c, B, er, hr, gd⟩ := q
  rw [arm_eval_Dict]
  refine wpAny_bind (wpAny_standAt ?_)
  show wpAny _ _ (dictDisplay [(none, do let x ← eval a X.env; standAt pos; pure x), (some (eval k X.env), do let x ← eval v X.env; standAt pos; pure x)]) _ _ s
  rw [display_add]
  refine wpAny_bind (wpAny_alloc ?_)
  have hn := I.hok.fresh (Nat.le_refl s.heap.objs.size)
  by_cases hk0 : ∃ ks ps c2, ea env c = .ok (.dki ks ps) c2
  · obtain ⟨ks0, ps0, c0, hx0⟩ := hk0
    have I1 := I.laid (a := s.heap.objs.size) (o := .dK []) (h' := s.heap.push dict0) (t' := s.toks) (fun _ _ q => Heap.get?_push_of_some _ q) (Nat.le_refl _) (dk_empty s.heap I.big)
    generalize s.heap.objs.size = d at hn I1 ⊢
    obtain ⟨na, nc⟩ := hr.ne hn
    obtain ⟨pr, hr1⟩ := hr.fresh (o := .dK []) hn
    simp only at gd
    refine wpAny_bind (mstep_run (wpAny_bind (stage ha I1 (er.pres pr) hr1 pr gd fun x c2 g2 H2 v m s2 hx p2 h2 r2 rv I2 gd => ?_)))
    refine wpAny_bind (wpAny_standAt (wpAny_pure fun E' => ?_))
    rw [hx0] at hx
    cases hx
    have ez : bltop .dchk [.dki ks0 ps0] = some (.dki ks0 ps0) := rfl
    rw [ez] at gd
    obtain ⟨o, more, rfl, eF, rk⟩ := r2.dkiD
    cases rv
    obtain ⟨f2, n2, e2⟩ := p2.own na nc upd_same
    have hdo : d ≠ o := fun z => by rw [← z, f2] at eF; cases eF
    have zl := (dk_of I2.hok (h2.sub _ _ eF)).1
    refine merge_k I2 e2 (h2.sub _ _ eF) hdo (by simpa using zl) fun s3 I3 => ?_
    rw [mergeK_dist more [] (by simpa using dk_nodup I2 (h2.sub _ _ eF)), List.nil_append] at I3
    have p3 : Pres g H g2 (upd H2 d (.dK more)) := (pr.trans p2).write (.of hn) e2
    have h3 := h2.write (o' := .dK more) f2 n2 (.dK e2)
    refine wpAny_bind (pstep_run (sub_stageK hk hv I3 (er.pres p3) h3 p3 gd (fun y u c' gd => ?_) fun n u vv c6 g6 H7 sub s7 p7 h7 I7 hns f6 n6 e7 r6 gd => ?_))
    · obtain ⟨z, ez, _⟩ := gd.pure
      obtain ⟨n, e, _⟩ := bAddI ez
      exact ⟨n, e⟩
    · obtain ⟨z, ez, kz⟩ := gd.pure
      obtain ⟨_, e, hl, rfl⟩ := bAddI ez
      cases e
      obtain ⟨f4, n4, e4⟩ := p7.own f2 n2 upd_same
      have hds : d ≠ sub := fun z => by rw [← z, upd_same] at hns; cases hns
      intro E'
      refine merge_k I7 e4 e7 hds (by rw [lim_eq, rk.len]; exact hl) fun s5 I5 => wpAny_pure ?_
      have p5 : Pres g H g6 (upd H7 d (.dK (mergeK more [(.inl n, vv)]))) := (p3.trans p7).write (.of hn) e4
      have rr := (rk.ext p7.ext).put (n := n) r6
      exact ⟨.ref d, _, I5, rfl, kz g6 _ p5 (h7.write f4 n4 (.dK e4)) d (.of hn) f4 n4 ⟨n4, _, upd_same, rr.1, rr.2⟩⟩
  have I1 := I.laid (a := s.heap.objs.size) (o := objO s.heap.objs.size dict0) (h' := s.heap.push dict0) (t' := s.toks) (fun _ _ q => Heap.get?_push_of_some _ q) (Nat.le_refl _) (objO_new dict0_new)
  have hbig := I.big
  generalize s.heap.objs.size = d at hn I1 hbig ⊢
  obtain ⟨na, nc⟩ := hr.ne hn
  obtain ⟨pr, hr1⟩ := hr.fresh (o := objO d dict0) hn
  simp only at gd
  refine wpAny_bind (mstep_run (wpAny_bind (stage ha I1 (er.pres pr) hr1 pr gd fun x c2 g2 H2 v m s2 hx p2 h2 r2 rv I2 gd => ?_)))
  refine wpAny_bind (wpAny_standAt (wpAny_pure fun E' => ?_))
  obtain ⟨z, ez, kz⟩ := GoodR.pure (GoodR.bind gd)
  rw [ez] at gd
  rcases bChk ez with ⟨kvs, rfl, hap, rfl⟩ | ⟨ks, ps, rfl⟩
  rotate_left
  · exact absurd ⟨ks, ps, c2, hx⟩ hk0
  obtain ⟨o, oo, rfl, eF, dm⟩ := r2.dicD
  cases rv
  obtain ⟨f2, n2, e2⟩ := p2.own na nc upd_same
  have hdo : d ≠ o := fun z => by rw [← z, f2] at eF; cases eF
  refine merge_step hu I2 h2 e2 (dicR0 hbig) (h2.sub _ _ eF) dm hdo (.inr hap) (by simpa using dm.len) fun od s3 I3 dr => ?_
  rw [dm.putAll_nil] at dr
  have p3 : Pres g H g2 (upd H2 d (objO d od)) := (pr.trans p2).write (.of hn) e2
  have h3 := h2.write (o' := objO d od) f2 n2 (.dic e2 rfl)
  refine wpAny_bind (pstep_run (sub_stage hu hk hv I3 (er.pres p3) h3 p3 gd (fun y u c' gd => ?_) fun y u c6 g6 H7 sub os s7 p7 h7 I7 hns f6 n6 e7 drs gd => ?_))
  · obtain ⟨z, ez, _⟩ := gd.pure
    exact (bAdd ez).1
  · obtain ⟨z, ez, kz⟩ := gd.pure
    obtain ⟨_, hl, rfl⟩ := bAdd ez
    obtain ⟨f4, n4, e4⟩ := p7.own f2 n2 upd_same
    have hds : d ≠ sub := fun z => by rw [← z, upd_same] at hns; cases hns
    have dr4 : DicR (wd X) g6 d od kvs := dr.ext p7.ext
    intro E'
    refine merge_step hu I7 h7 e4 dr4 e7 drs hds (.inr rfl) (by simpa using hl) fun od2 s5 I5 dr5 => wpAny_pure ?_
    have p5 : Pres g H g6 (upd H7 d (objO d od2)) := (p3.trans p7).write (.of hn) e4
    exact ⟨.ref d, _, I5, rfl, kz g6 _ p5 (h7.write f4 n4 (.dicR e4 dr4)) d (.of hn) f4 n4 ⟨n4, od2, upd_same, dr5⟩⟩
end
end PP

set_option Elab.async false
set_option linter.all false
set_option maxRecDepth 100000
/-! PP12: statements. -/
namespace PP
open PySem PySem.Spec PyProof.Rows L2

def GoodS (T : Wd) (mg : MG) (W : WX) (g0 : Gh) (H0 : Hp) (g : Gh) (D : Ends) : SR → Prop
  | .nx env c => ∀ g' H' σ', EnvR T g' H' (fun a => Nt H0 a) env σ' → HR T g' c H' → Pres g0 H0 g' H' → Ext g g' → D.nx σ' H'
  | .rt v c => ∀ g' H' x, HR T g' c H' → Pres g0 H0 g' H' → Ext g g' → Rp T g' x v → D.rt x H'
  | .exc cl arg env c => ∀ g' H' σ', EnvR T g' H' (fun a => Nt H0 a) env σ' → HR T g' c H' → Pres g0 H0 g' H' → Ext g g' → ∀ cls d, ExcR T mg g' H' cl arg cls d → W cls d σ' H'
  | .stuck => False
theorem Ext.trans {g g1 g2 : Gh} (x : Ext g g1) (y : Ext g1 g2) : Ext g g2 := ⟨fun a o h => y.F a o (x.F a o h), fun a h => y.c a (x.c a h)⟩
section
variable {T : Wd} {mg : MG} {W : WX} {g0 g g1 : Gh} {H0 H H1 : Hp} {D : Ends} {σ : L2.St} {env : Env} {c : List PV}
theorem GoodS.ext {x : SR} (h : GoodS T mg W g0 H0 g D x) (e : Ext g g1) : GoodS T mg W g0 H0 g1 D x := by
  cases x with
  | nx env c => exact fun g' H' σ' a b c d => h g' H' σ' a b c (e.trans d)
  | rt v c => exact fun g' H' x a b d => h g' H' x a b (e.trans d)
  | exc cl arg env c => exact fun g' H' σ' a b c d => h g' H' σ' a b c (e.trans d)
  | stuck => exact h
theorem ev_st {α : Type} {x : R α} {f : α → List PV → SR} (er : EnvR T g H (fun a => Nt H0 a) env σ) (p0 : Pres g0 H0 g H) (h : GoodS T mg W g0 H0 g D (x.st env f)) :
    GoodR T mg W g H σ (fun a g1 c1 H1 => EnvR T g1 H1 (fun a => Nt H0 a) env σ ∧ HR T g1 c1 H1 ∧ Pres g0 H0 g1 H1 ∧ Pres g H g1 H1 ∧ GoodS T mg W g0 H0 g1 D (f a c1)) x := by
  cases x with
  | ok a c => exact fun g1 H1 p h1 => ⟨er.pres p, h1, p0.trans p, p, GoodS.ext h p.ext⟩
  | exc cl arg c => exact fun g1 H1 p h1 cls d k => h g1 H1 σ (er.pres p) h1 (p0.trans p) p.ext cls d k
  | stuck => exact h
end
abbrev EvS := Env → List PV → SR
def tS (T : Wd) (mg : MG) (W : WX) (ev : EvS) : TS := fun D σ H => ∃ g0 H0 g env c, EnvR T g H (fun a => Nt H0 a) env σ ∧ HR T g c H ∧ Pres g0 H0 g H ∧ GoodS T mg W g0 H0 g D (ev env c)
abbrev XS (X : Cx) (W : WX) (st : Stmt) (ev : EvS) : Prop := L2.PS X st (tS (wd X) X.mg W ev)
abbrev XSs (X : Cx) (W : WX) (st : List Stmt) (ev : EvS) : Prop := L2.PSs X st (tS (wd X) X.mg W ev)
section
variable {T : Wd} {mg : MG} {W : WX} {g g1 : Gh} {H H1 : Hp} {σ : L2.St} {env : Env} {B : Addr → Prop}
/-- a value just made, for a slot -/
def NewV (T : Wd) (H : Hp) (g1 : Gh) (H1 : Hp) : Slot → V → Prop
  | .no, _ => False
  | .val p, v => Rp T g1 v p
  | .own p, v => ∃ a, v = .ref a ∧ Nt H a ∧ g1.F a = none ∧ OwnR T g1 H1 a p
theorem NewV.pres {s : Slot} {v : V} {g2 : Gh} {H2 : Hp} (n : NewV T H g1 H1 s v) (x : Pres g1 H1 g2 H2) : NewV T H g2 H2 s v := by
  cases s with
  | no => exact n
  | val p => exact Rp.ext x.ext n
  | own p =>
    obtain ⟨a, rfl, na, nf, o⟩ := n
    obtain ⟨u, hu⟩ := o.there
    refine ⟨a, rfl, na, ?_, o.pres x⟩
    cases z : g2.F a with
    | none => rfl
    | some o =>
      rcases x.newF a o z with y | y
      · rw [nf] at y; cases y
      · exact (OwnR.thereN ‹OwnR T g1 H1 a p› y).elim
theorem EnvR.slot {B : Addr → Prop} (er : EnvR T g H B env σ) (pr : Pres g H g1 H1) (hB : ∀ a, Nt H a → B a) {i : Nat} {s : Slot} {v : V} (n : NewV T H g1 H1 s v) : EnvR T g1 H1 B (env.set i s) (σ.set i (some v)) := by
  have e1 := er.pres pr
  refine ⟨by simp [e1.len], fun j s' hs => ?_, fun j k p q a hj hk sj sk => ?_⟩
  · by_cases h : i = j
    · subst h
      obtain ⟨h1, h2⟩ := List.getElem?_eq_some_iff.mp hs
      have h1' : i < env.length := by simpa using h1
      rw [List.getElem?_set_self h1'] at hs
      cases hs
      rw [List.getElem?_set_self (by rw [e1.len]; exact h1')]
      cases s with
      | no => exact n.elim
      | val p => exact ⟨v, rfl, n⟩
      | own p =>
        obtain ⟨a, rfl, na, nf, o⟩ := n
        exact ⟨a, rfl, hB a na, nf, o⟩
    · rw [List.getElem?_set_ne h] at hs
      rw [List.getElem?_set_ne h]
      exact e1.at_ j s' hs
  · -- an old own slot's object was there before
    have old : ∀ (j : Nat) (p : PV) (b : Addr), env[j]? = some (.own p) → σ[j]? = some (some (.ref b)) → ∃ g0 : Gh, OwnR T g0 H b p := fun j p b hj sj => by
      obtain ⟨b', e', _, _, o⟩ := er.at_ j _ hj
      rw [sj] at e'; cases e'
      exact ⟨_, o⟩
    have new : i < env.length → ∀ p, s = .own p → σ.set i (some v) = σ.set i (some v) → ∃ a, v = .ref a ∧ Nt H a := fun _ p hp _ => by
      subst hp
      obtain ⟨a, rfl, na, _, _⟩ := n
      exact ⟨a, rfl, na⟩
    by_cases h : i = j
    · subst h
      obtain ⟨h1, _⟩ := List.getElem?_eq_some_iff.mp hj
      have h1' : i < env.length := by simpa using h1
      rw [List.getElem?_set_self h1'] at hj
      rw [List.getElem?_set_self (by rw [e1.len]; exact h1')] at sj
      cases hj
      obtain ⟨a', rfl, na⟩ := new h1' _ rfl rfl
      cases sj
      by_cases h' : i = k
      · exact h'
      · rw [List.getElem?_set_ne h'] at hk sk
        obtain ⟨g', ho⟩ := old k q a hk sk
        exact (ho.thereN na).elim
    · rw [List.getElem?_set_ne h] at hj sj
      by_cases h' : i = k
      · subst h'
        obtain ⟨h1, _⟩ := List.getElem?_eq_some_iff.mp hk
        have h1' : i < env.length := by simpa using h1
        rw [List.getElem?_set_self h1'] at hk
        rw [List.getElem?_set_self (by rw [e1.len]; exact h1')] at sk
        cases hk
        obtain ⟨a', rfl, na⟩ := new h1' _ rfl rfl
        cases sk
        obtain ⟨g', ho⟩ := old j p a hj sj
        exact (ho.thereN na).elim
      · rw [List.getElem?_set_ne h'] at hk sk
        exact e1.inj j k p q a hj hk sj sk
end
/-- an expression for a slot -/
def tSl (T : Wd) (mg : MG) (W : WX) (o : Bool) (ev : Ev) : TE := fun σ H Q => tR T mg W (fun env c => slotR o (ev env c)) (fun s g1 _ H1 => ∀ v, NewV T H g1 H1 s v → Q v H1) σ H
abbrev XSl (X : Cx) (W : WX) (o : Bool) (e : Expr) (ev : Ev) : Prop := L2.PE X e (tSl (wd X) X.mg W o ev)
section
variable {X : Cx} {W : WX} {e a b : Expr} {ev ea eb : Ev} {pos p p2 : Pos} {tg iter : Expr} {t : Tg}
theorem tSl_val {σ : L2.St} {H : Hp} {Q : VK} (h : tSl (wd X) X.mg W false ev σ H Q) : tE (wd X) X.mg W ev σ H Q := by
  obtain ⟨g, env, c, B, er, hr, gd⟩ := h
  refine ⟨g, env, c, B, er, hr, ?_⟩
  unfold slotR at gd
  exact gd.bind.mono fun p g1 c1 H1 _ h1 k v rv => k g1 H1 Pres.refl h1 v rv
theorem tSl_own {σ : L2.St} {H : Hp} {Q : VK} (h : tSl (wd X) X.mg W true ev σ H Q) : tO (wd X) X.mg W (ownG ev) σ H Q := by
  obtain ⟨g, env, c, B, er, hr, gd⟩ := h
  refine ⟨g, env, c, B, er, hr, ?_⟩
  have gd : GoodR (wd X) X.mg W g H σ (fun s g1 _ H1 => ∀ v, NewV (wd X) H g1 H1 s v → Q v H1) (slotR true (ev env c)) := gd
  unfold ownG
  unfold slotR at gd
  cases hx : ev env c with
  | ok p c1 =>
    rw [hx] at gd
    simp only [R.bind_ok, if_true] at gd ⊢
    cases hp : ownO (some p) with
    | none => rw [hp] at gd; exact gd.elim
    | some q =>
      rw [hp] at gd
      exact fun g1 H1 pr h1 a na nf nc o => gd g1 H1 pr h1 _ ⟨a, rfl, na, nf, o⟩
  | exc cl arg c1 => rw [hx] at gd; exact gd
  | stuck => rw [hx] at gd; exact gd
theorem xsl_val (h : XE' X W e ev) : XSl X W false e ev := pe_weak h fun σ H Q q => tSl_val q
theorem xsl_own (h : XO X W e (ownG ev)) : XSl X W true e ev := pe_weak h fun σ H Q q => tSl_own q
/-- name = e -/
theorem ps_weak {st : Stmt} {t t' : TS} (h : L2.PS X st t) (w : ∀ D σ H, t' D σ H → t D σ H) : L2.PS X st t' := ⟨fun pins s σ H D I q => h.run pins s σ H D I (w D σ H q)⟩
theorem pss_weak {st : List Stmt} {t t' : TS} (h : L2.PSs X st t) (w : ∀ D σ H, t' D σ H → t D σ H) : L2.PSs X st t' := ⟨fun pins s σ H D I q => h.run pins s σ H D I (w D σ H q)⟩
theorem xs_set {st : Stmt} {i : Nat} {o : Bool} {te : TE} (h : L2.PS X st (tAsg te (gName i))) (hw : ∀ σ H Q, tSl (wd X) X.mg W o ev σ H Q → te σ H Q) : XS X W st (fun env c => (slotR o (ev env c)).st env fun s c => .nx (env.set i s) c) :=
  ps_weak h fun D σ H ⟨g0, H0, g, env, c, er, hr, p0, gd⟩ => hw σ H _ ⟨g, env, c, _, er, hr, (ev_st er p0 gd).mono fun s g1 c1 H1 _ _ ⟨er1, h1, p1, pr, k⟩ v nv => k g1 H1 _ (er.slot pr (fun a => p0.dead) nv) h1 p1 Ext.refl⟩
theorem SR_asg {o : Option Env} {T : Wd} {mg : MG} {g0 g : Gh} {H0 : Hp} {D : Ends} {c : List PV} (h : GoodS T mg W g0 H0 g D (optS o c)) : ∃ env', o = some env' ∧ GoodS T mg W g0 H0 g D (.nx env' c) := by
  cases o with
  | some env' => exact ⟨env', rfl, h⟩
  | none => exact h.elim
theorem xs_asg (he : XE' X W e ev) (hg : L2.PG X tg (tG (wd X) t)) (hs : swapsWithSole [tg] e pos.line X.env = pure false) (hw : swappedStores [tg] e X.env = pure none) (hn : notStar tg = true) :
    XS X W (.Assign [tg] e pos) (fun env c => (ev env c).st env fun v c => optS (bindT t v env) c) :=
  ps_weak (ps_asg he hg hs hw (by rw [assignEach_cons hn]; rfl)) fun D σ H ⟨g0, H0, g, env, c, er, hr, p0, gd⟩ => ⟨g, env, c, _, er, hr, (ev_st er p0 gd).mono fun v g1 c1 H1 _ _ ⟨er1, h1, p1, pr, k⟩ x rx => by
    obtain ⟨env', hb, k⟩ := SR_asg k
    exact ⟨g1, env, c1, _, v, env', er1, h1, rx, hb, fun σ' er' _ => k g1 H1 σ' er' h1 p1 Ext.refl⟩⟩
theorem xs_par {i j : Nat} {x y : Str} {px py pt : Pos} {kt k2 pt2} {oi oj : Bool} (hc : X.calm = true) (hN : X.N.Nodup) (hi : X.N[i]? = some x) (hj : X.N[j]? = some y) (hij : i ≠ j)
    (hx : X.env.scope.names.lookup x = some .local) (hy : X.env.scope.names.lookup y = some .local) (ha : XSl X W oi a ea) (hb : XSl X W oj b eb) (na : notStar a = true) (nb : notStar b = true)
    (hw : swappedStores [.Tuple [.Name x px, .Name y py] kt pt] (.Tuple [a, b] k2 pt2) X.env = pure (some [x, y])) :
    XS X W (.Assign [.Tuple [.Name x px, .Name y py] kt pt] (.Tuple [a, b] k2 pt2) pos) (fun env c => (slotR oi (ea env c)).st env fun s c => (slotR oj (eb env c)).st env fun t c => .nx ((env.set i s).set j t) c) :=
  ps_weak (ps_par hc hN hi hj hij hx hy (pa_cons ha (pa_cons hb pa_nil (star_cons nb)) (star_cons na)) hw rfl) fun D σ H ⟨g0, H0, g, env, c, er, hr, p0, gd⟩ => by
    refine ⟨g, env, c, _, er, hr, (ev_st er p0 gd).mono fun s g1 c1 H1 _ _ ⟨er1, h1, p1, pr, k⟩ v nv => ?_⟩
    refine ⟨g1, env, c1, _, er1, h1, (ev_st er1 p1 k).mono fun t g2 c2 H2 _ _ ⟨er2, h2, p2, pr2, k2⟩ w nw => ?_⟩
    refine ⟨v, w, rfl, ?_⟩
    have e1 := er.slot (i := i) pr (fun a => p0.dead) nv
    exact k2 g2 H2 _ (e1.slot pr2 (fun a => p1.dead) nw) h2 p2 Ext.refl
theorem xs_par3 {i j l : Nat} {x y z : Str} {d : Expr} {ed : Ev} {px py pz pt : Pos} {kt k2 pt2} (hc : X.calm = true) (hN : X.N.Nodup) (hi : X.N[i]? = some x) (hj : X.N[j]? = some y) (hl : X.N[l]? = some z) (hij : i ≠ j) (hil : i ≠ l) (hjl : j ≠ l)
    (hx : X.env.scope.names.lookup x = some .local) (hy : X.env.scope.names.lookup y = some .local) (hz : X.env.scope.names.lookup z = some .local) (ha : XSl X W false a ea) (hb : XSl X W false b eb) (hd : XSl X W false d ed) (na : notStar a = true) (nb : notStar b = true) (nd : notStar d = true)
    (hw : swappedStores [.Tuple [.Name x px, .Name y py, .Name z pz] kt pt] (.Tuple [a, b, d] k2 pt2) X.env = pure (some [x, y, z])) :
    XS X W (.Assign [.Tuple [.Name x px, .Name y py, .Name z pz] kt pt] (.Tuple [a, b, d] k2 pt2) pos) (fun env c => (slotR false (ea env c)).st env fun s c => (slotR false (eb env c)).st env fun t c => (slotR false (ed env c)).st env fun u c => .nx (((env.set i s).set j t).set l u) c) :=
  ps_weak (ps_par3 hc hN hi hj hl hij hil hjl hx hy hz (pa_cons ha (pa_cons hb (pa_cons hd pa_nil (star_cons nd)) (star_cons nb)) (star_cons na)) hw rfl) fun D σ H ⟨g0, H0, g, env, c, er, hr, p0, gd⟩ => by
    refine ⟨g, env, c, _, er, hr, (ev_st er p0 gd).mono fun s g1 c1 H1 _ _ ⟨er1, h1, p1, pr, k⟩ v nv => ?_⟩
    refine ⟨g1, env, c1, _, er1, h1, (ev_st er1 p1 k).mono fun t g2 c2 H2 _ _ ⟨er2, h2, p2, pr2, k2⟩ w nw => ?_⟩
    refine ⟨g2, env, c2, _, er2, h2, (ev_st er2 p2 k2).mono fun q g3 c3 H3 _ _ ⟨er3, h3, p3, pr3, k3⟩ u nu => ?_⟩
    refine ⟨v, w, u, rfl, ?_⟩
    have e1 := er.slot (i := i) pr (fun a => p0.dead) nv
    have e2 := e1.slot (i := j) pr2 (fun a => p1.dead) nw
    exact k3 g3 H3 _ (e2.slot pr3 (fun a => p2.dead) nu) h3 p3 Ext.refl
theorem xs_ret (h : XE' X W e ev) : XS X W (.Return (some e) pos) (fun env c => (ev env c).st env fun v c => .rt v c) :=
  ps_weak (ps_ret h) fun D σ H ⟨g0, H0, g, env, c, er, hr, p0, gd⟩ => ⟨g, env, c, _, er, hr, (ev_st er p0 gd).mono fun v g1 c1 H1 _ _ ⟨er1, h1, p1, pr, k⟩ x rx => k g1 H1 x h1 p1 Ext.refl rx⟩
theorem xs_exp (h : XE' X W e ev) (hs : swapsWith e none pos.line X.env = pure false) : XS X W (.Expr e pos) (fun env c => (ev env c).st env fun _ c => .nx env c) :=
  ps_weak (ps_expr h hs) fun D σ H ⟨g0, H0, g, env, c, er, hr, p0, gd⟩ => ⟨g, env, c, _, er, hr, (ev_st er p0 gd).mono fun v g1 c1 H1 _ _ ⟨er1, h1, p1, pr, k⟩ x rx => k g1 H1 σ er1 h1 p1 Ext.refl⟩
theorem xs_bad {st : Stmt} : XS X W st (fun _ _ => .stuck) := ⟨fun pins s σ H D I ⟨g0, H0, g, env, c, er, hr, p0, gd⟩ => gd.elim⟩
theorem xss_bad {st : List Stmt} : XSs X W st (fun _ _ => .stuck) := ⟨fun pins s σ H D I ⟨g0, H0, g, env, c, er, hr, p0, gd⟩ => gd.elim⟩
theorem xss_nil : XSs X W [] (fun env c => .nx env c) := pss_weak pss_nil fun D σ H ⟨g0, H0, g, env, c, er, hr, p0, gd⟩ => gd g H σ er hr p0 Ext.refl
theorem GoodS.seq {T : Wd} {mg : MG} {g0 g : Gh} {H0 : Hp} {D : Ends} {x : SR} {f : EvS} (h : GoodS T mg W g0 H0 g D (x.bind f)) : GoodS T mg W g0 H0 g { D with nx := fun σ H => tS T mg W f D σ H } x := by
  cases x with
  | nx env c => exact fun g' H' σ' er hr p e => ⟨g0, H0, g', env, c, er, hr, p, GoodS.ext h e⟩
  | rt v c => exact h
  | exc cl arg env c => exact h
  | stuck => exact h
theorem xss_cons {st : Stmt} {rest : List Stmt} {es er : EvS} (h1 : XS X W st es) (h2 : XSs X W rest er) : XSs X W (st :: rest) (fun env c => (es env c).bind fun env c => er env c) :=
  pss_weak (pss_cons h1 h2) fun D σ H ⟨g0, H0, g, env, c, e, hr, p0, gd⟩ => ⟨g0, H0, g, env, c, e, hr, p0, gd.seq⟩
theorem xs_if {cnd : Expr} {sa sb : List Stmt} {et : Env → List PV → R Bool} {es1 es2 : EvS} (hc : XT X W cnd et) (ha : XSs X W sa es1) (hb : XSs X W sb es2) :
    XS X W (.If cnd sa sb pos) (fun env c => (et env c).st env fun k c => if k then es1 env c else es2 env c) :=
  ps_weak (ps_if hc ha hb) fun D σ H ⟨g0, H0, g, env, c, er, hr, p0, gd⟩ => ⟨g, env, c, _, er, hr, (ev_st er p0 gd).mono fun b g1 c1 H1 _ _ ⟨er1, h1, p1, pr, k⟩ => by
    cases b with
    | true => exact ⟨g0, H0, g1, env, c1, er1, h1, p1, k⟩
    | false => exact ⟨g0, H0, g1, env, c1, er1, h1, p1, k⟩⟩
/-! ### loops -/
theorem xs_for {sb : List Stmt} {ei : EvI} {es : EvS} (hp : PassesOwn (model X.prog X.w) X.A X.env X.xe) (hc : X.calm = true) (hi : XI X W tg iter ei) (hg : L2.PG X tg (tG (wd X) t)) (hb : XSs X W sb es) (hs : ∀ x, foldedSetIterable iter X.env x = pure x) :
    XS X W (.For tg iter sb [] pos) (fun env c => (ei env c).st env fun items c => forL (fun x env c => match bindT t x env with
      | some env1 => es env1 c
      | none => .stuck) items env c) :=
  ps_weak (ps_for hp hc hi hg hb hs) fun D σ H ⟨g0, H0, g, env, c, er, hr, p0, gd⟩ => ⟨g, env, c, _, er, hr, (ev_st er p0 gd).mono fun items g1 c1 H1 _ _ ⟨er1, h1, p1, pr, k⟩ J hJ => by
    refine ⟨fun i m σ H => m = items.length - i ∧ i ≤ items.length ∧ ∃ g env c, EnvR (wd X) g H (fun a => Nt H0 a) env σ ∧ HR (wd X) g c H ∧ Pres g0 H0 g H ∧ Ext g1 g ∧ GoodS (wd X) X.mg W g0 H0 g D (forL (fun x env c => match bindT t x env with
      | some env1 => es env1 c
      | none => .stuck) (items.drop i) env c), ⟨items.length, by simp, Nat.zero_le _, g1, env, c1, er1, h1, p1, Ext.refl, k⟩, ?_⟩
    rintro i m σ H ⟨rfl, hle, g, env, c, er, hr, p0, ex, gd⟩
    by_cases hlt : i < items.length
    · refine .inr ?_
      have hx : items[i]? = some items[i] := List.getElem?_eq_getElem hlt
      obtain ⟨hgo, hy⟩ := hJ.item i _ g c H hx ex hr
      rw [List.drop_eq_getElem_cons hlt, forL] at gd
      cases hb : bindT t items[i] env with
      | none => simp only [hb, SR.bind] at gd; exact gd.elim
      | some env1 =>
        simp only [hb] at gd
        refine ⟨hgo, fun σ H => ∃ g env c, EnvR (wd X) g H (fun a => Nt H0 a) env σ ∧ HR (wd X) g c H ∧ Pres g0 H0 g H ∧ Ext g1 g ∧ GoodS (wd X) X.mg W g0 H0 g D (forL (fun x env c => match bindT t x env with
          | some env1 => es env1 c
          | none => .stuck) (items.drop (i + 1)) env c), fun σ' H' h => ⟨items.length - (i + 1), by omega, rfl, hlt, h⟩, fun x H' hyl => ?_⟩
        obtain ⟨g', pr', hr', rx⟩ := hy x H' hyl
        refine ⟨g', env, c, _, _, env1, er.pres pr', hr', rx, hb, fun σ2 er2 _ => ?_⟩
        refine ⟨g0, H0, g', env1, c, er2, hr', p0.trans pr', ?_⟩
        have gd2 := GoodS.ext gd pr'.ext
        cases hx : es env1 c with
        | nx env2 c2 =>
          rw [hx] at gd2
          exact fun g3 H3 σ3 er3 hr3 p3 e3 => ⟨g3, env2, c2, er3, hr3, p3, (ex.trans pr'.ext).trans e3, GoodS.ext gd2 e3⟩
        | rt v c2 => rw [hx] at gd2; exact gd2
        | exc cl arg env2 c2 => rw [hx] at gd2; exact gd2
        | stuck => rw [hx] at gd2; exact gd2
    · have e : i = items.length := by omega
      subst e
      refine .inl ⟨hJ.stop _ g c H rfl ex hr, ?_⟩
      rw [List.drop_length] at gd
      exact gd g H σ er hr p0 Ext.refl⟩
theorem xs_while {cnd : Expr} {sb : List Stmt} {et : Env → List PV → R Bool} {es : EvS} {N : Nat} (hp : PassesOwn (model X.prog X.w) X.A X.env X.xe) (hc : XT X W cnd et) (hb : XSs X W sb es) :
    XS X W (.While cnd sb [] pos) (fun env c => whileN et es N env c) :=
  ps_weak (ps_while hp hc hb) fun D σ H ⟨g0, H0, g, env, c, er, hr, p0, gd⟩ => by
    refine ⟨fun m σ H => ∃ g env c, EnvR (wd X) g H (fun a => Nt H0 a) env σ ∧ HR (wd X) g c H ∧ Pres g0 H0 g H ∧ GoodS (wd X) X.mg W g0 H0 g D (whileN et es m env c), ⟨N, g, env, c, er, hr, p0, gd⟩, ?_⟩
    rintro m σ H ⟨g, env, c, er, hr, p0, gd⟩
    cases m with
    | zero => exact gd.elim
    | succ m =>
      rw [whileN] at gd
      refine ⟨g, env, c, _, er, hr, (ev_st er p0 gd).mono fun b g1 c1 H1 _ _ ⟨er1, h1, p1, pr, k⟩ => ?_⟩
      cases b with
      | false => exact k g1 H1 σ er1 h1 p1 Ext.refl
      | true =>
        simp only [if_true] at k ⊢
        refine ⟨fun σ H => ∃ g env c, EnvR (wd X) g H (fun a => Nt H0 a) env σ ∧ HR (wd X) g c H ∧ Pres g0 H0 g H ∧ GoodS (wd X) X.mg W g0 H0 g D (whileN et es m env c), fun σ' H' h => ⟨m, by omega, h⟩, g0, H0, g1, env, c1, er1, h1, p1, ?_⟩
        cases hx : es env c1 with
        | nx env2 c2 =>
          rw [hx] at k
          exact fun g3 H3 σ3 er3 hr3 p3 e3 => ⟨g3, env2, c2, er3, hr3, p3, GoodS.ext k e3⟩
        | rt v c2 => rw [hx] at k; exact k
        | exc cl arg env2 c2 => rw [hx] at k; exact k
        | stuck => rw [hx] at k; exact k
end
end PP

set_option Elab.async false
set_option linter.all false
set_option maxRecDepth 100000
/-! PP13: objects of one's own. -/
namespace PP
open PySem PySem.Spec PyProof.Rows L2

section
variable {T : Wd} {g g1 : Gh} {H H1 : Hp} {σ : L2.St} {env : Env} {B : Addr → Prop} {c : List PV}
/-- an own slot is frozen -/
theorem EnvR.frz1 (er : EnvR T g H B env σ) (hr : HR T g c H) {i : Nat} {p : PV} (hi : env[i]? = some (.own p)) : ∃ a u, B a ∧ g.F a = none ∧ H a = some u ∧ HR T (g.put a u) c H ∧ EnvR T (g.put a u) H B (env.set i (.val p)) σ := by
  obtain ⟨a, hs, hb, nf, o⟩ := er.at_ i _ hi
  obtain ⟨u, hu, rp, nt⟩ := o.rp nf
  have hlt : i < env.length := (List.getElem?_eq_some_iff.mp hi).1
  refine ⟨a, u, hb, nf, hu, hr.freeze hu nf o.nc nt, by simp [er.len], fun j s hj => ?_, fun j k q r b hj hk sj sk => ?_⟩
  · by_cases h : i = j
    · subst h
      rw [List.getElem?_set_self hlt] at hj
      cases hj
      exact ⟨_, hs, rp⟩
    · rw [List.getElem?_set_ne h] at hj
      have q := er.at_ j s hj
      cases s with
      | no => trivial
      | val p => obtain ⟨v, h1, h2⟩ := q; exact ⟨v, h1, h2.ext (Ext.put nf)⟩
      | own q' =>
        obtain ⟨b, h1, hb', h2, h3⟩ := q
        have ne : b ≠ a := fun z => h (er.inj i j p q' a hi hj hs (z ▸ h1))
        refine ⟨b, h1, hb', ?_, ?_⟩
        · show upd g.F a u b = none
          rw [upd_ne ne]; exact h2
        · cases q' with
          | lst ps => obtain ⟨h4, vs, h5, h6⟩ := h3; exact ⟨h4, vs, h5, h6.ext (Ext.put nf)⟩
          | dic ps => obtain ⟨h4, vs, h5, h6⟩ := h3; exact ⟨h4, vs, h5, h6.ext (Ext.put nf)⟩
          | dki ks ps => obtain ⟨h4, vs, h5, h7, h6⟩ := h3; exact ⟨h4, vs, h5, h7, h6.ext (Ext.put nf)⟩
          | _ => exact h3.elim
  · by_cases h : i = j
    · subst h; rw [List.getElem?_set_self hlt] at hj; cases hj
    · by_cases h' : i = k
      · subst h'; rw [List.getElem?_set_self hlt] at hk; cases hk
      · rw [List.getElem?_set_ne h] at hj
        rw [List.getElem?_set_ne h'] at hk
        exact er.inj j k q r b hj hk sj sk
/-- an own list is changed -/
theorem EnvR.mut (er : EnvR T g H B env σ) {i : Nat} {ps qs : List PV} (hi : env[i]? = some (.own (.lst ps))) : ∃ a vs, σ[i]? = some (some (.ref a)) ∧ B a ∧ g.F a = none ∧ g.c ≠ some a ∧ H a = some (.lst vs) ∧ RpL T g vs ps ∧
    ∀ ws, RpL T g ws qs → EnvR T g (upd H a (.lst ws)) B (env.set i (.own (.lst qs))) σ := by
  obtain ⟨a, hs, hb, nf, nc, vs, hv, rv⟩ := er.at_ i _ hi
  have hlt : i < env.length := (List.getElem?_eq_some_iff.mp hi).1
  refine ⟨a, vs, hs, hb, nf, nc, hv, rv, fun ws rws => ⟨by simp [er.len], fun j s hj => ?_, fun j k q r b hj hk sj sk => ?_⟩⟩
  · by_cases h : i = j
    · subst h
      rw [List.getElem?_set_self hlt] at hj
      cases hj
      exact ⟨a, hs, hb, nf, nc, ws, upd_same, rws⟩
    · rw [List.getElem?_set_ne h] at hj
      have q := er.at_ j s hj
      cases s with
      | no => trivial
      | val p => exact q
      | own q' =>
        obtain ⟨b, h1, hb', h2, h3⟩ := q
        exact ⟨b, h1, hb', h2, h3.upd fun z => h (er.inj i j _ q' a hi hj hs (z ▸ h1))⟩
  · have own : ∀ (j : Nat) (q : PV), (List.set env i (Slot.own (PV.lst qs)))[j]? = some (Slot.own q) → ∃ q', env[j]? = some (Slot.own q') := fun j q hj => by
      by_cases h : i = j
      · subst h; exact ⟨_, hi⟩
      · rw [List.getElem?_set_ne h] at hj; exact ⟨_, hj⟩
    obtain ⟨q', hj'⟩ := own j q hj
    obtain ⟨r', hk'⟩ := own k r hk
    exact er.inj j k q' r' b hj' hk' sj sk
end
section
variable {X : Cx} {W : WX} {e a b : Expr} {ev ea eb : Ev} {pos p p2 apos cpos : Pos} {tg iter : Expr} {t : Tg} {es : EvS}
theorem frz_tS (es : EvS) : ∀ (is : List Nat) {D : Ends} {σ : L2.St} {H : Hp}, tS (wd X) X.mg W (fun env c => es (frzP env is) c) D σ H → tS (wd X) X.mg W es D σ H
  | [], _, _, _, h => h
  | i :: is, D, σ, H, h => by
    refine frz_tS es is ?_
    obtain ⟨g0, H0, g, env, c, er, hr, p0, gd⟩ := h
    cases hi : env[i]? with
    | none => simp only [frzP, hi] at gd; exact ⟨g0, H0, g, env, c, er, hr, p0, gd⟩
    | some s =>
      cases s with
      | no => simp only [frzP, hi] at gd; exact ⟨g0, H0, g, env, c, er, hr, p0, gd⟩
      | val p => simp only [frzP, hi] at gd; exact ⟨g0, H0, g, env, c, er, hr, p0, gd⟩
      | own p =>
        simp only [frzP, hi] at gd
        obtain ⟨a, u, hb, nf, hu, hr', er'⟩ := er.frz1 hr hi
        exact ⟨g0, H0, g.put a u, _, c, er', hr', p0.freeze nf hb, GoodS.ext gd (Ext.put nf)⟩
theorem xss_frz {st : List Stmt} (is : List Nat) (h : XSs X W st es) : XSs X W st (fun env c => es (frzP env is) c) := pss_weak h fun D σ H q => frz_tS es is q
theorem xss_frz' {st : List Stmt} (is : List Nat) (h : XSs X W st es) : XSs X W st (fun env c => (SR.nx (frzP env is) c).bind fun env c => es env c) := xss_frz is h
/-! ### x.append(e) -/
def appR (i : Nat) (ev : Ev) : EvS := fun env c => match env[i]? with
    | some (.own (.lst xs)) => (ev env c).st env fun v c => if xs.length < LIM then .nx (env.set i (.own (.lst (xs ++ [v])))) c else .stuck
    | _ => .stuck
theorem own_inv {o : Option Slot} {f : List PV → SR} {T : Wd} {mg : MG} {g0 g : Gh} {H0 : Hp} {D : Ends} (h : GoodS T mg W g0 H0 g D (match o with
    | some (.own (.lst xs)) => f xs
    | _ => .stuck)) : ∃ xs, o = some (.own (.lst xs)) ∧ GoodS T mg W g0 H0 g D (f xs) := by
  split at h
  · exact ⟨_, rfl, h⟩
  · exact h.elim
theorem xs_app {i : Nat} {x : Str} (hx : L2.PE X (.Name x p) (tVar i)) (he : XE' X W e ev) (hs : notStar e = true) (hline : (apos.endLine == cpos.line) = true) :
    XS X W (.Expr (.Call (.Attribute (.Name x p) "append" apos) [e] [] cpos) pos) (appR i ev) := by
  refine ps_weak (ps_expr (pe_bm PySem.F.plainAttrs_list PySem.F.slot_list_append PySem.F.type_list_append mt_append hx (pa_cons he pa_nil (star_cons hs)) rfl (by rw [star_cons hs]; rfl) hline (star_cons hs) rfl) rfl) fun D σ H ⟨g0, H0, g, env, c, er, hr, p0, gd⟩ => ?_
  unfold appR at gd
  obtain ⟨xs, hi, gd⟩ := own_inv gd
  obtain ⟨a, vs, hsl, ha, nf, nc, hv, rv, _⟩ := er.mut (qs := xs) hi
  refine ⟨.ref a, hsl, .inl ⟨rfl, vs, SqL.of hv⟩, g, env, c, _, er, hr, (ev_st er p0 gd).mono fun v g1 c1 H1 _ _ ⟨er1, h1, p1, pr, k⟩ w rw' => ?_⟩
  split at k
  · rename_i hl
    obtain ⟨a', vs', hsl', ha', nf', nc', hv', rv', er2⟩ := er1.mut (qs := xs ++ [v]) hi
    rw [hsl] at hsl'; cases hsl'
    exact ⟨a, vs', w, rfl, rfl, hv', by rw [rv'.length, lim_eq]; exact hl, k g1 _ σ (er2 _ (rv'.append (.one rw'))) (h1.write nf' nc' (.lst hv')) (p1.write ha' hv') Ext.refl⟩
  · exact k.elim
/-! ### x = y.pop(..) -/
def popR0 (t : Tg) (i : Nat) : EvS := fun env c => match env[i]? with
    | some (.own (.lst xs)) => (match popAt xs (-1) with
      | some (x, r) => optS (bindT t x (env.set i (.own (.lst r)))) c
      | none => .stuck)
    | _ => .stuck
theorem popAt_inv {xs : List PV} {n : Int} {x : PV} {r : List PV} (h : popAt xs n = some (x, r)) : ∃ j, ixN xs.length n = some j ∧ xs[j]? = some x ∧ r = xs.eraseIdx j ∧ xs.length ≤ LIM := by
  unfold popAt at h
  split at h
  · cases h
  · rename_i hl
    cases hj : ixP xs.length n with
    | none => rw [hj] at h; cases h
    | some j =>
      rw [hj] at h
      obtain ⟨y, hy, e⟩ := Option.map_eq_some_iff.mp (show (xs[j]?.map fun x => (x, xs.eraseIdx j)) = some (x, r) from h)
      cases e
      exact ⟨j, hj, hy, rfl, by omega⟩
theorem xs_pop0 {i : Nat} {x : Str} (hx : L2.PE X (.Name x p) (tVar i)) (hg : L2.PG X tg (tG (wd X) t)) (hn : notStar tg = true) (hline : (apos.endLine == cpos.line) = true)
    (hs : swapsWithSole [tg] (.Call (.Attribute (.Name x p) "pop" apos) [] [] cpos) pos.line X.env = pure false) (hw : swappedStores [tg] (.Call (.Attribute (.Name x p) "pop" apos) [] [] cpos) X.env = pure none) :
    XS X W (.Assign [tg] (.Call (.Attribute (.Name x p) "pop" apos) [] [] cpos) pos) (popR0 t i) := by
  refine ps_weak (ps_asg (pe_bm0 PySem.F.plainAttrs_list PySem.F.slot_list_pop PySem.F.type_list_pop mt_pop hx rfl hline) hg hs hw (by rw [assignEach_cons hn]; rfl)) fun D σ H ⟨g0, H0, g, env, c, er, hr, p0, gd⟩ => ?_
  unfold popR0 at gd
  obtain ⟨xs, hi, gd⟩ := own_inv gd
  cases hp : popAt xs (-1) with
  | none => rw [hp] at gd; exact gd.elim
  | some q =>
    obtain ⟨y, r⟩ := q
    rw [hp] at gd
    obtain ⟨j, hj, hy, rfl, hl⟩ := popAt_inv hp
    have hj' : j = xs.length - 1 ∧ 0 < xs.length := by
      unfold ixN at hj
      rw [if_neg (by omega)] at hj
      split at hj
      · cases hj; omega
      · cases hj
    obtain ⟨rfl, hpos⟩ := hj'
    obtain ⟨a, vs, hsl, ha, nf, nc, hv, rv, er2⟩ := er.mut (qs := xs.eraseIdx (xs.length - 1)) hi
    obtain ⟨env', hb, gd⟩ := SR_asg gd
    obtain ⟨w, hw', rw'⟩ := rv.get hy
    have hlen := rv.length
    refine ⟨.ref a, hsl, .inl ⟨rfl, vs, SqL.of hv⟩, a, vs, w, rfl, rfl, hv, by rw [hlen]; exact hw', ?_⟩
    have e1 : vs.dropLast = vs.eraseIdx (xs.length - 1) := by rw [← hlen, PyProof.Rows.Copied.eraseIdx_last]
    rw [e1]
    refine ⟨g, _, c, _, _, env', er2 _ (rv.erase _), hr.write nf nc (.lst hv), rw', hb, fun σ' er' _ => gd g _ σ' er' (hr.write nf nc (.lst hv)) (p0.write ha hv) Ext.refl⟩
def popR1 (t : Tg) (i : Nat) (ev : Ev) : EvS := fun env c => match env[i]? with
    | some (.own (.lst xs)) => (ev env c).st env fun v c => (match v with
      | .int n => (match popAt xs n with
        | some (x, r) => optS (bindT t x (env.set i (.own (.lst r)))) c
        | none => .stuck)
      | _ => .stuck)
    | _ => .stuck
theorem xs_pop1 {i : Nat} {x : Str} (hx : L2.PE X (.Name x p) (tVar i)) (he : XE' X W e ev) (hse : notStar e = true) (hg : L2.PG X tg (tG (wd X) t)) (hn : notStar tg = true) (hline : (apos.endLine == cpos.line) = true)
    (hs : swapsWithSole [tg] (.Call (.Attribute (.Name x p) "pop" apos) [e] [] cpos) pos.line X.env = pure false) (hw : swappedStores [tg] (.Call (.Attribute (.Name x p) "pop" apos) [e] [] cpos) X.env = pure none) :
    XS X W (.Assign [tg] (.Call (.Attribute (.Name x p) "pop" apos) [e] [] cpos) pos) (popR1 t i ev) := by
  refine ps_weak (ps_asg (pe_bm PySem.F.plainAttrs_list PySem.F.slot_list_pop PySem.F.type_list_pop mt_popAt hx (pa_cons he pa_nil (star_cons hse)) rfl (by rw [star_cons hse]; rfl) hline (star_cons hse) rfl) hg hs hw (by rw [assignEach_cons hn]; rfl)) fun D σ H ⟨g0, H0, g, env, c, er, hr, p0, gd⟩ => ?_
  unfold popR1 at gd
  obtain ⟨xs, hi, gd⟩ := own_inv gd
  obtain ⟨a, vs, hsl, ha, nf, nc, hv, rv, _⟩ := er.mut (qs := xs) hi
  refine ⟨.ref a, hsl, .inl ⟨rfl, vs, SqL.of hv⟩, g, env, c, _, er, hr, (ev_st er p0 gd).mono fun v g1 c1 H1 _ _ ⟨er1, h1, p1, pr, k⟩ w rw' => ?_⟩
  cases v with
  | int n =>
    cases rw'
    simp only at k
    cases hp : popAt xs n with
    | none => rw [hp] at k; exact k.elim
    | some q =>
      obtain ⟨y, r⟩ := q
      rw [hp] at k
      obtain ⟨j, hj, hy, rfl, hl⟩ := popAt_inv hp
      obtain ⟨a', vs', hsl', ha', nf', nc', hv', rv', er2⟩ := er1.mut (qs := xs.eraseIdx j) hi
      rw [hsl] at hsl'; cases hsl'
      obtain ⟨env', hb, k⟩ := SR_asg k
      obtain ⟨w, hw', rw'⟩ := rv'.get hy
      have hlen := rv'.length
      obtain ⟨h5, h6, h7, h8⟩ := ixN_seq hj
      have hL : LIM = 16777216 := rfl
      refine ⟨a, vs', n, j, w, rfl, rfl, hv', by omega, by omega, by rw [hlen]; exact h5, hw', ?_⟩
      exact ⟨g1, _, c1, _, _, env', er2 _ (rv'.erase _), h1.write nf' nc' (.lst hv'), rw', hb, fun σ' er' _ => k g1 _ σ' er' (h1.write nf' nc' (.lst hv')) (p1.write ha' hv') Ext.refl⟩
  | _ => exact k.elim
/-! ### cup[j] = e -/
def setCR (i j : Nat) (ev : Ev) : EvS := fun env c => (ev env c).st env fun v c => match env[i]? with
    | some (.val .cup) => if j < c.length then .nx env (c.set j v) else .stuck
    | _ => .stuck
theorem xs_setC {i j jj : Nat} {x : Str} {cp : Pos} (hx : L2.PE X (.Name x p) (tVar i)) (he : XE' X W e ev) (hs : swapsWithSole [.Subscript (.Name x p) (.Constant (.int j) jj cp) p2] e pos.line X.env = pure false) :
    XS X W (.Assign [.Subscript (.Name x p) (.Constant (.int j) jj cp) p2] e pos) (setCR i j ev) := by
  refine ps_weak (ps_asg he (pg_sub hx pe_int set_list) hs rfl rfl) fun D σ H ⟨g0, H0, g, env, c, er, hr, p0, gd⟩ => ?_
  unfold setCR at gd
  refine ⟨g, env, c, _, er, hr, (ev_st er p0 gd).mono fun v g1 c1 H1 _ _ ⟨er1, h1, p1, pr, k⟩ w rw' => ?_⟩
  split at k
  · rename_i hi
    split at k
    · rename_i hl
      obtain ⟨y, hy, ry⟩ := er1.at_ i _ hi
      cases ry with
      | @cup a hc =>
        obtain ⟨nf, ne0, vs, hv, rv⟩ := h1.cup1 a hc
        refine ⟨.ref a, hy, a, vs, j, j, rfl, rfl, hv, ?_, ?_⟩
        · unfold ixN
          rw [if_pos (by omega), if_pos (by rw [rv.length]; omega)]; rfl
        · have hr2 : HR (wd X) g1 (c1.set j v) (upd H1 a (.lst (vs.set j w))) := by
            refine ⟨fun b u q => ?_, h1.ntb, tabs_write h1.tabs (.lst hv), (fun q => by rw [hc] at q; cases q), fun b q => ?_⟩
            · have : b ≠ a := fun z => by rw [z, nf] at q; cases q
              rw [upd_ne this]; exact h1.sub b u q
            · rw [hc] at q; cases q
              exact ⟨nf, by intro z; apply ne0; apply List.eq_nil_of_length_eq_zero; have := congrArg List.length z; simpa using this, _, upd_same, rv.set rw' j⟩
          refine k g1 _ σ ?_ hr2 ?_ Ext.refl
          · refine ⟨er1.len, fun m s hm => ?_, er1.inj⟩
            have q := er1.at_ m s hm
            cases s with
            | no => trivial
            | val p => exact q
            | own q' =>
              obtain ⟨b, q1, q2, q3, q4⟩ := q
              exact ⟨b, q1, q2, q3, q4.upd fun z => q4.nc (by rw [z]; exact hc)⟩
          · refine ⟨p1.ext, fun b o q n nt => ?_, p1.newF, p1.newC, fun b o q nt => ?_⟩
            · rw [upd_ne (fun z => n (by rw [z]; exact hc))]; exact p1.keep b o q n nt
            · by_cases z : b = a
              · subst z; exact ⟨_, upd_same, fun _ z => by cases z⟩
              · rw [upd_ne z]; exact p1.live b o q nt
    · exact k.elim
  · exact k.elim
/-! ### return [..]: the cup -/
def retCupR (ex : Env → List PV → R (List PV)) : EvS := fun env c => (ex env c).st env fun xs c => match c with
    | [] => if xs.isEmpty then .stuck else if xs.length ≤ LIM then .rt .cup xs else .stuck
    | _ => .stuck
theorem xs_retCup {el : List Expr} {ex : Env → List PV → R (List PV)} (h : XA X W el ex) : XS X W (.Return (some (.List el p)) pos) (retCupR ex) := by
  refine ps_weak (ps_ret (pe_lst h)) fun D σ H ⟨g0, H0, g, env, c, er, hr, p0, gd⟩ => ?_
  unfold retCupR at gd
  refine ⟨g, env, c, _, er, hr, (ev_st er p0 gd).mono fun xs g1 c1 H1 _ _ ⟨er1, h1, p1, pr, k⟩ vs rv => ?_⟩
  cases c1 with
  | nil =>
    simp only at k
    split at k
    · exact k.elim
    · rename_i hne
      split at k
      · rename_i hl
        refine ⟨by rw [rv.length, lim_eq]; exact hl, fun a na => ?_⟩
        have gc : g1.c = none := by
          cases q : g1.c with
          | none => rfl
          | some b => obtain ⟨_, z, _⟩ := h1.cup1 b q; exact absurd rfl z
        have n1 := h1.ne na
        have ex1 : Ext g1 ⟨g1.F, some a⟩ := ⟨fun _ _ q => q, fun b q => (by rw [gc] at q; cases q)⟩
        refine k ⟨g1.F, some a⟩ _ (.ref a) ?_ ?_ ex1 (.cup rfl)
        · refine ⟨fun b u q => ?_, h1.ntb, tabs_new h1.tabs na, (fun q => nomatch q), fun b q => ?_⟩
          · have : b ≠ a := fun z => by
              have q' : g1.F b = some u := q
              rw [z, n1.1] at q'; cases q'
            rw [upd_ne this]; exact h1.sub b u q
          · cases q
            exact ⟨n1.1, by intro z; apply hne; rw [z]; rfl, vs, upd_same, RpL.ext ex1 rv⟩
        · refine ⟨p1.ext.trans ex1, fun b o q n nt => ?_, p1.newF, fun b q => ?_, fun b o q nt => ?_⟩
          · have : b ≠ a := fun z => n (z ▸ rfl)
            rw [upd_ne this]
            exact p1.keep b o q (by rw [gc]; exact fun z => nomatch z) nt
          · cases q; exact .inr (p1.dead (.of na))
          · by_cases z : b = a
            · subst z; exact ⟨_, upd_same, fun _ z => by cases z⟩
            · rw [upd_ne z]; exact p1.live b o q nt
      · exact k.elim
  | cons _ _ => exact k.elim
end
end PP

set_option Elab.async false
set_option linter.all false
set_option maxRecDepth 100000
/-! PP13b: y = y + (x.pop(e),). -/
namespace PP
open PySem PySem.Spec PyProof.Rows L2

section
variable {X : Cx} {W : WX} {e : Expr} {ev : Ev} {pos p p2 apos cpos tpos opos pk1 pk2 : Pos}
def addPopR (k i : Nat) (ev : Ev) : EvS := fun env c => match env[k]?, env[i]? with
    | some (.val (.tup ys)), some (.own (.lst xs)) => (ev env c).st env fun v c => (match v with
      | .int n => (match popAt xs n with
        | some (x, r) => if ys.length < LIM then .nx ((env.set i (.own (.lst r))).set k (.val (.tup (ys ++ [x])))) c else .stuck
        | none => .stuck)
      | _ => .stuck)
    | _, _ => .stuck
theorem addPop_inv {o q : Option Slot} {f : List PV → List PV → SR} {T : Wd} {mg : MG} {g0 g : Gh} {H0 : Hp} {D : Ends} (h : GoodS T mg W g0 H0 g D (match o, q with
    | some (.val (.tup ys)), some (.own (.lst xs)) => f ys xs
    | _, _ => .stuck)) : ∃ ys xs, o = some (.val (.tup ys)) ∧ q = some (.own (.lst xs)) ∧ GoodS T mg W g0 H0 g D (f ys xs) := by
  split at h
  · exact ⟨_, _, rfl, rfl, h⟩
  · exact h.elim
theorem xs_addPop {k i : Nat} {x y : Str} {tk : Nat} (hy : L2.PE X (.Name y pk2) (tVar k)) (hx : L2.PE X (.Name x p) (tVar i)) (he : XE' X W e ev) (hse : notStar e = true) (hg : L2.PG X (.Name y pk1) (tG (wd X) (.name k))) (hline : (apos.endLine == cpos.line) = true)
    (hs : swapsWithSole [.Name y pk1] (.BinOp (.Name y pk2) .Add (.Tuple [.Call (.Attribute (.Name x p) "pop" apos) [e] [] cpos] tk tpos) opos) pos.line X.env = pure false) :
    XS X W (.Assign [.Name y pk1] (.BinOp (.Name y pk2) .Add (.Tuple [.Call (.Attribute (.Name x p) "pop" apos) [e] [] cpos] tk tpos) opos) pos) (addPopR k i ev) := by
  refine ps_weak (ps_asg (pe_op (op_bin .add) hy (pe_tup (pa_cons (pe_bm PySem.F.plainAttrs_list PySem.F.slot_list_pop PySem.F.type_list_pop mt_popAt hx (pa_cons he pa_nil (star_cons hse)) rfl (by rw [star_cons hse]; rfl) hline (star_cons hse) rfl) pa_nil rfl))) hg hs rfl (by rw [assignEach_cons rfl]; rfl)) fun D σ H ⟨g0, H0, g, env, c, er, hr, p0, gd⟩ => ?_
  unfold addPopR at gd
  obtain ⟨ys, xs, hk, hi, gd⟩ := addPop_inv gd
  obtain ⟨a, vs, hsl, ha, nf, nc, hv, rv, _⟩ := er.mut (qs := xs) hi
  obtain ⟨yv, hyv, ryv⟩ := er.at_ k _ hk
  refine ⟨yv, hyv, .ref a, hsl, .inl ⟨rfl, vs, SqL.of hv⟩, g, env, c, _, er, hr, (ev_st er p0 gd).mono fun v g1 c1 H1 _ _ ⟨er1, h1, p1, pr, kk⟩ w rw' => ?_⟩
  cases v with
  | int n =>
    cases rw'
    simp only at kk
    cases hp : popAt xs n with
    | none => rw [hp] at kk; exact kk.elim
    | some q =>
      obtain ⟨z, r⟩ := q
      rw [hp] at kk
      obtain ⟨j, hj, hz, rfl, hl⟩ := popAt_inv hp
      obtain ⟨a', vs', hsl', ha', nf', nc', hv', rv', er2⟩ := er1.mut (qs := xs.eraseIdx j) hi
      rw [hsl] at hsl'; cases hsl'
      simp only at kk
      split at kk
      · rename_i hlt
        obtain ⟨w, hw', rw'⟩ := rv'.get hz
        have hlen := rv'.length
        obtain ⟨h5, h6, h7, h8⟩ := ixN_seq hj
        have hL : LIM = 16777216 := rfl
        refine ⟨a, vs', n, j, w, rfl, rfl, hv', by omega, by omega, by rw [hlen]; exact h5, hw', ?_⟩
        refine ⟨(by show 1 ≤ sizeLine; decide), fun q hq => ?_⟩
        have er3 := er2 _ (rv'.erase j)
        have hr3 := h1.write (o' := .lst (vs'.eraseIdx j)) nf' nc' (.lst hv')
        have p3 := p1.write (o' := .lst (vs'.eraseIdx j)) ha' hv'
        obtain ⟨pr4, hr4⟩ := hr3.alloc (o := .tup [w]) hq
        refine ⟨_, c1, .tup ys, .tup [z], .tup (ys ++ [z]), hr4, .inl ((ryv.ext pr.ext).ext pr4.ext), .inl (.tup (SqT.of (by unfold Gh.put; exact upd_same)) (.cons (rw'.ext pr4.ext) .nil)), ?_, fun g' H' v pr5 hr5 rp5 => ?_⟩
        · show mkTup _ = _
          unfold mkTup
          rw [if_pos (by rw [List.length_append]; exact hlt)]
        · refine ⟨g', _, c1, _, _, _, (er3.pres pr4).pres pr5, hr5, rp5, rfl, fun σ' er' _ => kk g' _ σ' er' hr5 ((p3.trans pr4).trans pr5) (pr4.ext.trans pr5.ext)⟩
      · exact kk.elim
  | _ => exact kk.elim
end
end PP

set_option Elab.async false
set_option linter.all false
set_option maxRecDepth 100000
/-! PP13c: {k: v, ..}[x], the keys texts. -/
namespace PP
open PySem PySem.Spec PyProof.Rows L2

def kvS (ks : List Str) (ws : List V) : List (Key × V) := (ks.zip ws).map fun q => (Sum.inr q.1, q.2)
theorem kvS_val {T : Wd} {g : Gh} {s : Str} {z : PV} : ∀ {ks : List Str} {ws : List V} {ps : List PV}, RpL T g ws ps → pickV ks ps s = some z → ∃ w, valV (kvS ks ws) (Sum.inr s) = some w ∧ Rp T g w z
  | [], ws, ps, r, h => by cases ps <;> simp [pickV] at h
  | k :: ks, _, _, .nil, h => by simp [pickV] at h
  | k :: ks, _, _, @RpL.cons _ _ v p vs ps rv r, h => by
    rw [pickV] at h
    split at h
    · rename_i e
      cases h
      subst e
      exact ⟨v, valV_pos (p := (Sum.inr k, v)) rfl, rv⟩
    · rename_i e
      obtain ⟨w, h1, h2⟩ := kvS_val r h
      exact ⟨w, (valV_neg (p := (Sum.inr k, v)) (fun z => e (Sum.inr.inj z))).trans h1, h2⟩
theorem merge_nd : ∀ (kvs acc : List (Key × V)), ((acc ++ kvs).map (·.1)).Nodup → mergeK acc kvs = acc ++ kvs
  | [], acc, _ => by show acc = acc ++ []; rw [List.append_nil]
  | p :: r, acc, h => by
    show mergeK (putK acc p.1 p.2) r = _
    have e : putK acc p.1 p.2 = acc ++ [p] := by
      unfold putK
      rw [if_neg]
      intro z
      obtain ⟨q, hq, e⟩ := List.any_eq_true.mp z
      rw [List.map_append, List.nodup_append] at h
      exact h.2.2 q.1 (List.mem_map.mpr ⟨q, hq, rfl⟩) p.1 (List.mem_map.mpr ⟨p, List.mem_cons_self .., rfl⟩) (of_decide_eq_true e)
    rw [e, merge_nd r (acc ++ [p]) (by rw [List.append_assoc]; exact h), List.append_assoc]; rfl
theorem kvS_keys : ∀ {ks : List Str} {ws : List V}, ks.length = ws.length → (kvS ks ws).map (·.1) = ks.map Sum.inr
  | [], _, _ => rfl
  | k :: ks, [], h => by cases h
  | k :: ks, w :: ws, h => by
    have q := kvS_keys (ks := ks) (ws := ws) (by simpa using h)
    show Sum.inr k :: (kvS ks ws).map (·.1) = _
    rw [q]; rfl
theorem kvS_merge {ks : List Str} {ws : List V} (h : ks.length = ws.length) (nd : ks.Nodup) : mergeK [] (kvS ks ws) = kvS ks ws := by
  rw [merge_nd _ [] ?_]; rfl
  show ((kvS ks ws).map (·.1)).Nodup
  rw [kvS_keys h, List.Nodup, List.pairwise_map]
  exact List.Pairwise.imp (fun {a b} hab z => hab (Sum.inr.inj z)) nd
/-- the pairs of a display -/
def XPr (X : Cx) (W : WX) (pos : Pos) (keys : List (Option Expr)) (vals : List Expr) (ks : List Str) (ex : Env → List PV → R (List PV)) : Prop :=
  ∃ trs, L2.PPs X pos keys vals trs ∧ ∀ (K : List PV → Gh → List PV → Hp → Prop) (σ : L2.St) (H : Hp) (Q : List (V × V) → Hp → Prop), tR (wd X) X.mg W ex K σ H →
    (∀ ps g' c' H' ws, K ps g' c' H' → RpL (wd X) g' ws ps → ws.length = ks.length → Q ((ks.zip ws).map fun q => (V.str q.1, q.2)) H') → tPairs trs σ H Q
section
variable {X : Cx} {W : WX} {pos dp p : Pos} {e v : Expr} {ev : Ev} {keys : List (Option Expr)} {vals : List Expr} {ks : List Str} {k : Str} {ex : Env → List PV → R (List PV)}
theorem xpr_nil : XPr X W pos [] [] [] (fun _ c => .ok [] c) := ⟨[], pps_nil, fun K σ H Q ⟨g, env, c, B, er, hr, gd⟩ h => h [] g c H [] (gd g H Pres.refl hr) .nil rfl⟩
theorem xpr_cons {j : Nat} (hv : XE' X W v ev) (hr : XPr X W pos keys vals ks ex) : XPr X W pos (some (.Constant (.str k) j p) :: keys) (v :: vals) (k :: ks) (fun env c => (ev env c).bind fun x c => (ex env c).bind fun xs c => .ok (x :: xs) c) := by
  obtain ⟨trs, h1, h2⟩ := hr
  refine ⟨_, pps_cons pe_str hv h1, fun K σ H Q h hq => ?_⟩
  refine h.two.mono fun x g1 c1 H1 k1 w rw' => ?_
  refine h2 _ σ H1 _ k1 fun ps g2 c2 H2 ws ⟨p2, _, h2', k2⟩ rws hl => ?_
  exact hq (x :: ps) g2 c2 H2 (w :: ws) (k2 g2 H2 Pres.refl h2') (.cons (rw'.ext p2.ext) rws) (by rw [List.length_cons, List.length_cons, hl])
theorem x_pick (hu : X.A.units + 1 < cLine) (hp : XPr X W dp keys vals ks ex) (he : XE' X W e ev) (hs : NoSl e) (hall : keys.all (·.isSome) = true) (hl : keys.length = vals.length) (h0 : keys ≠ []) (h15 : keys.length ≤ 15) (hk : ks.length ≤ 15) (nd : ks.Nodup) :
    XE' X W (.Subscript (.Dict keys vals dp) e pos) (fun env c => (ex env c).bind fun vs c => (ev env c).bind fun x c => pickR ks vs x c) := by
  obtain ⟨trs, h1, h2⟩ := hp
  refine pe_weak (pe_dget hu (pe_disp h1 hall hl h0 h15) he hs) fun σ H Q h => ?_
  intro a ha
  obtain ⟨g, env, c, B, er, hr, gd⟩ := h
  simp only at gd
  obtain ⟨pr, hr1⟩ := hr.fresh (o := .dK []) ha
  obtain ⟨na, nc⟩ := hr.ne ha
  have noC : ∀ {g1 : Gh} {H1 : Hp} {kv : List (Key × V)}, Pres g (upd H a (.dK kv)) g1 H1 → g1.c ≠ some a := fun x z => by
    rcases x.newC a z with q | q
    · exact nc q
    · exact q.no upd_same fun _ z => by cases z
  have noF : ∀ {g1 : Gh} {H1 : Hp} {kv : List (Key × V)}, Pres g (upd H a (.dK kv)) g1 H1 → g1.F a = none := fun {g1 H1 o} x => by
    cases q : g1.F a with
    | none => rfl
    | some u =>
      rcases x.newF a u q with q | q
      · rw [na] at q; cases q
      · exact (q.no upd_same fun _ z => by cases z).elim
  refine h2 (fun ps g1 c1 H1 => ex env c = .ok ps c1 ∧ Pres g (upd H a (.dK [])) g1 H1 ∧ HR (wd X) g1 c1 H1) σ _ _ ⟨g, env, c, B, er.pres pr, hr1, ?_⟩ fun ps g1 c1 H1 ws ⟨hx, p1, h1'⟩ rws hlen => ?_
  · cases hx : ex env c with
    | ok ps c1 => exact fun g1 H1 p1 h1 => ⟨rfl, p1, h1⟩
    | exc cl arg c1 => rw [hx] at gd; exact GoodR.pres (x := (R.exc cl arg c1 : R PV)) gd pr
    | stuck => rw [hx] at gd; exact gd.elim
  · rw [hx] at gd
    have hH1 : H1 a = some (.dK []) := p1.keep a _ upd_same (noC p1) (fun _ z => by cases z)
    refine ⟨hH1, kvS ks ws, ?_, ?_, ?_⟩
    · unfold kvS
      rw [List.map_map]; rfl
    · unfold kvS
      rw [List.length_map, List.length_zip, hlen]; omega
    · rw [kvS_merge hlen.symm nd]
      have p2 : Pres g H g1 (upd H1 a (.dK (kvS ks ws))) := (pr.trans p1).write (.of ha) hH1
      have h2' := h1'.write (o' := .dK (kvS ks ws)) (noF p1) (noC p1) (.dK hH1)
      have gd2 : GoodR (wd X) X.mg W g1 (upd H1 a (.dK (kvS ks ws))) σ _ ((ev env c1).bind fun x c => pickR ks ps x c) := GoodR.pres (x := (ev env c1).bind fun x c => pickR ks ps x c) gd p2
      refine ⟨g1, env, c1, B, er.pres p2, h2', gd2.bind.mono fun x g2 c2 H2 p3 h3 k3 w rw' => ?_⟩
      cases x with
      | str s =>
        cases rw'
        obtain ⟨z, ez, kz⟩ := GoodR.pure k3
        obtain ⟨w2, e2, r2⟩ := kvS_val rws ez
        have nc2 : g2.c ≠ some a := fun z => by
          rcases p3.newC a z with q | q
          · exact noC p1 q
          · exact q.no upd_same fun _ z => by cases z
        have hH2 : H2 a = some (.dK (kvS ks ws)) := p3.keep a _ upd_same nc2 (fun _ z => by cases z)
        have dg := DGet.k (k := Sum.inr s) hH2
        rw [e2] at dg
        exact ⟨a, w2, rfl, dg, kz g2 H2 Pres.refl h3 w2 (r2.ext p3.ext)⟩
      | _ => exact k3.elim
end
end PP

set_option Elab.async false
set_option linter.all false
set_option maxRecDepth 100000
/-! PP13d: l.count(x), l.index(x). -/
namespace PP
open PySem PySem.Spec PyProof.Rows L2

def rCountD (K : PySem.W.Frag) : V → List V → Hp → VK → Prop := fun x xs H Q => ∃ (a : Addr) (y : V) (d : PyData) (ds : List PyData), x = V.ref a ∧ xs = [y] ∧ Dp K H (V.ref a) (.list ds) ∧ Dp K H y d ∧
  SeqAt.shaped (.list ds) = true ∧ SeqAt.shaped d = true ∧ Q (.int ((ds.countP fun z => PyData.eqv z d : Nat) : Int)) H
theorem mt_countD {X : Cx} (hu : X.A.units + 65 < cLine) : MtR X "list.count" (rCountD X.K) := by
  intro pins s σ H x xs v us Q I rx rxs h
  obtain ⟨a, y, d, ds, rfl, rfl, hl, hy, sl, sd, q⟩ := h
  cases rx
  cases rxs with
  | cons ry rt =>
    rename_i uy ut
    cases rt
    obtain ⟨bs, r1⟩ := Dp.reads I d y uy hy ry
    have hxs : PyData.canLayAll0 ds = true := SeqAt.canLay_of_shaped sl
    have hroom : X.A.units + 1 + min (PyData.depthAll ds) d.depth < cLine := room_in_shaped sd hu
    cases hl with
    | lst hs ha =>
      obtain ⟨its, rv, ⟨⟨cls, dd, data, sls⟩, n, ho, hc, hdn, hdt⟩, hlen⟩ := I.list hs
      simp only at hc hdt
      subst hc hdt
      obtain ⟨as, h4⟩ := Dp.readsAll I ds _ its ha rv
      have hmap : its.map (SeqAt.readOf s.heap) = ds := SeqAt.readsAll_map ds its as hxs h4
      refine call_meets PySem.F.slot_list_count ⟨_, ho, rfl⟩ PySem.F.entry_list_count (PySem.F.args_list_count_2 _ _)
        (SeqAt.list_countAt a its.toArray n dd sls uy (fun u => PyData.eqv (SeqAt.readOf s.heap u) d)) ⟨ho, SeqAt.items_eqAt (vs := its.toArray) (show ReadsAll s.heap its.toArray.toList ds as from h4) r1 hxs (SeqAt.canLay_of_shaped sd) hroom, ?_⟩
      have e : its.countP (fun u => PyData.eqv (SeqAt.readOf s.heap u) d) = ds.countP fun z => PyData.eqv z d := by
        rw [← hmap, List.countP_map]; rfl
      simp only [e]
      exact ⟨.int _, H, I.tok _, ⟨_, rfl⟩, q⟩
theorem toDs_count {x : PV} {m : Nat} (hx : small m x = true) : ∀ (n : Nat) (xs : List PV), xs.all (small n) = true → (toDs xs).countP (fun z => PyData.eqv z (toD x)) = xs.countP fun y => peq y x
  | n, [], _ => rfl
  | n, y :: ys, h => by
    rw [List.all_cons, Bool.and_eq_true] at h
    rw [toDs, List.countP_cons, List.countP_cons, toDs_count hx n ys h.2, peq_eqv y x n m h.1 hx]
theorem toDs_get : ∀ (xs : List PV) (j : Nat), (toDs xs)[j]? = xs[j]?.map toD
  | [], _ => by rw [toDs]; simp
  | x :: xs, 0 => by rw [toDs]; rfl
  | x :: xs, j + 1 => by rw [toDs, List.getElem?_cons_succ, List.getElem?_cons_succ, toDs_get xs j]
theorem idxOf_ge {x : PV} : ∀ {xs : List PV} {n k : Nat}, idxOf x xs n = some k → n ≤ k ∧ (∃ z, xs[k - n]? = some z ∧ peq z x = true) ∧ ∀ m z', m < k - n → xs[m]? = some z' → peq z' x = false
  | [], _, _, h => by cases h
  | y :: r, n, k, h => by
    rw [idxOf] at h
    split at h
    · rename_i e
      cases h
      refine ⟨Nat.le_refl _, ⟨y, by rw [Nat.sub_self]; rfl, e⟩, fun m z' hm => absurd hm (by omega)⟩
    · rename_i e
      obtain ⟨h1, ⟨z, h2, h3⟩, h4⟩ := idxOf_ge h
      have e1 : k - n = (k - (n + 1)) + 1 := by omega
      refine ⟨by omega, ⟨z, by rw [e1, List.getElem?_cons_succ]; exact h2, h3⟩, fun m z' hm hz => ?_⟩
      cases m with
      | zero =>
        rw [List.getElem?_cons_zero] at hz
        cases hz
        simpa using e
      | succ m => exact h4 m z' (by omega) (by rw [List.getElem?_cons_succ] at hz; exact hz)
section
variable {X : Cx} {W : WX} {a e : Expr} {ea ev : Ev} {apos cpos : Pos}
def mth1 (m : Mth) (ea ev : Ev) : Ev := fun env c => (ea env c).bind fun x c => guardR (recv m x) (((ev env c).bind fun x c => (R.ok [] c : R (List PV)).bind fun xs c => R.ok (x :: xs) c).bind fun xs c => pureR (mthop m x xs) c)
theorem x_count (hu : X.A.units + 70 < cLine) (ha : XB X W a ea) (he : XE' X W e ev) (hse : notStar e = true) (hb : attributeBase a "count" X.env (eval a X.env) = eval a X.env) (hline : (apos.endLine == cpos.line) = true) :
    XE' X W (.Call (.Attribute a "count" apos) [e] [] cpos) (mth1 .count ea ev) := by
  refine pe_weak (pe_bm PySem.F.plainAttrs_list PySem.F.slot_list_count PySem.F.type_list_count (mt_countD (by omega)) ha (pa_cons he pa_nil (star_cons hse)) hb (by rw [star_cons hse]; rfl) hline (star_cons hse) rfl) fun σ H Q h => ?_
  obtain ⟨g, env, c, B, er, hr, gd⟩ := h
  refine ⟨g, env, c, B, er, hr, (GoodR.bind gd).mono fun x g1 c1 H1 p1 h1 k1 v cv => ?_⟩
  cases x with
  | lst ps =>
    obtain ⟨l, vs, rfl, hl, rv⟩ := cv.lst h1
    refine ⟨.inl ⟨rfl, vs, SqL.of hl⟩, ?_⟩
    have k2 : GoodR (wd X) X.mg W g1 H1 σ (fun p g' x H' => ∀ v, Rp (wd X) g' v p → Q v H') (((ev env c1).bind fun x c => (R.ok [] c : R (List PV)).bind fun xs c => R.ok (x :: xs) c).bind fun xs c => pureR (mthop .count (.lst ps) xs) c) := k1
    rw [R.bind_assoc] at k2
    refine ⟨g1, env, c1, B, er.pres p1, h1, (GoodR.bind k2).mono fun y g2 c2 H2 p2 h2 k3 w rw' => ?_⟩
    obtain ⟨z, ez, kz⟩ := GoodR.pure (o := mthop .count (.lst ps) [y]) k3
    rw [show mthop .count (.lst ps) [y] = if (dat y && dat (.lst ps)) = true then some (.int (ps.countP fun z => peq z y)) else none from rfl] at ez
    split at ez <;> cases ez
    rename_i hd
    rw [Bool.and_eq_true] at hd
    have cv2 := cv.pres p2
    have d1 := cv2.dp h2 60 hd.2
    have d2 := rw'.dp h2 60 hd.1
    have s1 := dat_shaped hd.2
    rw [toD] at d1 s1
    refine ⟨l, w, _, _, rfl, rfl, d1, d2, s1, dat_shaped hd.1, ?_⟩
    rw [toDs_count (m := 60) hd.1 59 ps (by have := hd.2; unfold dat at this; rw [small] at this; exact this)]
    exact kz g2 H2 Pres.refl h2 _ (.int _)
  | _ => exact k1.elim
theorem x_index (hu : X.A.units + 70 < cLine) (ha : XB X W a ea) (he : XE' X W e ev) (hse : notStar e = true) (hb : attributeBase a "index" X.env (eval a X.env) = eval a X.env) (hline : (apos.endLine == cpos.line) = true) :
    XE' X W (.Call (.Attribute a "index" apos) [e] [] cpos) (mth1 .index ea ev) := by
  refine pe_weak (pe_bm PySem.F.plainAttrs_list PySem.F.slot_list_index PySem.F.type_list_index (mt_indexD (by omega)) ha (pa_cons he pa_nil (star_cons hse)) hb (by rw [star_cons hse]; rfl) hline (star_cons hse) rfl) fun σ H Q h => ?_
  obtain ⟨g, env, c, B, er, hr, gd⟩ := h
  refine ⟨g, env, c, B, er, hr, (GoodR.bind gd).mono fun x g1 c1 H1 p1 h1 k1 v cv => ?_⟩
  cases x with
  | lst ps =>
    obtain ⟨l, vs, rfl, hl, rv⟩ := cv.lst h1
    refine ⟨.inl ⟨rfl, vs, SqL.of hl⟩, ?_⟩
    have k2 : GoodR (wd X) X.mg W g1 H1 σ (fun p g' x H' => ∀ v, Rp (wd X) g' v p → Q v H') (((ev env c1).bind fun x c => (R.ok [] c : R (List PV)).bind fun xs c => R.ok (x :: xs) c).bind fun xs c => pureR (mthop .index (.lst ps) xs) c) := k1
    rw [R.bind_assoc] at k2
    refine ⟨g1, env, c1, B, er.pres p1, h1, (GoodR.bind k2).mono fun y g2 c2 H2 p2 h2 k3 w rw' => ?_⟩
    obtain ⟨z, ez, kz⟩ := GoodR.pure (o := mthop .index (.lst ps) [y]) k3
    rw [show mthop .index (.lst ps) [y] = if (dat y && dat (.lst ps)) = true then (idxOf y ps 0).map (fun (n : Nat) => PV.int (n : Int)) else none from rfl] at ez
    split at ez <;> first | (cases ez; done) | skip
    rename_i hd
    rw [Bool.and_eq_true] at hd
    obtain ⟨j, hj, rfl⟩ := Option.map_eq_some_iff.mp ez
    obtain ⟨_, ⟨q, h5, h6⟩, h7⟩ := idxOf_ge hj
    rw [Nat.sub_zero] at h5 h7
    have cv2 := cv.pres p2
    have d1 := cv2.dp h2 60 hd.2
    have d2 := rw'.dp h2 60 hd.1
    have s1 := dat_shaped hd.2
    rw [toD] at d1 s1
    have hsm : ∀ {i : Nat} {r : PV}, ps[i]? = some r → small 59 r = true := fun h => by
      have := hd.2
      unfold dat at this
      rw [small, List.all_eq_true] at this
      exact this _ (List.mem_of_getElem? h)
    refine ⟨l, w, _, _, j, toD q, rfl, rfl, d1, d2, s1, dat_shaped hd.1, by rw [toDs_get, h5]; rfl, by rw [peq_eqv q _ 59 60 (hsm h5) hd.1]; exact h6, fun m z' hm hz => ?_, kz g2 H2 Pres.refl h2 _ (.int _)⟩
    rw [toDs_get] at hz
    obtain ⟨r, hr', rfl⟩ := Option.map_eq_some_iff.mp hz
    rw [peq_eqv r _ 59 60 (hsm hr') hd.1]
    exact h7 m r hm hr'
  | _ => exact k1.elim
end
end PP

set_option Elab.async false
set_option linter.all false
set_option maxRecDepth 100000
/-! PP13e: sorted(l), the items alike data. -/
namespace PP
open PySem PySem.Spec PyProof.Rows L2
section
variable {prog : Program} {w : World} {A : Around} {E : Value → Shared → Prop} {s : Shared}
theorem call_tuple_lt {Q : Value → Shared → Prop} {l b : Addr} {items items2 : Array Value} {e r : Nat → Bool} (hl : s.heap.IsTuple l items) (hb : s.heap.IsTuple b items2)
    (he : ∀ j (h1 : j < items.size) (h2 : j < items2.size), SeqAt.EqAt A.in1 s items[j] items2[j] (e j)) (hr : ∀ j (h1 : j < items.size) (h2 : j < items2.size), e j = false → SeqAt.RcLt A.in1 s items[j] items2[j] (r j))
    (h : Q (.bool (SeqAt.firstLt e r (decide (items.size < items2.size)) (List.range (min items.size items2.size)))) s) : wpAny (model prog w) A (call (.builtin "tuple.__lt__") [.ref l, .ref b]) Q E s := by
  obtain ⟨⟨cls, dd, data, sl⟩, ho, hc, n, hd⟩ := id hl
  obtain ⟨⟨cls2, dd2, data2, sl2⟩, ho2, hc2, n2, hd2⟩ := id hb
  simp only at hc hd hc2 hd2
  subst hc hd hc2 hd2
  exact call_meets PySem.F.slot_tuple_lt ⟨_, ho, rfl⟩ PySem.F.entry_tuple_lt (PySem.F.args_tuple_lt_2 _ _) (SeqAt.tuple_ltAt l b items items2 n n2 dd dd2 sl sl2 e r) ⟨ho, ho2, he, hr, h⟩
theorem oneLt_tup {xs ys : List PyData} {a b : Value} {as bs : List Addr} {Q : Bool → Shared → Prop} (ra : Reads s.heap a (.tuple xs) as) (rb : Reads s.heap b (.tuple ys) bs) (h : PySem.W.alike (.tuple xs) (.tuple ys) = true)
    (hu : A.units + min (PyData.tuple xs).depth (PyData.tuple ys).depth < cLine) (hq : Q (PySem.W.dataLt (.tuple xs) (.tuple ys)) s) : wpAny (model prog w) A (oneLt' true a b) Q E s := by
  have hal : PySem.W.alikeAll xs ys = true := by simpa [PySem.W.alike] using h
  cases ra with
  | @tuple l o vs n _ as₁ h1 h2 h3 h4 =>
    cases rb with
    | @tuple l' o' vs' n' _ bs₁ k1 k2 k3 k4 =>
      have n1 : vs.size = xs.length := by simpa using SeqAt.ReadsAll.length _ _ _ h4
      have n2 : vs'.size = ys.length := by simpa using SeqAt.ReadsAll.length _ _ _ k4
      rw [PySem.W.dataLt_tuple, ← PySem.W.firstLt_toks xs ys hal, ← n1, ← n2] at hq
      rw [oneLt'_eq]
      simp only [if_true]
      refine wpAny_bind (wpAny_cRoomFor (SeqAt.room_here hu) ?_)
      refine wpAny_bind (wpAny_callSpecialIfBound?_slot (T := "tuple") ⟨_, h1, h2⟩ PySem.F.slot_tuple_lt (call_tuple_lt (e := SeqAt.pairEq xs ys) (r := fun j => PySem.W.dataLt (xs.getD j .none) (ys.getD j .none)) ⟨_, h1, h2, _, h3⟩ ⟨_, k1, k2, _, k3⟩ (fun j j1 j2 => ?_) (fun j j1 j2 hj => ?_) ?_))
      · have := PySem.W.eqAt_alikeAll xs ys A.in1 s vs.toList vs'.toList _ _ h4 k4 hal (SeqAt.room_in hu) j (by simpa using j1) (by simpa using j2)
        simpa using this
      · have := PySem.W.rcLt_alikeAll xs ys A.in1 s vs.toList vs'.toList _ _ h4 k4 hal (SeqAt.room_in hu) j (by simpa using j1) (by simpa using j2) hj
        simpa using this
      · exact wpAny_truthy_bool hq
/-- the firsts of values that read as tuples -/
theorem firsts_any {M : Model} : ∀ (vs : List Value) {Q : List (Option Value) → Shared → Prop}, (∀ v ∈ vs, ∃ xs as, Reads s.heap v (.tuple xs) as) → (∀ rs : List (Option Value), rs.length = vs.length → (∀ v as, vs.head? = some v → Reads s.heap v (.tuple []) as → rs.head? = some none) → Q rs s) → wpAny M A (vs.mapM firstOfTuple') Q E s
  | [], Q, _, h => by rw [List.mapM_nil]; exact wpAny_pure (h [] rfl fun v as e => nomatch e)
  | v :: vs, Q, hr, h => by
    obtain ⟨xs, as, r⟩ := hr v (List.mem_cons_self ..)
    cases r with
    | @tuple a o its n _ _ ho hc hd hrs =>
      rw [List.mapM_cons]
      refine wpAny_bind ?_
      rw [PySem.W.kas_first_eq]
      refine wpAny_bind (PySem.W.Looks.here (show PySem.W.Looks M s.heap (typeOf (.ref a)) o.cls from (PySem.W.Looks.ld ho).andThen .now) ?_)
      rw [hc, if_neg (by first | decide | simp)]
      refine wpAny_bind (listItems_at ho hd (wpAny_pure ?_))
      refine wpAny_bind (firsts_any vs (Q := fun bs s' => wpAny M A (pure (its[0]? :: bs)) Q E s') (fun u hu => hr u (List.mem_cons_of_mem _ hu)) fun rs hl _ => wpAny_pure (h _ (by rw [List.length_cons, List.length_cons, hl]) fun u as' e r' => ?_))
      cases e
      cases r' with
      | @tuple a' o' its' n' _ _ ho' hc' hd' hrs' =>
        rw [ho] at ho'
        cases ho'
        rw [hd] at hd'
        cases hd'
        have e0 : its = #[] := by
          have := SeqAt.ReadsAll.length _ _ _ hrs'
          simpa using this
        rw [e0]; rfl
theorem kind_mix {M : Model} {vs : List Value} {Q : SortKind → Shared → Prop} (h2 : 2 ≤ vs.length) (hr : ∀ v ∈ vs, ∃ xs as, Reads s.heap v (.tuple xs) as) (h0 : ∃ v as, vs.head? = some v ∧ Reads s.heap v (.tuple []) as) (h : Q oneType' s) : wpAny M A (keyKind' vs.toArray) Q E s := by
  obtain ⟨v0, as0, hv0, r0⟩ := h0
  rw [keyKind'_eq, List.mapM_toArray, map_eq_pure_bind]
  refine wpAny_bind (wpAny_bind (firsts_any vs hr fun rs hl hh => wpAny_pure ?_))
  obtain ⟨rs', rfl⟩ : ∃ rs', rs = none :: rs' := by
    have := hh v0 as0 hv0 r0
    cases rs with
    | nil => cases this
    | cons x r => cases this; exact ⟨r, rfl⟩
  rw [if_neg (by simp), if_neg (by simp)]
  rw [oneTypeOnly'_eq, List.mapM_toArray, map_eq_pure_bind]
  refine wpAny_bind (wpAny_bind (wpAny_bind (PySem.W.kas_mapM (r := Value.type "tuple") _ (fun v hv Q' hq => ?_) (wpAny_pure ?_))))
  · obtain ⟨xs, as, r⟩ := hr v hv
    exact (PySem.W.looks_reads r).here hq
  · have hall : ((List.map (fun _ => Value.type "tuple") vs).toArray.all fun x => x == Value.type "tuple") = true := by
      simp only [List.all_toArray, List.all_map, List.all_eq_true]
      intro _ _
      rfl
    have e0 : (List.map (fun _ => Value.type "tuple") vs).toArray[0]? = some (Value.type "tuple") := by
      cases vs with
      | nil => cases hv0
      | cons v r => simp
    rw [e0]
    simp only [hall, if_true]
    exact wpAny_pure (wpAny_pure h)
/-- tuples, the first one empty, can be sorted -/
theorem sortsMix {vs : List Value} {ds : List PyData} (e : PySem.W.EachIs (fun v d => ∃ as, Reads s.heap v d as) vs ds) (hal : PySem.W.AllAlike ds) (h0 : ds.head? = some (.tuple [])) (ht : ∀ d ∈ ds, ∃ xs, d = .tuple xs) (hu : ∀ d, d ∈ ds → A.units + d.depth < cLine) : PySem.W.SortsAt prog w A s (PySem.W.dataKind s.heap ds) vs := by
  refine ⟨fun v hv => ?_, oneType', ?_, fun h2 E Q hq => ?_⟩
  · obtain ⟨d, hd, as, r⟩ := e.left v hv
    exact ⟨_, PySem.W.dataKind_some hal hd r⟩
  · intro E x y a b Q ha hb hq
    obtain ⟨d, as, hd, ra, rfl⟩ := PySem.W.dataKind_inv ha
    obtain ⟨d', as', hd', rb, rfl⟩ := PySem.W.dataKind_inv hb
    obtain ⟨xs, rfl⟩ := ht d hd
    obtain ⟨ys, rfl⟩ := ht d' hd'
    rw [keyLt'_oneType]
    exact oneLt_tup ra rb (hal _ hd _ hd') (Nat.lt_of_le_of_lt (Nat.add_le_add_left (Nat.min_le_left _ _) _) (hu _ hd)) hq
  · refine kind_mix h2 (fun v hv => ?_) ?_ hq
    · obtain ⟨d, hd, as, r⟩ := e.left v hv
      obtain ⟨xs, rfl⟩ := ht d hd
      exact ⟨xs, as, r⟩
    · cases e with
      | nil => cases h0
      | cons r t =>
        cases h0
        obtain ⟨as, r⟩ := r
        exact ⟨_, as, rfl, r⟩
end
/-- a value and what it stands for -/
def RU (T : Wd) (g : Gh) (u : Value) (p : PV) : Prop := ∃ v : V, RelV v u ∧ Rp T g v p
theorem each_of {T : Wd} {g : Gh} : ∀ {vs : List V} {us : List Value} {ps : List PV}, Vals vs us → RpL T g vs ps → PySem.W.EachIs (RU T g) us ps
  | _, _, _, .nil, .nil => .nil
  | _, _, _, .cons a b, .cons r t => .cons ⟨_, a, r⟩ (each_of b t)
theorem each_back {T : Wd} {g : Gh} : ∀ {us : List Value} {ps : List PV}, PySem.W.EachIs (RU T g) us ps → ∃ vs : List V, Vals vs us ∧ RpL T g vs ps
  | _, _, .nil => ⟨[], .nil, .nil⟩
  | _, _, .cons ⟨v, a, r⟩ t => by
    obtain ⟨vs, h1, h2⟩ := each_back t
    exact ⟨v :: vs, .cons a h1, .cons r h2⟩
theorem each_length {α β : Type} {R : α → β → Prop} : ∀ {as : List α} {bs : List β}, PySem.W.EachIs R as bs → as.length = bs.length
  | _, _, .nil => rfl
  | _, _, .cons _ t => by rw [List.length_cons, List.length_cons, each_length t]
mutual
/-- alike data that are equal are the same -/
theorem same_of : ∀ (n m : Nat) (p q : PV), small n p = true → small m q = true → PySem.W.alike (toD p) (toD q) = true → PyData.eqv (toD p) (toD q) = true → p = q
  | _, _, .non, q, _, h2, ha, _ => by
    cases q <;> first | rfl | (simp [toD, PySem.W.alike] at ha; done) | (cases ‹Nat› <;> simp [small] at h2; done)
  | _, _, .bl a, q, _, h2, ha, he => by
    cases q <;> first | (simp [toD, PySem.W.alike] at ha; done) | skip
    simp [toD, PyData.eqv] at he
    rw [he]
  | _, _, .int a, q, _, h2, ha, he => by
    cases q <;> first | (simp [toD, PySem.W.alike] at ha; done) | skip
    simp [toD, PyData.eqv] at he
    rw [he]
  | _, _, .str a, q, _, h2, ha, he => by
    cases q <;> first | (simp [toD, PySem.W.alike] at ha; done) | skip
    simp [toD, PyData.eqv] at he
    rw [he]
  | 0, _, .tup xs, q, h1, _, _, _ => by simp [small] at h1
  | n + 1, m, .tup xs, q, h1, h2, ha, he => by
    cases q <;> first | (simp [toD, PySem.W.alike] at ha; done) | skip
    rename_i ys
    cases m with
    | zero => simp [small] at h2
    | succ m =>
      rw [small, List.all_eq_true] at h1 h2
      rw [toD, toD, PySem.W.alike] at ha
      rw [toD, toD, PyData.eqv] at he
      rw [same_all n m xs ys h1 h2 ha he]
  | 0, _, .lst xs, q, h1, _, _, _ => by simp [small] at h1
  | n + 1, m, .lst xs, q, h1, h2, ha, he => by
    cases q <;> first | (simp [toD, PySem.W.alike] at ha; done) | skip
    rename_i ys
    cases m with
    | zero => simp [small] at h2
    | succ m =>
      rw [small, List.all_eq_true] at h1 h2
      rw [toD, toD, PySem.W.alike] at ha
      rw [toD, toD, PyData.eqv] at he
      rw [same_all n m xs ys h1 h2 ha he]
  | n, _, .dic _, _, h1, _, _, _ => by cases n <;> simp [small] at h1
  | n, _, .dki _ _, _, h1, _, _, _ => by cases n <;> simp [small] at h1
  | n, _, .cup, _, h1, _, _, _ => by cases n <;> simp [small] at h1
  | n, _, .scr _, _, h1, _, _, _ => by cases n <;> simp [small] at h1
  | n, _, .rg _ _, _, h1, _, _, _ => by cases n <;> simp [small] at h1
  | n, _, .fnv _, _, h1, _, _, _ => by cases n <;> simp [small] at h1
theorem same_all : ∀ (n m : Nat) (xs ys : List PV), (∀ x ∈ xs, small n x = true) → (∀ y ∈ ys, small m y = true) → PySem.W.alikeAll (toDs xs) (toDs ys) = true → PyData.eqvAll (toDs xs) (toDs ys) = true → xs = ys
  | _, _, [], ys, _, _, _, he => by
    cases ys with
    | nil => rfl
    | cons y r => simp [toDs, PyData.eqvAll] at he
  | n, m, x :: xs, ys, h1, h2, ha, he => by
    cases ys with
    | nil => simp [toDs, PyData.eqvAll] at he
    | cons y r =>
      rw [toDs, toDs] at ha he
      rw [PySem.W.eqv_all_cons, Bool.and_eq_true] at he
      obtain ⟨a1, a2⟩ := PySem.W.alike_all_cons ha
      rw [same_of n m x y (h1 x (List.mem_cons_self ..)) (h2 y (List.mem_cons_self ..)) a1 he.1,
        same_all n m xs r (fun z hz => h1 z (List.mem_cons_of_mem _ hz)) (fun z hz => h2 z (List.mem_cons_of_mem _ hz)) a2 he.2]
end
theorem ple_total (a b : PV) : (ple a b || ple b a) = true := by
  unfold ple
  cases h : PySem.W.dataLt (toD b) (toD a) with
  | false => rfl
  | true =>
    cases h2 : PySem.W.dataLt (toD a) (toD b) with
    | false => rfl
    | true => exact absurd ((lex_trans _ _ _ h2 h : PySem.W.dataLt (toD a) (toD a) = true).symm.trans (lex_irrefl _)) (by decide)
theorem ple_trans (a b c : PV) (h1 : ple a b = true) (h2 : ple b c = true) : ple a c = true := by
  unfold ple at *
  rw [Bool.not_eq_true'] at *
  cases h : PySem.W.dataLt (toD c) (toD a) with
  | false => rfl
  | true =>
    rcases lex_negTrans _ (PySem.W.keyToks (toD b)) _ h with h | h
    · exact absurd (h.symm.trans h2) (by decide)
    · exact absurd (h.symm.trans h1) (by decide)
theorem ple_anti {a b : PV} (ha : dat a = true) (hb : dat b = true) (hal : PySem.W.alike (toD a) (toD b) = true) (h1 : ple a b = true) (h2 : ple b a = true) : a = b := by
  unfold ple at *
  rw [Bool.not_eq_true'] at *
  have ht : PySem.W.keyToks (toD a) = PySem.W.keyToks (toD b) := lex_total _ _ h2 h1
  refine same_of 60 60 a b ha hb hal ?_
  cases e : PyData.eqv (toD a) (toD b) with
  | true => rfl
  | false =>
    have h3 := (PySem.W.toks_eqv _ _ hal).2 e [.inl 0] [.inl 1]
    rw [ht, PySem.W.lex_pre, lex_irrefl, lex_diff (by decide)] at h3
    exact absurd h3 (by decide)
theorem isort_merge {xs : List PV} (hd : xs.all dat = true) (hal : alikeAll2 xs = true) : isortB ple xs = xs.mergeSort ple := by
  refine ((isortB_perm ple xs).trans (List.mergeSort_perm xs ple).symm).eq_of_pairwise (fun a b ha hb h1 h2 => ?_) (isortB_pw ple_trans ple_total xs) (List.pairwise_mergeSort ple_trans ple_total xs)
  have ha' := (isortB_perm ple xs).mem_iff.mp ha
  have hb' := (List.mergeSort_perm xs ple).mem_iff.mp hb
  exact ple_anti (List.all_eq_true.mp hd a ha') (List.all_eq_true.mp hd b hb') (List.all_eq_true.mp (List.all_eq_true.mp hal a ha') b hb') h1 h2
section
variable {X : Cx}
def psL : List PV → Option PV
  | [.lst xs] => psort xs
  | _ => none
theorem b_sortedO (hu : X.A.units + 70 < cLine) : CallR X (.builtin "sorted") (rCO (wd X) psL) := by
  intro pins s σ H vs us Q I r h
  obtain ⟨g, c, ps, z, hr, cx, e, fin⟩ := h
  unfold psL at e
  split at e
  rotate_left
  · cases e
  rename_i xs
  obtain ⟨v, rfl, cz⟩ := cx.one
  unfold psort at e
  split at e <;> cases e
  rename_i hcond
  simp only [Bool.and_eq_true, decide_eq_true_eq] at hcond
  obtain ⟨⟨⟨hlen, hdat⟩, hal⟩, hkind⟩ := hcond
  rw [isort_merge hdat hal] at fin
  obtain ⟨a, ws, rfl, ea, ra⟩ := cz.lst hr
  rw [Vals.ref1 r]
  obtain ⟨its, rv, pl, hz⟩ := I.list (SqL.of ea)
  have E1 := each_of rv ra
  have hsm : ∀ p ∈ xs, small 60 p = true := fun p hp => List.all_eq_true.mp hdat p hp
  have er : PySem.W.EachIs (fun u p => ∃ as, Reads s.heap u (toD p) as) its xs := (PySem.W.each_mem E1).mono fun u p ⟨⟨v, rvu, rp⟩, hm⟩ => Dp.reads I (toD p) v u (rp.dp hr 60 (hsm p hm)) rvu
  have hAl : PySem.W.AllAlike (xs.map toD) := fun d hd d' hd' => by
    obtain ⟨p, hp, rfl⟩ := List.mem_map.mp hd
    obtain ⟨q, hq, rfl⟩ := List.mem_map.mp hd'
    exact List.all_eq_true.mp (List.all_eq_true.mp hal p hp) q hq
  have hdep : ∀ p ∈ xs, X.A.units + 2 + (toD p).depth < cLine := fun p hp => by
    have := (small_shape 60 p (hsm p hp)).2
    omega
  have hw := rv.length
  have hle : xs.length ≤ sizeLine := by rw [← each_length E1, ← hw]; exact hz
  have fini : ∀ out : List Value, out.length = xs.length → PySem.W.EachIs (RU (wd X) g) out (xs.mergeSort (PySem.W.dataLe false toD)) → EP X pins σ Q (.ref (s.heap.objs.size + 1)) { s with heap := sortedAll s.heap its out.toArray } := fun out hol ho => by
    obtain ⟨ys, h1, h2⟩ := each_back ho
    have hn : H (s.heap.objs.size + 1) = none := I.hok.fresh (Nat.le_succ _)
    obtain ⟨n, hat⟩ := sortedAll_at s.heap its out.toArray
    have ha : ys.length = out.length := h1.length
    refine ⟨.ref (s.heap.objs.size + 1), upd H (s.heap.objs.size + 1) (.lst ys), I.laid (t' := s.toks) (fun b o q => sortedAll_old q) (Nat.le_succ _) ⟨by rw [ha, hol]; exact hle, out, n, h1, hat⟩, rfl, fin.newL hr h2 _ hn⟩
  by_cases hmix : tupE0 xs = true
  · have er' : PySem.W.EachIs (fun v b => ∃ as, Reads (PySem.W.sortingHeap (PySem.W.copyHeap s.heap its) (s.heap.objs.size + 1) its) v (toD b) as) its xs := er.mono fun _ _ ⟨as, r⟩ => ⟨as, PyProof.Rows.Reads.keeps (fun _ _ => PySem.W.sorting_copy_old) r⟩
    refine PySem.W.sorted_vals pl.isList (sortsMix (s := { s with heap := PySem.W.sortingHeap (PySem.W.copyHeap s.heap its) (s.heap.objs.size + 1) its }) (PySem.W.each_map (R := fun v d => ∃ as, Reads (PySem.W.sortingHeap (PySem.W.copyHeap s.heap its) (s.heap.objs.size + 1) its) v d as) toD er') hAl ?_ ?_ ?_) (by rw [each_length E1]; exact hle) (fini _ (by rw [PySem.W.sortVals_length false rfl]; exact each_length E1) (PySem.W.sortVals_data false E1 er' hAl))
    · unfold tupE0 at hmix
      split at hmix
      · rfl
      · cases hmix
    · intro d hd
      obtain ⟨p, hp, rfl⟩ := List.mem_map.mp hd
      unfold tupE0 at hmix
      split at hmix
      · have ht : isTup p = true := by
          rcases List.mem_cons.mp hp with rfl | hp
          · rfl
          · exact List.all_eq_true.mp hmix p hp
        cases p <;> first | (cases ht; done) | skip
        exact ⟨_, by rw [toD]⟩
      · cases hmix
    · intro d hd
      obtain ⟨p, hp, rfl⟩ := List.mem_map.mp hd
      exact hdep p hp
  · have hk : PySem.W.Sortable (xs.map toD) := by
      rw [Bool.or_eq_true, Bool.or_eq_true] at hkind
      rcases hkind with (hk | hk) | hk
      · refine .inl fun d hd => ?_
        obtain ⟨p, hp, rfl⟩ := List.mem_map.mp hd
        have := List.all_eq_true.mp hk p hp
        unfold tupNE at this
        split at this
        · exact ⟨_, _, by rw [toD, toDs]⟩
        · cases this
      · refine .inr fun d hd => ?_
        obtain ⟨p, hp, rfl⟩ := List.mem_map.mp hd
        have := List.all_eq_true.mp hk p hp
        cases p <;> first | (cases this; done) | (exact ⟨by simp [toD], by simp [toD]⟩)
      · exact absurd hk hmix
    exact PySem.W.sorted_data (enc := toD) pl.isList E1 er hAl hk hle hdep fini
theorem x_callBO {W : WX} {e : Expr} {es : List Expr} {ex : Env → List PV → R (List PV)} {pos p : Pos} {x : Str} {f : List PV → Option PV} {id : String} (hb : CallR X (.builtin id) (rCO (wd X) f)) (k : BOk X x) (hv : bootBuiltins x = some (.builtin id)) (ha : XAb X W (e :: es) ex) (hs : (e :: es).all notStar = true) :
    XO X W (.Call (.Name x p) (e :: es) [] pos) (fun env c => (ex env c).bind fun xs c => pureR (f xs) c) := by
  have hs' := hs
  rw [List.all_cons, Bool.and_eq_true] at hs'
  exact pe_weak (pe_callB hb k.gl k.no hv ha k.nn k.nd (star_cons hs'.1) (star_any hs'.2)) fun σ H Q h => tCB_readO h
theorem b_max3 (hc : X.calm = true) : CallR X (.builtin "max") (rC (wd X) (bltop .max3)) := by
  intro pins s σ H vs us Q I r h
  obtain ⟨g, c, ps, z, hr, cx, e, fin⟩ := h
  unfold bltop at e
  split at e <;> first | (cases e; done) | skip
  all_goals first | contradiction | skip
  rename_i i j k _
  cases cx with
  | cons a b =>
    cases b with
    | cons b d =>
      cases d with
      | cons d n =>
        cases n
        cases e
        have e1 : nuMax3 (.int i) (.int j) (.int k) = some (.int (max i (max j k))) := by
          show ((some (decide (i < j))).map fun c => if c = true then V.int j else V.int i).bind (fun m => nuMax2 m (.int k)) = _
          by_cases h1 : i < j
          · rw [Option.map_some, Option.bind_some, decide_eq_true h1, if_pos rfl]
            show (some (decide (j < k))).map (fun c => if c = true then V.int k else V.int j) = _
            by_cases h2 : j < k
            · rw [Option.map_some, decide_eq_true h2, if_pos rfl]
              congr 2; omega
            · rw [Option.map_some, decide_eq_false h2, if_neg (by decide)]
              congr 2; omega
          · rw [Option.map_some, Option.bind_some, decide_eq_false h1, if_neg (by decide)]
            show (some (decide (i < k))).map (fun c => if c = true then V.int k else V.int i) = _
            by_cases h2 : i < k
            · rw [Option.map_some, decide_eq_true h2, if_pos rfl]
              congr 2; omega
            · rw [Option.map_some, decide_eq_false h2, if_neg (by decide)]
              congr 2; omega
        exact call_max3Nu hc pins s σ H _ us Q I r ⟨_, _, _, _, by rw [a.int, b.int, d.int], e1, fin.here hr (.int _)⟩
end
end PP

set_option Elab.async false
set_option linter.all false
set_option maxRecDepth 100000
/-! PP13f: d[k] = v, d of one's own. -/
namespace PP
open PySem PySem.Spec PyProof.Rows L2
section
variable {prog : Program} {w : World} {A : Around} {E : Value → Shared → Prop} {s : Shared} {K : Type} [DecidableEq K] {knd : HeapKind prog w K}
theorem setItem_keyedH {d a : Addr} {xs : List (K × Addr × Value)} {k : K} {v : Value} {Q : Unit → Shared → Prop} (hu : knd.room A.in1) (hkey : knd.is s.heap k a) (hm : s.heap.DictOfH knd d xs) (hds : (d == sysModules) = false)
    (hQ : ∀ h' tk, h'.DictOfH knd d (storedH xs k a v) → Heap.SameBut d s.heap h' → Q () { s with heap := h', toks := tk }) (hsz : xs.length ≤ sizeLine) :
    wpAny (model prog w) A (setItem (.ref d) (.ref a) v) Q E s := by
  have hT : s.TypeIs (.ref d) "dict" := hm.typeIs
  refine wpAny_holding (wpAny_bind (wpAny_sequenceKey hT (by decide) ?_))
  refine wpAny_bind (wpAny_callSpecial?_slot hT slot_dict_setitem (wpAny_call_entry slot_dict_setitem hT entry_dict_setitem ?_ (args_dict_setitem _ _ _)))
  refine wpAny_bind (wpAny_notOrdered_dict hT ?_)
  show wpAny _ _ (dictSet d (.ref a) v >>= fun _ => ret Value.none) _ _ _
  refine wpAny_bind ?_
  unfold dictSet
  refine wpAny_holding (wpAny_bind (knd.pyHash hu hkey ?_))
  unfold dictSetHashed
  obtain ⟨o, es, ep, ho, hc, hd, he, his, hn⟩ := hm
  refine wpAny_holding (wpAny_bind (wpAny_dictFind_heap hu hkey ho hd he his hn ?_ ?_))
  · intro hno
    have hnot : k ∉ xs.map (·.1) := not_mem_keys_of_get hno
    refine wpAny_bind (wpAny_rule ?_)
    refine wpAny_updateDictKeys (hz := by have e := size_of_entries he; omega) ho hd (wpAny_pure ⟨_, rfl, wpAny_pure (hQ _ _ ⟨_, _, ep + 1, Heap.get?_update_self _ ho (Obj.isFreed_of_dict (Obj.data_mapDictKeys hd _)),
      hc.mapDictKeys _, Obj.data_mapDictKeys hd _, ?_, ?_, ?_⟩ (Heap.SameBut.update ..))⟩)
    · rw [storedH_new (atKey_none_of_get hno)]
      simp [he, entryOfKey]
    · rw [storedH_new (atKey_none_of_get hno)]
      intro x hx
      rcases List.mem_append.mp hx with hx | hx
      · exact knd.keeps (his x hx) ho hd (Heap.SameBut.update ..)
      · simp only [List.mem_singleton] at hx
        subst hx
        exact knd.keeps hkey ho hd (Heap.SameBut.update ..)
    · rw [storedH_new (atKey_none_of_get hno)]
      rw [List.map_append, List.nodup_append]
      refine ⟨hn, by simp, ?_⟩
      intro x hx y hy
      simp only [List.map_cons, List.map_nil, List.mem_singleton] at hy
      subst hy
      exact fun e => hnot (e ▸ hx)
  · intro j p hj
    refine wpAny_bind (wpAny_rule ?_)
    refine wpAny_bind (wpAny_updateDict ho hd ?_)
    refine wpAny_point (wpAny_pure ⟨_, rfl, wpAny_pure (hQ _ _ ⟨_, _, ep, Heap.get?_update_self _ ho (Obj.isFreed_of_dict (Obj.data_mapDict hd _)),
      hc.mapDict _, Obj.data_mapDict hd _, ?_, ?_, ?_⟩ (Heap.SameBut.update ..))⟩)
    · rw [storedH_old (atKey_of_get hn hj)]
      have := modify_map_putAt (entryOfKey knd) (fun e : DictEntry => { e with val := v }) k v (fun _ _ => rfl) hn hj
      rw [← he] at this
      obtain ⟨l⟩ := es
      simpa using this
    · rw [storedH_old (atKey_of_get hn hj)]
      intro x hx
      obtain ⟨y, hy, rfl⟩ := List.mem_map.mp hx
      unfold putAt
      split <;> exact knd.keeps (his y hy) ho hd (Heap.SameBut.update ..)
    · rw [storedH_old (atKey_of_get hn hj)]
      rw [keys_map_putAt]; exact hn
end
section
variable {T : Wd} {g : Gh} {H : Hp} {B : Addr → Prop} {env : Env} {σ : L2.St}
theorem EnvR.mutD (er : EnvR T g H B env σ) {i : Nat} {ps qs : List (PV × PV)} (hi : env[i]? = some (.own (.dic ps))) : ∃ a ob, σ[i]? = some (some (.ref a)) ∧ B a ∧ g.F a = none ∧ g.c ≠ some a ∧ H a = some (objO a ob) ∧ DicR T g a ob ps ∧
    ∀ ob', DicR T g a ob' qs → EnvR T g (upd H a (objO a ob')) B (env.set i (.own (.dic qs))) σ := by
  obtain ⟨a, hs, hb, nf, nc, vs, hv, rv⟩ := er.at_ i _ hi
  have hlt : i < env.length := (List.getElem?_eq_some_iff.mp hi).1
  refine ⟨a, vs, hs, hb, nf, nc, hv, rv, fun ws rws => ⟨by simp [er.len], fun j s hj => ?_, fun j k q r b hj hk sj sk => ?_⟩⟩
  · by_cases h : i = j
    · subst h
      rw [List.getElem?_set_self hlt] at hj
      cases hj
      exact ⟨a, hs, hb, nf, nc, ws, upd_same, rws⟩
    · rw [List.getElem?_set_ne h] at hj
      have q := er.at_ j s hj
      cases s with
      | no => trivial
      | val p => exact q
      | own q' =>
        obtain ⟨b, h1, hb', h2, h3⟩ := q
        exact ⟨b, h1, hb', h2, h3.upd fun z => h (er.inj i j _ q' a hi hj hs (z ▸ h1))⟩
  · have own : ∀ (j : Nat) (q : PV), (List.set env i (Slot.own (PV.dic qs)))[j]? = some (Slot.own q) → ∃ q', env[j]? = some (Slot.own q') := fun j q hj => by
      by_cases h : i = j
      · subst h; exact ⟨_, hi⟩
      · rw [List.getElem?_set_ne h] at hj; exact ⟨_, hj⟩
    obtain ⟨q', hj'⟩ := own j q hj
    obtain ⟨r', hk'⟩ := own k r hk
    exact er.inj j k q' r' b hj' hk' sj sk
end
section
variable {X : Cx} {W : WX} {e key : Expr} {ev ek : Ev} {pos p p2 : Pos}
def rSetD (X : Cx) : TSet := fun o i v H Q => ∃ (a : Addr) (ob : Obj) (g : Gh) (c : List PV) (kvs : List (PV × PV)) (k q : PV), o = .ref a ∧ H a = some (objO a ob) ∧ HR (wd X) g c H ∧ DicR (wd X) g a ob kvs ∧ isKey k = true ∧ Rp (wd X) g i k ∧ Rp (wd X) g v q ∧ kvs.length < LIM ∧
  ∀ ob', DicR (wd X) g a ob' (dput kvs k q) → Q (upd H a (objO a ob'))
theorem set_dic (hu : X.A.units + 70 < cLine) : PSet X (rSetD X) := by
  intro pins s σ H o i v ov iv u Q I ro ri rv h
  obtain ⟨a, ob, g, c, kvs, k, q, rfl, ea, hr, dr, hk, rk, rq, hl, fin⟩ := h
  cases ro
  obtain ⟨xs, rx, hx, nx⟩ := dr.x I hr ea
  obtain ⟨ka, rfl, rfl, hi⟩ := rk.key I hr hk ri
  have hroom : (nestedKind X.prog X.w).room X.A.in1 := by
    show X.A.units + 1 + 8 < cLine
    omega
  refine setItem_keyedH (knd := nestedKind X.prog X.w) hroom hi hx dr.sm (fun h' tk hd' hs => ?_) (by rw [lim_eq, rx.len]; exact Nat.le_of_lt hl)
  obtain ⟨ob', ho, dr'⟩ := DicR.ofX (X := X) dr.sm hd' (rx.put hk rk rv rq nx) (by have := dput_len kvs k q; omega)
  exact ⟨_, d_write (t' := tk) I (by rw [ea]; exact True.intro) hs ⟨_, ho⟩ (objO_new ho), fin ob' dr'⟩
theorem valV_none {kvs : List (Key × V)} {k : Key} (h : ∀ p ∈ kvs, p.1 ≠ k) : valV kvs k = none := by
  unfold valV
  rw [List.find?_eq_none.mpr fun p hp => by simpa using h p hp]
  rfl
theorem EnvR.mutK {T : Wd} {g : Gh} {H : Hp} {B : Addr → Prop} {env : Env} {σ : L2.St} (er : EnvR T g H B env σ) {i : Nat} {ks ks' : List Int} {ps ps' : List PV} (hi : env[i]? = some (.own (.dki ks ps))) : ∃ (a : Addr) (kvs : List (Key × V)), σ[i]? = some (some (.ref a)) ∧ B a ∧ g.F a = none ∧ g.c ≠ some a ∧ H a = some (.dK kvs) ∧ kvs.map (·.1) = ks.map Sum.inl ∧ RpL T g (kvs.map (·.2)) ps ∧
    ∀ kvs' : List (Key × V), kvs'.map (·.1) = ks'.map Sum.inl → RpL T g (kvs'.map (·.2)) ps' → EnvR T g (upd H a (.dK kvs')) B (env.set i (.own (.dki ks' ps'))) σ := by
  obtain ⟨a, hs, hb, nf, nc, vs, hv, kv, rv⟩ := er.at_ i _ hi
  have hlt : i < env.length := (List.getElem?_eq_some_iff.mp hi).1
  refine ⟨a, vs, hs, hb, nf, nc, hv, kv, rv, fun ws kws rws => ⟨by simp [er.len], fun j s hj => ?_, fun j k q r b hj hk sj sk => ?_⟩⟩
  · by_cases h : i = j
    · subst h
      rw [List.getElem?_set_self hlt] at hj
      cases hj
      exact ⟨a, hs, hb, nf, nc, ws, upd_same, kws, rws⟩
    · rw [List.getElem?_set_ne h] at hj
      have q := er.at_ j s hj
      cases s with
      | no => trivial
      | val p => exact q
      | own q' =>
        obtain ⟨b, h1, hb', h2, h3⟩ := q
        exact ⟨b, h1, hb', h2, h3.upd fun z => h (er.inj i j _ q' a hi hj hs (z ▸ h1))⟩
  · have own : ∀ (j : Nat) (q : PV), (List.set env i (Slot.own (PV.dki ks' ps')))[j]? = some (Slot.own q) → ∃ q', env[j]? = some (Slot.own q') := fun j q hj => by
      by_cases h : i = j
      · subst h; exact ⟨_, hi⟩
      · rw [List.getElem?_set_ne h] at hj; exact ⟨_, hj⟩
    obtain ⟨q', hj'⟩ := own j q hj
    obtain ⟨r', hk'⟩ := own k r hk
    exact er.inj j k q' r' b hj' hk' sj sk
def rSetK (X : Cx) : TSet := fun o i v H Q => ∃ (a : Addr) (kvs : List (Key × V)) (n : Int), o = .ref a ∧ H a = some (.dK kvs) ∧ i = .int n ∧ valV kvs (.inl n) = none ∧ kvs.length < LIM ∧ Q (upd H a (.dK (kvs ++ [(.inl n, v)])))
theorem set_dki (hu : X.A.units + 70 < cLine) : PSet X (rSetK X) := by
  intro pins s σ H o i v ov iv u Q I ro ri rv h
  obtain ⟨a, kvs, n, rfl, ea, rfl, hv, hl, fin⟩ := h
  cases ro
  refine d_setItem (by omega) I (DPut.k (k := .inl n) ea (by rw [lim_eq]; exact hl)) ri rv fun s' I' => ⟨_, I', ?_⟩
  rw [putK_new v hv]
  exact fin
def rSetA (X : Cx) : TSet := fun o i v H Q => rSetD X o i v H Q ∨ rSetK X o i v H Q
theorem set_any (hu : X.A.units + 70 < cLine) : PSet X (rSetA X) := by
  intro pins s σ H o i v ov iv u Q I ro ri rv h
  rcases h with h | h
  · exact set_dic hu pins s σ H o i v ov iv u Q I ro ri rv h
  · exact set_dki hu pins s σ H o i v ov iv u Q I ro ri rv h
def setDR (i : Nat) (ek ev : Ev) : EvS := fun env c => (ev env c).st env fun v c => match env[i]? with
    | some (.own (.dic kvs)) => (ek env c).st env fun k c => if isKey k && decide (kvs.length < LIM) then .nx (env.set i (.own (.dic (dput kvs k v)))) c else .stuck
    | some (.own (.dki ks vs)) => (ek env c).st env fun k c => (match k with
      | .int n => if decide (n ∉ ks) && decide (ks.length < LIM) then .nx (env.set i (.own (.dki (ks ++ [n]) (vs ++ [v])))) c else .stuck
      | _ => .stuck)
    | _ => .stuck
theorem xs_setD {i : Nat} {x : Str} (hu : X.A.units + 70 < cLine) (hx : L2.PE X (.Name x p) (tVar i)) (hk : XE' X W key ek) (he : XE' X W e ev) (hns : ∀ lo hi st q, key ≠ .Slice lo hi st q) (hs : swapsWithSole [.Subscript (.Name x p) key p2] e pos.line X.env = pure false) :
    XS X W (.Assign [.Subscript (.Name x p) key p2] e pos) (setDR i ek ev) := by
  refine ps_weak (ps_asg he (pg_sub hx hk (set_any hu) (fun v => by cases key <;> first | rfl | exact absurd rfl (hns _ _ _ _))) hs rfl rfl) fun D σ H ⟨g0, H0, g, env, c, er, hr, p0, gd⟩ => ?_
  unfold setDR at gd
  refine ⟨g, env, c, _, er, hr, (ev_st er p0 gd).mono fun v g1 c1 H1 _ _ ⟨er1, h1, p1, pr, k⟩ w rw' => ?_⟩
  split at k
  · rename_i kvs hi
    obtain ⟨a, ob, hsl, ha, nf, nc, hv, dr, _⟩ := er1.mutD (qs := kvs) hi
    refine ⟨.ref a, hsl, ?_⟩
    refine ⟨g1, env, c1, _, er1, h1, (ev_st er1 p1 k).mono fun y g2 c2 H2 _ _ ⟨er2, h2, p2, pr2, k2⟩ u ru => ?_⟩
    split at k2
    · rename_i hc
      rw [Bool.and_eq_true, decide_eq_true_eq] at hc
      obtain ⟨a', ob', hsl', ha', nf', nc', hv', dr', er3⟩ := er2.mutD (qs := dput kvs y v) hi
      rw [hsl] at hsl'; cases hsl'
      exact .inl ⟨a, ob', g2, c2, kvs, y, v, rfl, hv', h2, dr', hc.1, ru, rw'.ext pr2.ext, hc.2, fun ob2 d2 => k2 g2 _ σ (er3 ob2 d2) (h2.write nf' nc' (.dicR hv' dr')) (p2.write ha' hv') Ext.refl⟩
    · exact k2.elim
  · rename_i ks vs hi
    obtain ⟨a, kvs, hsl, ha, nf, nc, hv, kv, rv, _⟩ := er1.mutK (ks' := ks) (ps' := vs) hi
    refine ⟨.ref a, hsl, ?_⟩
    refine ⟨g1, env, c1, _, er1, h1, (ev_st er1 p1 k).mono fun y g2 c2 H2 _ _ ⟨er2, h2, p2, pr2, k2⟩ u ru => ?_⟩
    cases y with
    | int n =>
      simp only at k2
      split at k2
      · rename_i hc
        rw [Bool.and_eq_true, decide_eq_true_eq, decide_eq_true_eq] at hc
        obtain ⟨a', kvs', hsl', ha', nf', nc', hv', kv', rv', er3⟩ := er2.mutK (ks' := ks ++ [n]) (ps' := vs ++ [v]) hi
        rw [hsl] at hsl'; cases hsl'
        have hu' : u = .int n := by cases ru; rfl
        subst hu'
        have hlen : kvs'.length = ks.length := by
          have e1 := congrArg List.length kv'
          rwa [List.length_map, List.length_map] at e1
        have hnone : valV kvs' (.inl n) = none := by
          refine valV_none fun p hp e => hc.1 ?_
          have hm : p.1 ∈ kvs'.map (·.1) := List.mem_map.mpr ⟨p, hp, rfl⟩
          rw [kv', e] at hm
          obtain ⟨n', hn', e'⟩ := List.mem_map.mp hm
          cases e'
          exact hn'
        refine .inr ⟨a, kvs', n, rfl, hv', rfl, hnone, by rw [hlen]; exact hc.2, k2 g2 _ σ (er3 _ ?_ ?_) (h2.write nf' nc' (.dK hv')) (p2.write ha' hv') Ext.refl⟩
        · rw [List.map_append, List.map_append, kv']; rfl
        · rw [List.map_append]
          exact rv'.append (.cons (rw'.ext pr2.ext) .nil)
      · exact k2.elim
    | _ => exact k2.elim
  · exact k.elim
def rSetU (X : Cx) : TSet := fun o i v H Q => ∃ (a : Addr) (kvs : List (Key × V)) (n : Int), o = .ref a ∧ H a = some (.dK kvs) ∧ i = .int n ∧ kvs.length < LIM ∧ Q (upd H a (.dK (putK kvs (.inl n) v)))
theorem set_upd (hu : X.A.units + 70 < cLine) : PSet X (rSetU X) := by
  intro pins s σ H o i v ov iv u Q I ro ri rv h
  obtain ⟨a, kvs, n, rfl, ea, rfl, hl, fin⟩ := h
  cases ro
  exact d_setItem (by omega) I (DPut.k (k := .inl n) ea (by rw [lim_eq]; exact hl)) ri rv fun s' I' => ⟨_, I', fin⟩
theorem putI_mem {ks : List Int} {vs : List PV} {n : Int} {v : PV} (h : n ∈ ks) : (putI ks vs n v).1 = ks := by
  unfold putI
  rw [if_pos h]
def swpR (i k l : Nat) (ev : Ev) : EvS := fun env c => (ev env c).st env fun v c => match env[i]?, varv env k, varv env l, v with
    | some (.own (.dki ks vs)), some (.int m), some (.int n), .tup [v, w] => if decide (m ∈ ks) && decide (n ∈ ks) && decide (ks.length < LIM) then .nx (env.set i (.own (.dki (putI (putI ks vs m v).1 (putI ks vs m v).2 n w).1 (putI (putI ks vs m v).1 (putI ks vs m v).2 n w).2))) c else .stuck
    | _, _, _, _ => .stuck
/-- d[k], d[l] = v, w -/
theorem xs_swpD {i k l : Nat} {x x2 : Str} {y z : Str} {q2 q3 q4 q5 q6 pt : Pos} {kt : Nat} (hc : X.calm = true) (hu : X.A.units + 70 < cLine) (hx : L2.PE X (.Name x p) (tVar i)) (hx2 : L2.PE X (.Name x2 q2) (tVar i)) (hk : L2.PE X (.Name y q3) (tVar k)) (hl : L2.PE X (.Name z q4) (tVar l)) (he : XE' X W e ev)
    (hs : swapsWithSole [.Tuple [.Subscript (.Name x p) (.Name y q3) q5, .Subscript (.Name x2 q2) (.Name z q4) q6] kt pt] e pos.line X.env = pure false) (hw : swappedStores [.Tuple [.Subscript (.Name x p) (.Name y q3) q5, .Subscript (.Name x2 q2) (.Name z q4) q6] kt pt] e X.env = pure none) :
    XS X W (.Assign [.Tuple [.Subscript (.Name x p) (.Name y q3) q5, .Subscript (.Name x2 q2) (.Name z q4) q6] kt pt] e pos) (swpR i k l ev) := by
  refine ps_weak (ps_asg he (pg_tup (n := 2) hc (pgs_cons (pg_sub hx hk (set_upd hu)) (pgs_cons (pg_sub hx2 hl (set_upd hu)) pgs_nil))) hs hw rfl) fun D σ H ⟨g0, H0, g, env, c, er, hr, p0, gd⟩ => ?_
  unfold swpR at gd
  refine ⟨g, env, c, _, er, hr, (ev_st er p0 gd).mono fun v g1 c1 H1 _ _ ⟨er1, h1, p1, pr, kk⟩ w rw' => ?_⟩
  split at kk
  · rename_i ks vs m n v1 w1 hi hm hn hve
    split at kk
    · rename_i hcnd
      simp only [Bool.and_eq_true, decide_eq_true_eq] at hcnd
      obtain ⟨⟨m1, m2⟩, m3⟩ := hcnd
      obtain ⟨a, kvs, hsl, ha, nf, nc, hv, kv, rv, er3⟩ := er1.mutK (ks' := (putI (putI ks vs m v1).1 (putI ks vs m v1).2 n w1).1) (ps' := (putI (putI ks vs m v1).1 (putI ks vs m v1).2 n w1).2) hi
      have sl : ∀ {j : Nat} {q : Int}, varv env j = some (.int q) → σ[j]? = some (some (.int q)) := fun {j q} h => by
        unfold varv at h
        split at h <;> cases h
        rename_i hh
        obtain ⟨u, u1, u2⟩ := er1.at_ j _ hh
        cases u2
        exact u1
      have rk : RK (wd X) g1 kvs ks vs := ⟨kv, rv⟩
      cases rw' with
      | @tup t us _ et rt =>
        cases rt with
        | @cons u1 _ us' _ r1 rt =>
          cases rt with
          | @cons u2 _ us'' _ r2 rt =>
            cases rt
            have rk1 := rk.put (n := m) r1
            have rk2 := rk1.put (n := n) r2
            refine ⟨t, [u1, u2], rfl, h1.sqT et, rfl, u1, [u2], rfl, .ref a, hsl, .int m, sl hm, a, kvs, m, rfl, hv, rfl, by rw [rk.len]; exact m3, u2, [], rfl, .ref a, hsl, .int n, sl hn, a, _, n, rfl, upd_same, rfl, by rw [rk1.len, putI_mem m1]; exact m3, rfl, ?_⟩
            rw [upd_upd]
            exact kk g1 _ σ (er3 _ rk2.1 rk2.2) (h1.write nf nc (.dK hv)) (p1.write ha hv) Ext.refl
    · exact kk.elim
  · exact kk.elim
end
end PP

set_option Elab.async false
set_option linter.all false
set_option maxRecDepth 100000
set_option maxHeartbeats 2000000
/-! PP13g: a def that calls what it is given, and tells by a text what was raised. -/
namespace PP
open PySem PySem.Spec PyProof.Rows L2

/-! ### the look at its text -/
def hdText : ExceptHandler → Option Str
  | .ExceptHandler _ none [.Return (some (.Constant (.str s) _ _)) _] _ => some s
  | _ => none
def hdClass : ExceptHandler → Option Str
  | .ExceptHandler (some (.Name x _)) _ _ _ => some x
  | _ => none
/-- except X as n: return '..' + str(n.limit) -/
def hdLim : ExceptHandler → Option (Str × Str)
  | .ExceptHandler _ (some n) [.Return (some (.BinOp (.Constant (.str p) _ _) .Add (.Call (.Name f _) [.Attribute (.Name n' _) a _] [] _) _)) _] _ => if n' = n ∧ f = ("str" : Str) ∧ a = ("limit" : Str) then some (n, p) else none
  | _ => none
def clsGl (sg : Scope) (x : Str) : Bool := decide (sg.names.lookup x = some .globalImplicit) && !(x == ("__debug__" : Str))
def limB (N : List Str) (sg : Scope) (p : Str) (h : ExceptHandler) : Bool := match hdLim h with
  | some (n, p') => decide (p' = p) && decide (n ∈ N) && decide (sg.names.lookup n = some .local) && clsGl sg "str" && !(n == ("__debug__" : Str)) && !(n == ("__classdict__" : Str))
  | none => false
def hdsB (N : List Str) (sg : Scope) : List (Str × Option Str) → List ExceptHandler → Bool
  | [], [] => true
  | (x, v) :: r, h :: hs => decide (hdClass h = some x) && clsGl sg x && (match v with
    | some s => (match cutMark s with
      | none => decide (hdText h = some s)
      | some p => limB N sg p h)
    | none => true) && hdsB N sg r hs
  | _, _ => false
def visB (sg : Scope) (a : Str) : Bool := decide (sg.names.lookup a = some .local) && !(a == ("__debug__" : Str)) && !(a == ("__classdict__" : Str))
def toldB (hs : List (Str × Option Str)) (v a : Str) (N : List Str) (sg : Scope) (bg : List Stmt) : Bool := match bg with
  | [.Try [.Expr (.Call (.Name a' _) [] [] _) _] (h0 :: hds) [] [] _, .Return (some (.Constant (.str s') _ _)) _] => decide (a' = a) && decide (s' = v) && hdsB N sg hs (h0 :: hds) && visB sg a
  | _ => false
theorem hdClass_eq {h : ExceptHandler} {x : Str} (e : hdClass h = some x) : ∃ p nm b q, h = .ExceptHandler (some (.Name x p)) nm b q := by
  unfold hdClass at e
  split at e
  · cases e; exact ⟨_, _, _, _, rfl⟩
  · cases e
theorem hdText_eq {h : ExceptHandler} {s : Str} (e : hdText h = some s) : ∃ t j p q r, h = .ExceptHandler t none [.Return (some (.Constant (.str s) j p)) q] r := by
  unfold hdText at e
  split at e
  · cases e; exact ⟨_, _, _, _, _, rfl⟩
  · cases e
theorem hdLim_eq {h : ExceptHandler} {n p : Str} (e : hdLim h = some (n, p)) : ∃ t j q1 q2 q3 q4 q5 q6 q7 r, h = .ExceptHandler t (some n) [.Return (some (.BinOp (.Constant (.str p) j q1) .Add (.Call (.Name "str" q2) [.Attribute (.Name n q3) "limit" q4] [] q5) q6)) q7] r := by
  unfold hdLim at e
  split at e
  · split at e
    · rename_i hh
      obtain ⟨rfl, rfl, rfl⟩ := hh
      cases e
      exact ⟨_, _, _, _, _, _, _, _, _, _, rfl⟩
    · cases e
  · cases e
theorem visB_of {hs : List (Str × Option Str)} {v a : Str} {N : List Str} {sg : Scope} {bg : List Stmt} (h : toldB hs v a N sg bg = true) : sg.names.lookup a = some .local ∧ (a == ("__debug__" : Str)) = false ∧ (a == ("__classdict__" : Str)) = false := by
  unfold toldB at h
  split at h
  · rw [Bool.and_eq_true] at h
    have h2 := h.2
    unfold visB at h2
    rw [Bool.and_eq_true, Bool.and_eq_true, Bool.not_eq_true', Bool.not_eq_true'] at h2
    exact ⟨of_decide_eq_true h2.1.1, h2.1.2, h2.2⟩
  · cases h
/-! ### the clauses, one behind the other -/
/-- the clauses' classes (as they stand), their answers -/
abbrev HL : Type := List (Value × Option Str)
/-- what a clause's text tells of an error: the text alone, or the text and the number kept -/
def tellX (K : PySem.W.Frag) (R : Str → Hp → Prop) (s : Str) (cls : Value) (d : Option Addr) (H : Hp) : Prop := match cutMark s with
  | none => R s H
  | some p => ∃ C dd n, cls = .ref C ∧ XfC K C ∧ PySem.W.findIn K (.ref C) "limit" = some none ∧ d = some dd ∧ H dd = some (.xd [(("limit" : Str), .int n)]) ∧ okLim n = true ∧ p.length ≤ 400 ∧ R (p ++ ((toString n : String) : Str)) H
def wTold (K : PySem.W.Frag) (R : Str → Hp → Prop) : HL → WX
  | [] => fun _ _ _ _ => False
  | (c, r) :: t => fun cls d σ H => ∃ b, PySem.W.exmOne K cls c = some b ∧ (b = true → match r with
    | some s => tellX K R s cls d H
    | none => False) ∧ (b = false → wTold K R t cls d σ H)
inductive HdsT (X : Cx) : List ExceptHandler → HL → Prop
  | nil : HdsT X [] []
  | txt {x s : Str} {c : Value} {j : Nat} {p1 p2 p3 p4 : Pos} {hds : List ExceptHandler} {l : HL} (hc : Names X x c) (hcut : cutMark s = none) (r : HdsT X hds l) :
      HdsT X (.ExceptHandler (some (.Name x p1)) none [.Return (some (.Constant (.str s) j p2)) p3] p4 :: hds) ((c, some s) :: l)
  | lim {x n s p : Str} {c : Value} {i j : Nat} {p1 p4 q1 q2 q3 q4 q5 q6 q7 : Pos} {hds : List ExceptHandler} {l : HL} (hc : Names X x c) (hcut : cutMark s = some p) (hN : X.N.Nodup) (hi : X.N[i]? = some n) (hln : X.env.kindOf n = some .local) (hs1 : Gl X "str") (hs2 : X.mg "str" = none)
      (n1 : (n == ("__debug__" : Str)) = false) (n2 : (n == ("__classdict__" : Str)) = false) (r : HdsT X hds l) :
      HdsT X (.ExceptHandler (some (.Name x p1)) (some n) [.Return (some (.BinOp (.Constant (.str p) j q1) .Add (.Call (.Name "str" q2) [.Attribute (.Name n q3) "limit" q4] [] q5) q6)) q7] p4 :: hds) ((c, some s) :: l)
  | oth {x : Str} {c : Value} {nm : Option Str} {b : List Stmt} {p1 p4 : Pos} {hds : List ExceptHandler} {l : HL} (hc : Names X x c) (r : HdsT X hds l) :
      HdsT X (.ExceptHandler (some (.Name x p1)) nm b p4 :: hds) ((c, none) :: l)
section
variable {X : Cx} {body : List Stmt} {h₀ : ExceptHandler} {hds : List ExceptHandler} {l : HL} {pos : Pos} {tb : WX → TS}
/-- try: body / except ..: return '..' / .. -/
theorem ps_told (hs : X.stack = X.env :: X.outer) (hf : X.env.frame = some X.env.locals)
    (hb : ∀ (W : WX) (pn : List (Addr × Obj)) (xe : Value → Shared → Prop), Takes (X.tr pn xe) W → PSs (X.tr pn xe) body (tb W)) (hh : HdsT X (h₀ :: hds) l) :
    PS X (.Try body (h₀ :: hds) [] [] pos) (fun D σ H => tb (wTold X.K (fun s H' => D.rt (.str s) H') l) D σ H) := by
  constructor
  intro pins s σ H D I h
  have ok := I.ok
  have hfr : X.A.frames = some (X.env :: X.outer) := by rw [ok.frames, hs]
  -- a clause is looked for
  have seek : ∀ {a : Addr} {B : Heap} {s3 : Shared} {σ' : L2.St} {H' : Hp} {cls : Value} {d : Option Addr} {sI : Shared} {up0 : Shared}, Inv X pins σ' H' sI → (∀ b o, sI.heap.get? b = some o → b ∉ frs X.stack → B.get? b = some o) → sI.heap.UpToSlots up0.heap → up0.heap.UpToSlots s3.heap → s3.os = sI.os → AllBare s3.gens →
      HandSPX.FlyingZ B (X.env :: X.outer) a (Zc cls d) s3.heap → H' a = none → a ≠ X.env.locals → a ∉ X.fs →
      ∀ {hds' : List ExceptHandler} {l' : HL}, HdsT X hds' l' → wTold X.K (fun s H' => D.rt (.str s) H') l' cls d σ' H' → wpAny (model X.prog X.w) X.A (handleBy (.ref a) X.env hds') (SP X pins D) X.xe s3 := by
    intro a B s3 σ' H' cls d sI up0 J nb up up3 os ag fl3 na nL nF hds' l' hk
    have J3 : Inv X pins σ' H' s3 := J.landed nb fl3.1 (up.trans up3) os ag
    obtain ⟨oe3, vs3, he3, hz3, hd3⟩ := fl3.there
    have S3 := J3.suite he3 hd3 na nL nF
    have LT : PySem.W.Looks (model X.prog X.w) s3.heap (typeOf (.ref a)) cls := fun A Q E s k q => wpAny_typeOf_ref (k _ _ he3) (by rw [hz3.1]; exact q)
    have look : ∀ {x : Str} {c : Value} {np : Pos} {Q E : Value → Shared → Prop}, Names X x c → Q c s3 → wpAny (model X.prog X.w) (X.A.mark (some (.ref a))) (eval (.Name x np) X.env) Q E s3 := by
      intro x c np Q E hc q
      obtain ⟨hg, hdbg, hm | ⟨hm, hv, hnn⟩⟩ := hc
      · exact ld_glob (X := X.suite a ((a, oe3) :: (X.pn ++ pins))) S3 hg hm q hdbg
      · exact ld_blt (X := X.suite a ((a, oe3) :: (X.pn ++ pins))) S3 hg hm hv q hnn hdbg
    induction hk with
    | nil => intro w; exact w.elim
    | @lim x n s p c i j p1 p4 q1 q2 q3 q4 q5 q6 q7 hds2 l2 hc hcut hN hi hln hs1 hs2 n1 n2 r ih =>
      rintro ⟨b, hb1, hyes, hno⟩
      refine wpAny_handleBy_cons (codeAny_handlers_test ?_) (by intro q; cases q)
      have LM := PySem.W.exm_one (M := model X.prog X.w) J3.kIn LT hb1
      refine look hc (LM.here ?_)
      cases b with
      | false => exact ih (hno rfl)
      | true =>
        have hy := hyes rfl
        unfold tellX at hy
        simp only [hcut] at hy
        obtain ⟨C, dd, nn, ec, hXf, hfi, ed, eH, hlim, hpl, hR⟩ := hy
        refine codeAny_handlers_suite_as ?_
        refine HandSPX.lands_againZ fl3 fun h4 fl4 up4 => ?_
        have J4 : Inv X pins σ' H' { s3 with heap := h4 } := J.landed nb fl4.1 ((up.trans up3).trans up4) os ag
        obtain ⟨oe4, vs4, he4, hz4, hd4⟩ := fl4.there
        have S4 := J4.suite he4 hd4 na nL nF
        refine store_ok (X := X.suite a ((a, oe4) :: (X.pn ++ pins))) (v := .ref a) S4 hN hi (.inl hln) rfl (fun s5 S5 => ?_) (.inr hln)
        have hlen := S4.len
        have hil : i < σ'.length := by
          rw [hlen]
          exact (List.getElem?_eq_some_iff.mp hi).1
        have body : PSs (X.suite a ((a, oe4) :: (X.pn ++ pins))) [.Return (some (.BinOp (.Constant (.str p) j q1) .Add (.Call (.Name "str" q2) [.Attribute (.Name n q3) "limit" q4] [] q5) q6)) q7] _ :=
          pss_one (ps_ret (pe_op op_add_str pe_str (pe_callTy call_str_int hs1 hs2 (by first | rfl | kernel_rfl) (pa_cons (pe_xf hXf hfi hz4 ⟨_, hd4⟩ (pe_var hi (.inl hln) n1 n2)) pa_nil))))
        have hlim1 : nn.natAbs.log2 < 1920 := by
          unfold okLim at hlim
          rw [Bool.and_eq_true] at hlim
          exact of_decide_eq_true hlim.1
        have hlim2 : p.length + (((toString nn : String) : Str)).length ≤ sizeLine := by
          unfold okLim at hlim
          rw [Bool.and_eq_true] at hlim
          have := of_decide_eq_true hlim.2
          rw [sizeLine_eq]
          omega
        refine wpAny_mono (body.run [] s5 _ H' { D with nx := fun _ _ => False, bk := fun _ _ => False, ct := fun _ _ => False } S5 ⟨.ref a, by rw [List.getElem?_set_self hil], rfl, ec, dd, _, .int nn, ed, eH, by rw [List.lookup_cons]; simp, nn, rfl, hlim1, p, _, rfl, rfl, hlim2, hR⟩) (fun f s6 hsp => ?_) (fun _ _ z => False.elim z)
        cases f with
        | ret u =>
          obtain ⟨v6, σ6, H6, S6, r6, q6⟩ := hsp
          exact gone_ok (S6.unsuite ok) hN hi hln fun s7 J7 => ⟨_, _, _, J7, r6, q6⟩
        | next => obtain ⟨_, _, _, q6⟩ := hsp; exact q6.elim
        | brk => obtain ⟨_, _, _, q6⟩ := hsp; exact q6.elim
        | cont => obtain ⟨_, _, _, q6⟩ := hsp; exact q6.elim
    | @txt x s c j p1 p2 p3 p4 hds2 l2 hc hcut r ih =>
      rintro ⟨b, hb1, hyes, hno⟩
      refine wpAny_handleBy_cons (codeAny_handlers_test ?_) (by intro q; cases q)
      have LM := PySem.W.exm_one (M := model X.prog X.w) J3.kIn LT hb1
      refine look hc (LM.here ?_)
      cases b with
      | false => exact ih (hno rfl)
      | true =>
        have hy := hyes rfl
        unfold tellX at hy
        simp only [hcut] at hy
        refine codeAny_handlers_suite (HandSPX.lands_againZ fl3 fun h4 fl4 up4 => ?_)
        have J4 : Inv X pins σ' H' { s3 with heap := h4 } := J.landed nb fl4.1 ((up.trans up3).trans up4) os ag
        obtain ⟨oe4, vs4, he4, hz4, hd4⟩ := fl4.there
        have S4 := J4.suite he4 hd4 na nL nF
        have ret : PSs (X.suite a ((a, oe4) :: (X.pn ++ pins))) [.Return (some (.Constant (.str s) j p2)) p3] (tRet (tC (.str s))) := pss_one (ps_ret pe_str)
        refine wpAny_mono (ret.run [] _ _ H' { D with nx := fun _ _ => False, bk := fun _ _ => False, ct := fun _ _ => False } S4 hy) (fun f s6 hsp => ?_) (fun _ _ z => False.elim z)
        cases f with
        | ret u => obtain ⟨v6, σ6, H6, S6, r6, q6⟩ := hsp; exact ⟨_, _, _, S6.unsuite ok, r6, q6⟩
        | next => obtain ⟨_, _, _, q6⟩ := hsp; exact q6.elim
        | brk => obtain ⟨_, _, _, q6⟩ := hsp; exact q6.elim
        | cont => obtain ⟨_, _, _, q6⟩ := hsp; exact q6.elim
    | @oth x c nm b' p1 p4 hds2 l2 hc r ih =>
      rintro ⟨b, hb1, hyes, hno⟩
      refine wpAny_handleBy_cons (codeAny_handlers_test ?_) (by intro q; cases q)
      have LM := PySem.W.exm_one (M := model X.prog X.w) J3.kIn LT hb1
      refine look hc (LM.here ?_)
      cases b with
      | true => exact (hyes rfl).elim
      | false => exact ih (hno rfl)
  refine wpAny_Try_except ?_
  refine wpAny_mono ((hb (wTold X.K (fun s H' => D.rt (.str s) H') l) (X.pn ++ pins) (fun e s₁ => wpAny (model X.prog X.w) X.A (noteFrame e X.env) (fun _ s₂ => wpAny (model X.prog X.w) X.A (setFlight e none) (fun _ s₃ =>
    wpAny (model X.prog X.w) X.A (handleBy e X.env (h₀ :: hds)) (SP X pins D) X.xe s₃) X.xe s₂) X.xe s₁) fun u s' xx => ?_).run [] s σ H D (I.toTry _) h) (fun f s1 hsp => ?_) (fun e s1 he => he)
  · obtain ⟨a, B, sI, pins', σ', H', cls, d, rfl, J', nb, up, sky, na, os, ag, w⟩ := xx
    have J : Inv X pins σ' H' sI := J'.ofTry ok
    have sky' : Sky B (X.env :: X.outer) a (Zc cls d) X.env.locals s'.heap := by rw [← hs]; exact sky
    refine Sky.land Zc.steady hfr hf sky' fun h3 fl3 up3 => ?_
    obtain ⟨oe3, vs3, he3, hz3, hd3⟩ := fl3.there
    have nfr : a ∉ frs (X.env :: X.outer) := fun hm => by
      obtain ⟨_, o', e', hnf⟩ := fl3.2.2.1.mem hm
      rw [he3] at e'
      cases e'
      exact hnf _ hd3
    have nL : a ≠ X.env.locals := fun z => nfr (List.mem_filterMap.mpr ⟨X.env, List.mem_cons_self, by rw [hf, z]⟩)
    have nF : a ∉ X.fs := fun hm => by
      obtain ⟨e, he, q⟩ := List.mem_filterMap.mp hm
      exact nfr (List.mem_filterMap.mpr ⟨e, List.mem_cons_of_mem _ he, q⟩)
    exact seek (s3 := { s' with heap := h3 }) (up0 := s') J nb up up3 os ag fl3 na nL nF hh w
  · cases f with
    | next => obtain ⟨σ', H', J', q⟩ := hsp; exact wpAny_execs_nil ⟨σ', H', J'.ofTry ok, q⟩
    | brk => obtain ⟨σ', H', J', q⟩ := hsp; exact ⟨σ', H', J'.ofTry ok, q⟩
    | cont => obtain ⟨σ', H', J', q⟩ := hsp; exact ⟨σ', H', J'.ofTry ok, q⟩
    | ret u => obtain ⟨v, σ', H', J', r, q⟩ := hsp; exact ⟨v, σ', H', J'.ofTry ok, r, q⟩
end
section
variable {X : Cx} {body : List Stmt} {h₀ : ExceptHandler} {hds : List ExceptHandler} {pos : Pos} {tb : WX → TS}
/-- a try in which nothing is raised -/
theorem ps_try0 (hs : X.stack = X.env :: X.outer) (hf : X.env.frame = some X.env.locals)
    (hb : ∀ (W : WX) (pn : List (Addr × Obj)) (xe : Value → Shared → Prop), Takes (X.tr pn xe) W → PassesOwn (model X.prog X.w) X.A X.env xe → PSs (X.tr pn xe) body (tb W)) : PS X (.Try body (h₀ :: hds) [] [] pos) (fun D σ H => tb (fun _ _ _ _ => False) D σ H) := by
  constructor
  intro pins s σ H D I h
  have ok := I.ok
  refine wpAny_Try_except ?_
  refine wpAny_mono ((hb (fun _ _ _ _ => False) (X.pn ++ pins) (fun e s₁ => wpAny (model X.prog X.w) X.A (noteFrame e X.env) (fun _ s₂ => wpAny (model X.prog X.w) X.A (setFlight e none) (fun _ s₃ =>
    wpAny (model X.prog X.w) X.A (handleBy e X.env (h₀ :: hds)) (SP X pins D) X.xe s₃) X.xe s₂) X.xe s₁) (fun u s' xx => ?_) PassesOwn.looking).run [] s σ H D (I.toTry _) h) (fun f s1 hsp => ?_) (fun e s1 he => he)
  · obtain ⟨a, B, sI, pins', σ', H', cls, d, rfl, J', nb, up, sky, na, os, ag, w⟩ := xx
    exact w.elim
  · cases f with
    | next => obtain ⟨σ', H', J', q⟩ := hsp; exact wpAny_execs_nil ⟨σ', H', J'.ofTry ok, q⟩
    | brk => obtain ⟨σ', H', J', q⟩ := hsp; exact ⟨σ', H', J'.ofTry ok, q⟩
    | cont => obtain ⟨σ', H', J', q⟩ := hsp; exact ⟨σ', H', J'.ofTry ok, q⟩
    | ret u => obtain ⟨v, σ', H', J', r, q⟩ := hsp; exact ⟨v, σ', H', J'.ofTry ok, r, q⟩
end
/-! ### the def given the lambda -/
/-- what it makes of the lambda's reading -/
def TTx (K : PySem.W.Frag) (l : HL) (v : Str) : (XK → Hp → VK → Prop) → Hp → VK → Prop := fun tl H Q =>
  tl (fun cls d H' => wTold K (fun s H'' => Q (.str s) H'') l cls d [] H') H fun _ H' => Q (.str v) H'
theorem wTold_st {K : PySem.W.Frag} {R : Str → Hp → Prop} : ∀ {l : HL} {cls : Value} {d : Option Addr} {σ σ' : L2.St} {H : Hp}, wTold K R l cls d σ H → wTold K R l cls d σ' H
  | [], _, _, _, _, _, h => h.elim
  | (c, r) :: t, cls, d, σ, σ', H, ⟨b, h1, h2, h3⟩ => ⟨b, h1, h2, fun z => wTold_st (h3 z)⟩
def HLof (mg : MG) (hs : List (Str × Option Str)) : HL := hs.map fun q => ((mg q.1).getD .none, q.2)
def limQ (v : Option Str) : Bool := match v with
  | some s => (cutMark s).isSome
  | none => false
theorem hds_of {Y : Cx} {sg : Scope} (hsc : Y.env.scope = sg) (hN : Y.N.Nodup) : ∀ {hs : List (Str × Option Str)} {hds : List ExceptHandler}, hdsB Y.N sg hs hds = true → (∀ q ∈ hs, ∃ C, Y.mg q.1 = some (.ref C)) → (∀ q ∈ hs, limQ q.2 = true → Y.mg "str" = none) → HdsT Y hds (HLof Y.mg hs)
  | [], [], _, _, _ => .nil
  | [], _ :: _, h, _, _ => by cases h
  | _ :: _, [], h, _, _ => by cases h
  | (x, v) :: r, hd :: hds, h, hm, hq => by
    simp only [hdsB, Bool.and_eq_true, decide_eq_true_eq] at h
    obtain ⟨⟨⟨h1, h2⟩, h3⟩, h4⟩ := h
    have H1 := hds_of hsc hN h4 (fun q hq => hm q (List.mem_cons_of_mem _ hq)) (fun q hm => hq q (List.mem_cons_of_mem _ hm))
    obtain ⟨C, hC⟩ := hm _ List.mem_cons_self
    have gl : ∀ {z : Str}, clsGl sg z = true → Gl Y z ∧ (z == ("__debug__" : Str)) = false := fun {z} h2 => by
      have h2 : (decide (sg.names.lookup z = some .globalImplicit) && !(z == ("__debug__" : Str))) = true := h2
      rw [Bool.and_eq_true, Bool.not_eq_true'] at h2
      exact ⟨by unfold Gl Env.kindOf; rw [hsc]; exact of_decide_eq_true h2.1, h2.2⟩
    have nm : Names Y x (.ref C) := ⟨(gl h2).1, (gl h2).2, .inl hC⟩
    have e1 : HLof Y.mg ((x, v) :: r) = (.ref C, v) :: HLof Y.mg r := by
      unfold HLof
      rw [List.map_cons, show Y.mg x = some (.ref C) from hC]
      rfl
    rw [e1]
    cases v with
    | none =>
      obtain ⟨p, n, b, q, rfl⟩ := hdClass_eq h1
      exact .oth nm H1
    | some s =>
      have h3 : (match cutMark s with
        | none => decide (hdText hd = some s)
        | some p => limB Y.N sg p hd) = true := h3
      cases hc : cutMark s with
      | none =>
        rw [hc] at h3
        have h3' : hdText hd = some s := of_decide_eq_true h3
        obtain ⟨t, j, p, q, r', rfl⟩ := hdText_eq h3'
        obtain ⟨p', n', b', q', e⟩ := hdClass_eq h1
        cases e
        exact .txt nm hc H1
      | some p =>
        rw [hc] at h3
        have h3' : limB Y.N sg p hd = true := h3
        unfold limB at h3'
        cases hL : hdLim hd with
        | none => rw [hL] at h3'; cases h3'
        | some np =>
          obtain ⟨n, p'⟩ := np
          rw [hL] at h3'
          simp only [Bool.and_eq_true, Bool.not_eq_true', decide_eq_true_eq] at h3'
          obtain ⟨⟨⟨⟨⟨rfl, k2⟩, k3⟩, k4⟩, k5⟩, k6⟩ := h3'
          obtain ⟨t, j, q1, q2, q3, q4, q5, q6, q7, r', rfl⟩ := hdLim_eq hL
          obtain ⟨p', n', b', q', e⟩ := hdClass_eq h1
          cases e
          obtain ⟨i, hi⟩ := List.getElem?_of_mem k2
          exact .lim nm hc hN hi (by unfold Env.kindOf; rw [hsc]; exact k3) (gl k4).1 (hq _ List.mem_cons_self (by show (cutMark s).isSome = true; rw [hc]; rfl)) k5 k6 H1
theorem gives_x {X : Cx} {Ng : List Str} {x a q v : Str} {sg : Scope} {g : Addr} {cdg : Value} {bg : List Stmt} {hs : List (Str × Option Str)} (hB : toldB hs v a Ng sg bg = true) (hNg : Ng.Nodup) (hm : ∀ q ∈ hs, ∃ C, X.mg q.1 = some (.ref C)) (hst : ∀ q ∈ hs, limQ q.2 = true → X.mg "str" = none) :
    LamX.GivesTo X Ng x sg g cdg bg a q (TTx X.K (HLof X.mg hs) v) := by
  unfold toldB at hB
  split at hB
  · simp only [Bool.and_eq_true, decide_eq_true_eq] at hB
    obtain ⟨⟨⟨h1, h2⟩, h3⟩, h4⟩ := hB
    subst h1
    subst h2
    intro f c' s H Q tl act hc h
    refine ⟨_, pss_cons (ps_told (X := (cxOf C8.CX0 X.prog X.w X.K X.mg X.base Ng x sg g cdg X.A X.stack s H C8.E0).nox) (l := HLof X.mg hs)
        (tb := fun W D σ H => ∃ Ech : XK, (∀ cls d σ' H', Ech cls d H' → W cls d σ' H') ∧ σ[0]? = some (some (.ref f)) ∧ H c' = some (LamX.CodeO c' q) ∧ tl Ech H (fun _ H' => D.nx σ H'))
        rfl rfl (fun W pn xe tk => ?_) (hds_of rfl hNg h3 hm hst)) (pss_one (ps_ret pe_str)), ?_⟩
    · refine ⟨fun pins s' σ H' D I h' => ?_⟩
      obtain ⟨Ech, hW, e1, e2, e3⟩ := h'
      exact (pss_one (ps_expr (act W pn xe Ech _ _ tk hW))).run pins s' σ H' D I ⟨e1, e2, e3⟩
    · exact ⟨fun cls d H' => wTold X.K (fun s H'' => Q (.str s) H'') (HLof X.mg hs) cls d [] H', fun cls d σ' H' w => wTold_st w, rfl, hc, h⟩
  · cases hB
end PP

set_option Elab.async false
set_option linter.all false
set_option maxRecDepth 100000
set_option maxHeartbeats 2000000
/-! PP13j: super().__init__(..) in the __init__ of an own exception over ValueError; such an __init__ as a def. -/
namespace PP
open PySem PySem.Spec PyProof.Rows L2 NdefX
section
variable {X : Cx} {pins : List (Addr × Obj)} {σ : L2.St} {H : Hp} {s : Shared}
/-- the call of what super().__init__ is -/
theorem call_mw {u a C : Addr} {us : List Value} {Q : Value → Shared → Prop} (T : OexC X.K C) (I : Inv X pins σ H s) (e : H a = some (exo a C none)) (hu : s.heap.get? u = some (PySem.W.kxs_mw "ValueError.__init__" a)) (hl : us.length ≤ sizeLine)
    (h : ∀ s', Inv X pins σ H s' → Q .none s') : wpAny (model X.prog X.w) X.A (call (.ref u) us) Q X.xe s := by
  obtain ⟨nm, q, N, bs, bm, sn, sub, ab, col, dd, k0, k1, k2, k3, k5, hC, hbm⟩ := T.cls
  obtain ⟨t1, ho⟩ := exo_at I.hok e
  have hC' := I.kIn _ _ hC
  obtain ⟨hp, g, d, t, os⟩ := s
  have fin : ∀ h', (∀ b o, b ≠ a → hp.get? b = some o → h'.get? b = some o) → h'.get? a = some (PySem.W.excRec (.ref C) hp.objs.size none .none .none (.bool false)) → h'.get? hp.objs.size = some (PySem.W.excTup us) → Q .none ⟨h', g, d, t, os⟩ := fun h' k hx _ => by
    have J := I.write (t' := t) (x := a) (e := a) (o := exo a C none) (by rw [e]; exact True.intro) (.inl rfl) k ⟨_, hx⟩ (exo_ok hx)
    have eu : upd H a (exo a C none) = H := by
      funext b
      by_cases hb : b = a
      · rw [hb, upd_same, e]
      · rw [upd_ne hb]
    rw [eu] at J
    exact h _ J
  refine wpAny_call (codeAny_of_tree ?_)
  show wpAny _ X.A.in1 (callAny (.ref u) ⟨us, []⟩) _ _ _
  simp only [callAny]
  refine wpAny_bind (wpAny_load hu ?_)
  simp only [PySem.W.kxs_mw, show (Value.type "method-wrapper" == Value.type "method" || Value.type "method-wrapper" == Value.type "builtin_function_or_method" || Value.type "method-wrapper" == Value.type "method-wrapper") = true by decide, if_true]
  refine PySem.W.KFB.if_so (by decide) ?_
  refine wpAny_bind (PySem.W.check_bound_init PySem.F.excBase_ValueError.toExcCallFacts hC' ho rfl ?_)
  refine wpAny_bind (wpAny_pure (wpAny_pure ?_))
  refine ⟨plainId_quiet PySem.F.excBase_ValueError.init.plain _, codeAny_builtin PySem.F.excBase_ValueError.initEntry ?_⟩
  exact PySem.W.exc_init_tree (cls := .ref C) (t0 := t1) (dv := none) (c2 := .none) (c3 := .none) (b4 := .bool false) ho hl fin
theorem super_init {pl : Sem Bool} {Q : Value → Shared → Prop} {body : List Stmt} {p0 p1 p2 p3 : Pos} {arg : Expr} {ta : TA} {a C fI cc c : Addr} {i : Nat} {fd : FuncData} {ar : Arg} {vs : Array Value} {file : Str} {tf : Tok} {oc ccl cl : Value} {od cdd cld : Option Addr}
    {osl ccs csl : Array (Option Value)} {cdC : ClassData} (I : Inv X pins σ H s)
    (hf : X.K.lookup fI = some ⟨oc, od, .func fd, osl⟩) (hfu : X.env.func = some fI) (hpr : (fd.params.posonlyargs ++ fd.params.args).head? = some ar)
    (har : X.N[i]? = some ar.arg) (hσ : σ[i]? = some (some (.ref a))) (hka : X.env.kindOf ar.arg = some .local)
    (hco : X.env.code = .ref c) (hcode : X.K.lookup c = some ⟨ccl, cdd, .fields vs, ccs⟩) (hvs : vs[2]? = some (.str file tf)) (hfile : ((X.prog.main.file : Str) == file) = true)
    (hcells : X.env.cells.lookup ("__class__" : Str) = some cc) (hcell : X.K.lookup cc = some ⟨cl, cld, .cell (some (.ref C)), csl⟩) (hC : PySem.W.clsIn X.K C = some cdC) (hsub : PySem.W.mroIn X.K C (.ref C) = some true)
    (hks : X.env.kindOf "super" = some .globalImplicit) (hkc : X.env.kindOf "__class__" = some .free) (htop : (X.prog.main.scope.names.lookup ("super" : Str)).isSome = false) (hms : X.mg "super" = none) (hboot : bootBuiltins "super" = some (.type "super"))
    (hth : PySem.W.nsIn X.K PySem.cStatics "thirdparty.any" = some none) (hm : PySem.W.ks_superIn X.K C C "__init__" = some (some (.builtin "ValueError.__init__"))) (hB : PySem.W.subIn X.K (.ref C) (.type "ValueError") = some true)
    (T : OexC X.K C) (ha : PA X [arg] ta) (he0 : H a = some (exo a C none))
    (hta : ta σ H fun ws H1 => ws.length ≤ 1000 ∧ H1 a = some (exo a C none) ∧ ∀ s', Inv X pins σ H1 s' → Q .none s')
    (hec : eval (.Call (.Attribute (.Call (.Name "super" p0) [] [] p1) "__init__" p2) [arg] [] p3) X.env = (do
      let ov ← attributeBase (.Call (.Name "super" p0) [] [] p1) "__init__" X.env (eval (.Call (.Name "super" p0) [] [] p1) X.env)
      standAt p2.atName
      let (f, first) ← holding [ov] (getMethod ov "__init__" pl)
      callWith p3 f first (backTo p3 (starEach [arg] X.env)) []))
    (hst : starEach [arg] X.env = (false, eval arg X.env) :: starEach [] X.env := by rfl) :
    _root_.PySem.wpAt (model X.prog X.w) X.A (.func body X.env) (eval (.Call (.Attribute (.Call (.Name "super" p0) [] [] p1) "__init__" p2) [arg] [] p3) X.env) Q X.xe s := by
  have KX := I.kIn
  obtain ⟨oD, hD1, hD2⟩ : ∃ oD, s.heap.get? C = some oD ∧ oD.data = .cls cdC := by
    unfold PySem.W.clsIn at hC
    split at hC
    · rename_i c d cd' sl ho
      cases hC
      exact ⟨_, KX _ _ ho, rfl⟩
    · cases hC
  refine ks_wpAt_MethodCall (pl := pl) ?_ hec
  refine ks_wpAt_super_base hks hkc (by decide) hfu (KX _ _ hf) rfl hpr hco (KX _ _ hcode) rfl hvs hfile htop ?_
  obtain ⟨mb, b1, b2⟩ := I.mod.blt
  refine PySem.W.ks_loadName_global I.ok.kind hks (Calls.loadGlobal_builtin (by rw [I.ok.glob]; exact I.mod.glob.keeps I.bk) hms (by rw [I.ok.blt]; exact b1.keeps I.bk) ((b2 _ (by decide)).trans hboot) ⟨rfl, ?_⟩)
  refine wpAny_loadName_free I.ok.kind hkc hcells ⟨_, KX _ _ hcell, rfl⟩ ?_
  obtain ⟨m, hns, hlk⟩ := I.loc
  obtain ⟨u, ru, lk⟩ := hlk i ar.arg _ har hσ (.inl hka)
  obtain rfl : u = Value.ref a := ru
  have hma : m ar.arg = some (.ref a) := by
    rcases lk with ⟨_, q⟩ | ⟨q | q, _⟩
    · exact q
    · rw [hka] at q; cases q
    · rw [hka] at q; cases q
  refine wpAny_loadName_local I.ok.kind hka hns hma ?_
  obtain ⟨t1, hx⟩ := exo_at I.hok he0
  have hxs := Heap.lt_size hx
  obtain ⟨hh, g, d, t, os⟩ := s
  refine ks_wpAny_isType_cls hD1 hD2 ⟨rfl, ?_⟩
  refine ks_wpAny_call_super hD1 hD2 hx rfl (fun c e => by cases e) (PySem.W.looks_mroIn KX hsub) (fun h1 e1 k1 => ?_)
  have I1 : Inv X pins σ H ⟨h1, g, d, t, os⟩ := I.kept (t' := t) k1
  have KX1 : X.K.In h1 := I1.kIn
  have IA : PySem.W.InstAt h1 a _ C none := ⟨k1 _ _ hx, rfl, rfl, trivial⟩
  have hI : PySem.W.Looks (model X.prog X.w) h1 (isInstance (.ref a) (.type "ValueError")) true := IA.type.andThen (PySem.W.looks_subIn KX1 hB)
  have hm' : PySem.W.alongIn X.K "__init__" ((cdC.mro.dropWhile (· != .ref C)).drop 1) = some (some (.builtin "ValueError.__init__")) := by
    unfold PySem.W.ks_superIn at hm
    rw [hC] at hm
    exact hm
  refine PySem.W.kxs_getMethod PySem.W.kxs_ValueError e1 (PySem.W.looks_opaque KX1 hth) (l₀ := cdC.mro) (fun A Q E s k q => wpAny_bind ((PySem.W.looks_clsIn KX1 hC) A _ E s k (wpAny_pure q))) rfl KX1 hm' hI (PySem.W.ks_ne KX1 IA hC) (by decide) ?_
  have k2 : ∀ b o, h1.get? b = some o → (h1.push (PySem.W.kxs_mw "ValueError.__init__" a)).get? b = some o := fun b o e => Heap.get?_push_of_some _ e
  have I2 : Inv X pins σ H ⟨h1.push (PySem.W.kxs_mw "ValueError.__init__" a), g, d, t + 1, os⟩ := I1.kept (t' := t + 1) k2
  have hu : (h1.push (PySem.W.kxs_mw "ValueError.__init__" a)).get? h1.objs.size = some (PySem.W.kxs_mw "ValueError.__init__" a) := Heap.get?_push_at rfl rfl
  -- the wrapper is pinned
  have I3 : Inv X (pins ++ [(h1.objs.size, PySem.W.kxs_mw "ValueError.__init__" a)]) σ H ⟨h1.push (PySem.W.kxs_mw "ValueError.__init__" a), g, d, t + 1, os⟩ := I2.pins_of fun p hp => by
    rcases List.mem_append.mp hp with hp | hp
    · exact I2.pin p (List.mem_append_right _ hp)
    · rw [List.mem_singleton.mp hp]
      refine ⟨hu, I1.hok.fresh (Nat.le_refl _), fun z => ?_, I1.nofs (Nat.le_refl _), fun v z => by cases z⟩
      have z' : h1.objs.size = X.env.locals := z
      have := I1.lt
      rw [← z'] at this
      exact absurd this (Nat.lt_irrefl _)
  show wpAny _ _ (callWith p3 (.ref h1.objs.size) [] (backTo p3 (starEach [arg] X.env)) []) _ _ _
  rw [hst]
  refine PySem.W.kxs_callWith (i := "ValueError.__init__") (x := a) rfl (Calls.evalArgs_plain ?_)
  have run := ha.run p3 (pins ++ [(h1.objs.size, PySem.W.kxs_mw "ValueError.__init__" a)]) _ σ H _ I3 hta
  rw [hst] at run
  refine thn run fun us s2 ⟨ws, H2, I4, r4, hl, e4, q4⟩ => ?_
  refine ⟨(I4.pin (h1.objs.size, PySem.W.kxs_mw "ValueError.__init__" a) (List.mem_append_right _ (List.mem_append_right _ (List.mem_singleton.mpr rfl)))).1, ?_⟩
  show wpAny _ _ (call (.ref h1.objs.size) ([] ++ us)) _ _ _
  rw [List.nil_append]
  refine call_mw T I4 e4 (I4.pin (h1.objs.size, PySem.W.kxs_mw "ValueError.__init__" a) (List.mem_append_right _ (List.mem_append_right _ (List.mem_singleton.mpr rfl)))).1 (by rw [← Paired.length r4, sizeLine_eq]; omega) fun s' J => q4 s' J.unpinned
end

/-! ### such an __init__ as a def -/
/-- what is known of the class at C, its __init__ at fI, the cell of __class__ at cc -/
structure IniK (P : Program) (K : PySem.W.Frag) (mg : Str → Option Value) (C cc : Addr) : Prop where
  T : OexC K C
  cell : ∃ cl cld csl, K.lookup cc = some ⟨cl, cld, .cell (some (.ref C)), csl⟩
  cls : ∃ cd, PySem.W.clsIn K C = some cd
  sub : PySem.W.mroIn K C (.ref C) = some true
  top : (P.main.scope.names.lookup ("super" : Str)).isSome = false
  mgs : mg "super" = none
  third : PySem.W.nsIn K PySem.cStatics "thirdparty.any" = some none
  sup : PySem.W.ks_superIn K C C "__init__" = some (some (.builtin "ValueError.__init__"))
  base : PySem.W.subIn K (.ref C) (.type "ValueError") = some true
theorem boot_super : bootBuiltins "super" = some (.type "super") := by first | rfl | kernel_rfl
section
variable {CX : CXT} {P : Program} {w : World} {K : PySem.W.Frag} {mg : Str → Option Value} {base : Heap}
/-- what it promises: the argument kept as fld -/
def spI (C : Addr) (fld : Str) (ok : V → Prop) : Sp := fun vs H Q _ => ∃ a y, vs = [V.ref a, y] ∧ ok y ∧ H a = some (exo a C none) ∧ ∀ dx, H dx = none → dx ≠ a → Q .non (upd (upd H dx (exd dx [(fld, y)])) a (exo a C (some dx)))
theorem ini_ok {k : Nat} {C fI cc c : Addr} {name q self par fld : Str} {params : Arguments} {scope : Scope} {dV kV doc pm ct oc ccl : Value} {an od cdd : Option Addr} {osl ccs : Array (Option Value)} {vs : Array Value} {file : Str} {tf : Tok} {arg : Expr} {ok : V → Prop} {ar : Arg}
    {p0 p1 p2 p3 p4 p5 p6 p7 p8 : Pos}
    (ik : IniK P K mg C cc) (lk : K.lookup fI = some ⟨oc, od, .func (PySem.W.ksFn name q params [.Expr (.Call (.Attribute (.Call (.Name "super" p0) [] [] p1) "__init__" p2) [arg] [] p3) p4, .Assign [.Attribute (.Name self p5) fld p6] (.Name par p7) p8] scope dV kV doc pm an (.ref c) ct cc), osl⟩)
    (hcd : PySem.W.codeIn K (.ref c) q = true) (hcode : K.lookup c = some ⟨ccl, cdd, .fields vs, ccs⟩) (hvs : vs[2]? = some (.str file tf)) (hfile : ((P.main.file : Str) == file) = true)
    (hb : Binds K (PySem.W.ksFn name q params [.Expr (.Call (.Attribute (.Call (.Name "super" p0) [] [] p1) "__init__" p2) [arg] [] p3) p4, .Assign [.Attribute (.Name self p5) fld p6] (.Name par p7) p8] scope dV kV doc pm an (.ref c) ct cc) [self, par] [])
    (hpr : (params.posonlyargs ++ params.args).head? = some ar) (har : ar.arg = self) (S : NScope [self, par, "__class__"] [self, par] ["__class__"] scope) (hks : scope.names.lookup ("super" : Str) = some .globalImplicit)
    (hn1 : (self == ("__debug__" : Str)) = false ∧ (self == ("__classdict__" : Str)) = false) (hn2 : (par == ("__debug__" : Str)) = false ∧ (par == ("__classdict__" : Str)) = false) (hno : PySem.W.findIn K (.ref C) fld = some none) (hec : ∀ env : PySem.Env, ∃ pl : Sem Bool, eval (.Call (.Attribute (.Call (.Name "super" p0) [] [] p1) "__init__" p2) [arg] [] p3) env = (do
      let ov ← attributeBase (.Call (.Name "super" p0) [] [] p1) "__init__" env (eval (.Call (.Name "super" p0) [] [] p1) env)
      standAt p2.atName
      let (f, first) ← holding [ov] (getMethod ov "__init__" pl)
      callWith p3 f first (backTo p3 (starEach [arg] env)) [])) (hst : ∀ env : PySem.Env, starEach [arg] env = (false, eval arg env) :: starEach [] env)
    (hpa : ∀ (A : Around) (outer : List PySem.Env) (s : Shared) (H : Hp) (E : XK), ∃ ta, PA (ncx CX P w K mg base [self, par, "__class__"] ⟨name, q, params, [.Expr (.Call (.Attribute (.Call (.Name "super" p0) [] [] p1) "__init__" p2) [arg] [] p3) p4, .Assign [.Attribute (.Name self p5) fld p6] (.Name par p7) p8], scope, [("__class__", cc)], c⟩ fI A outer s H E) [arg] ta ∧
      ∀ (a : Addr) (y : V) (G : List V → Hp → Prop), ok y → (∀ ws, ws.length = 1 → G ws H) → ta [some (.ref a), some y, none] H G) :
    FnOk P w K mg base CX (k + 1) fI (PySem.W.ksFn name q params [.Expr (.Call (.Attribute (.Call (.Name "super" p0) [] [] p1) "__init__" p2) [arg] [] p3) p4, .Assign [.Attribute (.Name self p5) fld p6] (.Name par p7) p8] scope dV kV doc pm an (.ref c) ct cc) [self, par] (spI C fld ok) := by
  refine ⟨fun ws H Q E ⟨a, y, e, _⟩ => by rw [e]; rfl, fun A outer s H args us ws Q E hr e0 hbd r ⟨a, y, ews, hoky, ha0, hQ⟩ => ?_⟩
  subst ews
  have KX : K.In s.heap := e0.mod.kin.keeps fun b o e => (e0.bs b o e).1
  have lim : s.heap.NoLimit := e0.mod.nolimit.keeps fun b o e => (e0.bs b o e).1
  refine codeAny_call_function hr.depth (KX _ _ lk) rfl S.co S.gen rfl (PySem.W.codeRec_of KX hcd) (hbd _ _ _ _ ?_)
  refine wpAny_newFunctionEnv S.nocell (fun ⟨n, _⟩ hy => S.par n (List.of_mem_zip hy).1) (fun h₁ hns hsb => ⟨lim.fresh _ hsb, ?_⟩) S.kind
  generalize hF : (⟨name, q, params, [.Expr (.Call (.Attribute (.Call (.Name "super" p0) [] [] p1) "__init__" p2) [arg] [] p3) p4, .Assign [.Attribute (.Name self p5) fld p6] (.Name par p7) p8], scope, [("__class__", cc)], c⟩ : NF) = F at hpa
  have hFs : F.scope = scope := by rw [← hF]
  have hFb : F.body = [.Expr (.Call (.Attribute (.Call (.Name "super" p0) [] [] p1) "__init__" p2) [arg] [] p3) p4, .Assign [.Attribute (.Name self p5) fld p6] (.Name par p7) p8] := by rw [← hF]
  have hFe : envF F fI s.heap.objs.size = PySem.W.ksEnv q scope s.heap.objs.size fI (.ref c) cc := by rw [← hF]
  have kp : ∀ b o, s.heap.get? b = some o → h₁.get? b = some o := fun b o e => hsb.extBut b o (Nat.ne_of_lt (Heap.lt_size e)) (Heap.get?_push_of_some _ e)
  obtain ⟨cl, cld, csl, hcc⟩ := ik.cell
  have CA : CellsAt F.cl ["__class__"] [none] s.heap H := by
    rw [← hF]
    refine ⟨rfl, fun y c' e => ?_, fun x y c' e1 e2 => ?_, fun i y hy => ?_⟩
    · have ec : c' = cc ∧ y = ("__class__" : Str) := by
        have e' : List.lookup y [(("__class__" : Str), cc)] = some c' := e
        rw [List.lookup_cons] at e'
        cases hyy : (y == ("__class__" : Str)) with
        | true => rw [hyy] at e'; exact ⟨(Option.some.inj e').symm, by simpa using hyy⟩
        | false => rw [hyy] at e'; cases e'
      rw [ec.1]
      exact ⟨(e0.bs cc _ (e0.mod.kin _ _ hcc)).2, some (.ref C), _, KX _ _ hcc, rfl⟩
    · have one : ∀ z, List.lookup z [(("__class__" : Str), cc)] = some c' → z = ("__class__" : Str) := fun z e' => by
        rw [List.lookup_cons] at e'
        cases hyy : (z == ("__class__" : Str)) with
        | true => simpa using hyy
        | false => rw [hyy] at e'; cases e'
      rw [one x e1, one y e2]
    · cases i with
      | zero =>
        obtain rfl : ("__class__" : Str) = y := Option.some.inj hy
        refine ⟨cc, by rw [List.lookup_cons]; simp, fun v hv => ?_⟩
        have hv' : (some (none : Option V)) = some (some v) := hv
        cases hv'
      | succ i => exact absurd hy (by simp)
  have I0 : Inv (ncx CX P w K mg base [self, par, "__class__"] F fI A outer s H E) [] [some (.ref a), some y, none] H { s with heap := h₁, toks := s.toks + ([self, par].zip us).length } :=
    inv_startN (ws := [none]) (vs := [.ref a, y]) (by rw [hFs]; exact S) hr.hd e0 rfl r CA hns kp
  obtain ⟨ta, hta, hq⟩ := hpa A outer s H E
  suffices hmain : codeAny (model P w) A (.func F.body (envF F fI s.heap.objs.size)) (CR CX outer P w H s Q E) { s with heap := h₁, toks := s.toks + ([self, par].zip us).length } by
    rw [← hF] at hmain
    exact hmain
  refine ks_codeAny_funcAt ?_
  have hkind : F.scope.kind = .function := by rw [hFs]; exact S.kind
  have hself : F.scope.names.lookup self = some .local := by rw [hFs]; exact S.par self (by simp)
  have hparl : F.scope.names.lookup par = some .local := by rw [hFs]; exact S.par par (by simp)
  refine ks_wpAt_mono (E := (ncx CX P w K mg base [self, par, "__class__"] F fI A outer s H E).xe) (Q := SP (ncx CX P w K mg base [self, par, "__class__"] F fI A outer s H E) [] { nx := fun _ H' => Q .non H', rt := Q }) ?_ (fun fl s' hs => ?_) (fun e s' hs => hs)
  · rw [hFb]
    obtain ⟨cd, hcls⟩ := ik.cls
    have hcl : F.cl.lookup ("__class__" : Str) = some cc := by
      rw [← hF]
      show List.lookup ("__class__" : Str) [(("__class__" : Str), cc)] = _
      rw [List.lookup_cons]
      simp
    have hFc : F.c = c := by rw [← hF]
    obtain ⟨pl, hec'⟩ := hec (envF F fI s.heap.objs.size)
    refine ks_wpAt_execs_cons (ks_wpAt_Expr_any (super_init (X := ncx CX P w K mg base [self, par, "__class__"] F fI A outer s H E) (a := a) (C := C) (i := 0) I0 lk rfl hpr (by rw [har]; rfl) rfl (by rw [har]; exact hself) (by show Value.ref F.c = _; rw [hFc]) hcode hvs hfile hcl hcc hcls ik.sub
      (by show F.scope.names.lookup _ = _; rw [hFs]; exact hks) (by show F.scope.names.lookup _ = _; rw [hFs]; exact S.frk _ (by simp)) ik.top ik.mgs boot_super ik.third ik.sup ik.base ik.T hta ha0
      (hq a y _ hoky fun ws hw => ⟨by omega, ha0, fun s2 I2 => ?_⟩) hec' (hst _)) I0.quiet rfl)
    have po : PS (ncx CX P w K mg base [self, par, "__class__"] F fI A outer s H E) (.Assign [.Attribute (.Name self p5) fld p6] (.Name par p7) p8) (tOst K fld (tVar 0) (tVar 1)) :=
      ps_ost (X := ncx CX P w K mg base [self, par, "__class__"] F fI A outer s H E) (pe_var rfl (.inl hself) hn1.1 hn1.2) (pe_var rfl (.inl hparl) hn2.1 hn2.2)
    exact wpAt_of_wpAny ((pss_one po).run [] s2 _ H _ I2 ⟨y, rfl, .ref a, rfl, a, C, rfl, ik.T, hno, .inl ⟨ha0, fun dx n ne => hQ dx n ne⟩⟩)
  · have fin : ∀ {σ' : L2.St} {H' : Hp} {v : V} {u : Value}, Inv (ncx CX P w K mg base [self, par, "__class__"] F fI A outer s H E) [] σ' H' s' → L2.RelV v u → Q v H' → CE outer P w H s Q u s' :=
      fun {σ' H' v u} J rv q => ⟨v, H', J.os, J.bare, J.base, J.hok, rv, q⟩
    cases fl with
    | ret u =>
      obtain ⟨v, σ', H', J, rv, q⟩ := hs
      exact fin J rv q
    | next =>
      obtain ⟨σ', H', J, q⟩ := hs
      exact fin (v := V.non) (u := Value.none) J rfl q
    | brk =>
      obtain ⟨_, _, _, q⟩ := hs
      exact False.elim q
    | cont =>
      obtain ⟨_, _, _, q⟩ := hs
      exact False.elim q
/-- raise C(e): what is wished of its value -/
def rawO (C : Addr) (fld : Str) (ok : V → Prop) (W : WX) (σ : L2.St) (y : V) (H1 : Hp) : Prop := ok y ∧ ∀ dx, H1 dx = none → W (.ref C) (some dx) σ (upd H1 dx (.xd [(fld, y)]))
def rawM (C : Addr) (fld : Str) (ok : V → Prop) (W : WX) (σ : L2.St) (y : V) (H1 : Hp) : Prop := [y].length ≤ 1000 ∧ ∀ a, H1 a = none → spI C fld ok (.ref a :: ([y] ++ [])) (upd H1 a (exo a C none))
  (fun v H2 => v = .non ∧ ∃ (d : Addr) (fs : List (Str × V)), H2 a = some (exo a C (some d)) ∧ H2 d = some (exd d fs) ∧ H1 d = none ∧ W (.ref C) (some d) σ (upd (del H2 a) d (.xd fs))) (fun _ _ _ => False)
theorem rawM_of {C : Addr} {fld : Str} {ok : V → Prop} {W : WX} {σ : L2.St} {y : V} {H1 : Hp} (h : rawO C fld ok W σ y H1) : rawM C fld ok W σ y H1 := by
  obtain ⟨hok, hq⟩ := h
  refine ⟨by show (1 : Nat) ≤ 1000; decide, fun a ha => ⟨a, y, rfl, hok, upd_same, fun dx hd ne => ?_⟩⟩
  have hd' : H1 dx = none := by rw [upd_ne ne] at hd; exact hd
  refine ⟨rfl, dx, [(fld, y)], upd_same, by rw [upd_ne ne, upd_same], hd', ?_⟩
  have eH : upd (del (upd (upd (upd H1 a (exo a C none)) dx (exd dx [(fld, y)])) a (exo a C (some dx))) a) dx (.xd [(fld, y)]) = upd H1 dx (.xd [(fld, y)]) := by
    funext b
    by_cases h1 : b = dx
    · rw [h1, upd_same, upd_same]
    · rw [upd_ne h1, upd_ne h1]
      by_cases h2 : b = a
      · rw [h2, del_same, ha]
      · rw [del_ne h2, upd_ne h2, upd_ne h1, upd_ne h2]
  rw [eH]
  exact hq dx hd'
theorem ps_raiseO {X : Cx} {W : WX} {e : Expr} {te : TE} {x fld : Str} {C fI : Addr} {fd : FuncData} {ps : List Str} {ok : V → Prop} {k : Nat} {p pos pos' : Pos} (hc : X.calm = true) (tk : Takes X W) (T : OexC X.K C) (iC : PySem.W.findIn X.K (.ref C) "__init__" = some (some (.ref fI))) (tI : PySem.W.typeIn X.K (.ref fI) = some (.type "function"))
    (F1 : FnOk X.prog X.w X.K X.mg X.base (L2.CX X.prog X.w) k fI fd ps (spI C fld ok)) (hr : Room (k + 1) X.A) (hb : L2.Binds X.K fd ps []) (hg : Gl X x) (hm : X.mg x = some (.ref C)) (hdb : (x == ("__debug__" : Str)) = false) (he : PE X e te) (hs : starEach [e] X.env = (false, eval e X.env) :: starEach [] X.env) :
    PS X (.Raise (some (.Call (.Name x p) [e] [] pos)) none pos') (fun _ σ H => te σ H (rawM C fld ok W σ)) :=
  ps_raise hc tk (pmk_oex (ds := []) (dvs := []) T iC tI F1 hr hb .nil passL hg hm (pa_cons he pa_nil hs) hdb hs rfl)
/-- 'more than ' + str(limit) -/
theorem arg_more {X : Cx} {p1 p2 p3 p4 p5 : Pos} {jj : Nat} {m x y : Str} {i : Nat} (hi : X.N[i]? = some y) (hv : Vis X.env.scope y) (n1 : (y == ("__debug__" : Str)) = false) (n2 : (y == ("__classdict__" : Str)) = false) (hg : Gl X "str") (hm : X.mg "str" = none) :
    ∃ ta, PA X [.BinOp (.Constant (.str m) jj p1) .Add (.Call (.Name "str" p2) [.Name y p3] [] p4) p5] ta ∧ ∀ (σ : L2.St) (H : Hp) (n : Int) (G : List V → Hp → Prop), σ[i]? = some (some (.int n)) → n.natAbs.log2 < 1920 → m.length + ((toString n : String) : Str).length ≤ sizeLine → (∀ ws, ws.length = 1 → G ws H) → ta σ H G := by
  refine ⟨_, pa_cons (pe_op op_add_str pe_str (pe_callTy call_str_int hg hm (by first | rfl | kernel_rfl) (pa_cons (pe_var hi hv n1 n2) pa_nil))) pa_nil, fun σ H n G e h1 h2 hG => ?_⟩
  exact ⟨.int n, e, n, rfl, h1, m, _, rfl, rfl, h2, hG _ rfl⟩
end
end PP

set_option Elab.async false
set_option linter.all false
set_option maxRecDepth 100000
set_option maxHeartbeats 2000000
/-! PP13k: what is looked at of an own exception class whose __init__ keeps a number, and what follows. -/
namespace PP
open PySem PySem.Spec PyProof.Rows L2 NdefX
/-- what is known of the class x -/
def OexF (P : Program) (w : World) (K : PySem.W.Frag) (mg : Str → Option Value) (base : Heap) (x : Str) : Prop :=
  ∃ (C fI : Addr) (fd : FuncData) (ps : List Str), OexC K C ∧ PySem.W.findIn K (.ref C) "__init__" = some (some (.ref fI)) ∧ PySem.W.typeIn K (.ref fI) = some (.type "function") ∧ FnOk P w K mg base (L2.CX P w) 1 fI fd ps (spI C "limit" fun y => ∃ n : Int, y = .int n ∧ okLim n = true) ∧
    L2.Binds K fd ps [] ∧ mg x = some (.ref C) ∧ (∀ y D, y ∈ excNames → mg y = some (.ref D) → PySem.W.exmOne K (.ref C) (.ref D) = some (subX x y)) ∧ XfC K C ∧ PySem.W.findIn K (.ref C) "limit" = some none
/-! ### the class -/
theorem clsOB_ok {K : PySem.W.Frag} {C : Addr} (q : clsOB K C = true) : ∃ nm q N bs bm sn sub ab col dd k0 k1 k2 k3 k5, K.lookup C = some (excClassObj nm q C N bs bm true sn sub ab col dd k0 k1 k2 k3 k5 "ValueError.__new__") ∧ HandSPX.refsVE bm = true := by
  unfold clsOB at q
  split at q
  · rename_i dd cd sl ho
    split at q
    · rename_i C' bm k0 k1 k2 k3 n k5 hm hs
      simp only [Bool.and_eq_true, beq_iff_eq, Bool.not_eq_true'] at q
      obtain ⟨⟨⟨⟨rfl, rfl⟩, hdel⟩, hdd⟩, ht⟩ := q
      obtain ⟨nm, bs, mro, ns, qn, hd, sn, sub, ab, col, del⟩ := cd
      dsimp only at hm hdel hdd
      subst hm hdel hdd
      have hsl : sl = #[k0, k1, k2, k3, some (.builtin "ValueError.__new__"), k5] := by
        obtain ⟨l⟩ := sl
        simp only at hs
        rw [hs]
      subst hsl
      exact ⟨nm, qn, ns, bs, bm, sn, sub, ab, col, dd, k0, k1, k2, k3, k5, ho, ht⟩
    · cases q
  · cases q
/-! ### its __init__ -/
theorem iniO_eq {K : PySem.W.Frag} {d : IniD} (h : iniO K d.x = d.val) : ∃ oc od osl dV kV doc pm an cdv ct cc, K.lookup (He.fAd K (d.x, some "__init__")) = some ⟨oc, od, .func (PySem.W.ksFn "__init__" d.q d.params d.body d.scope dV kV doc pm an cdv ct cc), osl⟩ := by
  unfold iniO at h
  split at h
  · rename_i oc od fd osl hl
    obtain ⟨n1, n2, n3, n4, n5, n6, n7, n8, n9, n10, n11, n12, n13, n14, n15⟩ := fd
    unfold IniD.val at h
    simp only [Option.some.injEq, Prod.mk.injEq] at h
    obtain ⟨rfl, rfl, rfl, rfl, rfl, rfl, hc, rfl⟩ := h
    cases n7 with
    | nil => cases hc
    | cons a r =>
      obtain ⟨a1, cc⟩ := a
      rw [List.map_cons] at hc
      injection hc with e1 e2
      have e1' : a1 = ("__class__" : Str) := e1
      subst e1'
      obtain rfl : r = [] := List.map_eq_nil_iff.mp e2
      exact ⟨oc, od, osl, _, _, _, _, _, _, _, cc, hl⟩
  · cases h
theorem isRef_eq {o : Option (Option Value)} {a : Addr} (h : isRef o a = true) : o = some (some (.ref a)) := by
  unfold isRef at h
  split at h
  · rw [beq_iff_eq.mp h]
  · cases h
theorem isBi_eq {o : Option (Option Value)} {n : String} (h : isBi o n = true) : o = some (some (.builtin n)) := by
  unfold isBi at h
  split at h
  · rw [beq_iff_eq.mp h]
  · cases h
theorem isNo_eq {o : Option (Option Value)} (h : isNo o = true) : o = some none := by
  unfold isNo at h
  split at h
  · rfl
  · cases h
theorem isTy'_eq {o : Option Value} {n : String} (h : isTy' o n = true) : o = some (.type n) := by
  unfold isTy' at h
  split at h
  · rw [beq_iff_eq.mp h]
  · cases h
theorem bt_eq {o : Option Bool} (h : bt o = true) : o = some true := by
  unfold bt at h
  split at h
  · rw [h]
  · cases h
theorem hec_more (env : PySem.Env) (p0 p1 p2 p3 q1 q2 q3 q4 q5 : Pos) (m y : Str) (j1 : Nat) (hline : (p2.endLine == p3.line) = true) : ∃ pl : Sem Bool, eval (.Call (.Attribute (.Call (.Name "super" p0) [] [] p1) "__init__" p2) [.BinOp (.Constant (.str m) j1 q1) .Add (.Call (.Name "str" q2) [.Name y q3] [] q4) q5] [] p3) env = (do
      let ov ← attributeBase (.Call (.Name "super" p0) [] [] p1) "__init__" env (eval (.Call (.Name "super" p0) [] [] p1) env)
      standAt p2.atName
      let (f, first) ← holding [ov] (getMethod ov "__init__" pl)
      callWith p3 f first (backTo p3 (starEach [.BinOp (.Constant (.str m) j1 q1) .Add (.Call (.Name "str" q2) [.Name y q3] [] q4) q5] env)) []) := by
  refine ⟨(do return (← importBound (.Call (.Name "super" p0) [] [] p1) env).getD true), ?_⟩
  have e0 : eval (.Call (.Attribute (.Call (.Name "super" p0) [] [] p1) "__init__" p2) [.BinOp (.Constant (.str m) j1 q1) .Add (.Call (.Name "str" q2) [.Name y q3] [] q4) q5] [] p3) env = (do
      let ov ← attributeBase (.Call (.Name "super" p0) [] [] p1) "__init__" env (eval (.Call (.Name "super" p0) [] [] p1) env)
      standAt p2.atName
      methodCall (.Call (.Name "super" p0) [] [] p1) "__init__" p2 p3 env ov 1 (backTo p3 (starEach [.BinOp (.Constant (.str m) j1 q1) .Add (.Call (.Name "str" q2) [.Name y q3] [] q4) q5] env)) []) := by rfl
  have e1 : methodCallForm 1 (backTo p3 (starEach [.BinOp (.Constant (.str m) j1 q1) .Add (.Call (.Name "str" q2) [.Name y q3] [] q4) q5] env)) [] = true := by rfl
  have e2 : methodCallPos true (.Call (.Name "super" p0) [] [] p1) env p2 p3 = pure p3 := by
    unfold methodCallPos
    rw [hline]
    rfl
  rw [e0]
  unfold methodCall
  rw [e1, e2]
  rfl
theorem oex_ok {P : Program} {w : World} {K : PySem.W.Frag} {mg : Str → Option Value} {base : Heap} {file : Str} {excs : List Str} {d : IniD} (hB : oexB K file excs d.x = true) (hW : iniO K d.x = d.val) (hC : iniC d = true) (hb : d.binds) (hg : mg d.x = some (.ref (He.ga K d.x)))
    (hex : ∀ y D, y ∈ excNames → mg y = some (.ref D) → y ∈ excs ∧ D = He.ga K y) (hsup : mg "super" = none) (hstr : mg "str" = none) (hfile : ((P.main.file : Str) == file) = true) (htop : (P.main.scope.names.lookup ("super" : Str)).isSome = false) :
    OexF P w K mg base d.x := by
  obtain ⟨oc, od, osl, dV, kV, doc, pm, an, cdv, ct, cc, lk⟩ := iniO_eq hW
  unfold oexB at hB
  simp only [Bool.and_eq_true] at hB
  obtain ⟨⟨⟨⟨⟨⟨⟨⟨⟨⟨⟨⟨⟨⟨⟨b1, b2⟩, b3⟩, b4⟩, b5⟩, b6⟩, b7⟩, b8⟩, b9⟩, b10⟩, b11⟩, b12⟩, b13⟩, b14⟩, b15⟩, b16⟩ := hB
  generalize hCC : He.ga K d.x = C at *
  generalize hFI : He.fAd K (d.x, some "__init__") = fI at *
  have T : OexC K C := ⟨clsOB_ok b1, isBi_eq b2, bt_eq b3, isTy'_eq b4, b5⟩
  obtain ⟨cd, hcd⟩ := Option.isSome_iff_exists.mp b9
  unfold iniB at b8
  rw [lk] at b8
  simp only at b8
  obtain ⟨c, rfl⟩ : ∃ c, cdv = .ref c := by cases cdv <;> first | exact ⟨_, rfl⟩ | cases b8
  obtain rfl : dV = .none := by cases dV <;> first | rfl | cases b8
  simp only [Bool.and_eq_true] at b8
  obtain ⟨⟨c1, c2⟩, c3⟩ := b8
  obtain ⟨ccl, cdd, vs, ccs, hcode⟩ : ∃ ccl cdd vs ccs, K.lookup c = some ⟨ccl, cdd, .fields vs, ccs⟩ := by
    split at c2
    · rename_i h
      exact ⟨_, _, _, _, h⟩
    · cases c2
  rw [hcode] at c2
  simp only at c2
  obtain ⟨f, tf, hvs⟩ : ∃ f tf, vs[2]? = some (.str f tf) := by
    split at c2
    · rename_i h
      exact ⟨_, _, h⟩
    · cases c2
  rw [hvs] at c2
  have hf : f = file := beq_iff_eq.mp c2
  subst hf
  obtain ⟨cl, cld, D, csl, hcell⟩ : ∃ cl cld D csl, K.lookup cc = some ⟨cl, cld, .cell (some (.ref D)), csl⟩ := by
    split at c3
    · rename_i h
      exact ⟨_, _, _, _, h⟩
    · cases c3
  rw [hcell] at c3
  obtain rfl : D = C := beq_iff_eq.mp c3
  have ik : IniK P K mg D cc := ⟨T, ⟨cl, cld, csl, hcell⟩, ⟨cd, hcd⟩, bt_eq b10, htop, hsup, isNo_eq b11, isBi_eq b12, bt_eq b13⟩
  unfold iniC at hC
  split at hC
  case h_2 => cases hC
  rename_i sup p0 p1 ini p2 m j1 q1 st q2 y q3 q4 q5 p3 p4 self p5 fld p6 par p7 p8 a1 a2 hbody hpar
  simp only [Bool.and_eq_true, decide_eq_true_eq, Bool.not_eq_true'] at hC
  obtain ⟨⟨⟨⟨⟨⟨⟨⟨⟨⟨⟨⟨⟨⟨⟨rfl, rfl⟩, rfl⟩, rfl⟩, rfl⟩, h6⟩, h7⟩, h8⟩, h9⟩, h10⟩, h11⟩, h12⟩, h13⟩, h14⟩, h15⟩, h16⟩ := hC
  have S := nscope_by h8
  have hps : d.ps = [self, y] := by unfold IniD.ps; rw [hpar]; simp [h6, h7]
  have hb' : L2.Binds K (PySem.W.ksFn "__init__" d.q d.params d.body d.scope .none kV doc pm an (.ref c) ct cc) [self, y] [] := .all fun us hl => by
    have := hb kV doc pm an (.ref c) ct cc us (by rw [hps]; exact hl)
    rw [hps] at this
    exact this
  rw [hbody] at lk hb'
  refine ⟨D, fI, _, [self, y], T, isRef_eq b6, isTy'_eq b7, ini_ok (k := 0) ik lk c1 hcode hvs hfile hb' (by rw [hpar]; rfl) h6 S h9 ⟨h11, h12⟩ ⟨h13, h14⟩ (isNo_eq b15) (fun env => hec_more env _ _ _ _ _ _ _ _ _ _ _ _ h16) (fun env => rfl) (fun A outer s H E => ?_), hb', hg, fun z D' hz hD => ?_, xfB_ok b14, isNo_eq b15⟩
  · obtain ⟨ta, h1, h2⟩ := arg_more (X := ncx (L2.CX P w) P w K mg base [self, y, "__class__"] ⟨"__init__", d.q, d.params, _, d.scope, [("__class__", cc)], c⟩ fI A outer s H E) (p1 := q1) (p2 := q2) (p3 := q3) (p4 := q4) (p5 := q5) (jj := j1) (m := m) (x := y) (y := y) (i := 1) rfl (.inl (S.par y (by simp))) h13 h14 h10 hstr
    refine ⟨ta, h1, fun a v G ⟨n, e, hn⟩ hG => ?_⟩
    subst e
    unfold okLim at hn
    rw [Bool.and_eq_true] at hn
    have l1 := of_decide_eq_true hn.1
    have l2 := of_decide_eq_true hn.2
    exact h2 _ H n G rfl l1 (by rw [sizeLine_eq]; omega) hG
  · obtain ⟨q1, q2⟩ := hex z D' hz hD
    subst q2
    exact of_decide_eq_true (List.all_eq_true.mp b16 z q1)
end PP

set_option Elab.async false
set_option linter.all false
set_option maxRecDepth 100000
/-! PP13h: dicts that are constants of the module, their keys texts. -/
namespace PP
open PySem PySem.Spec PyProof.Rows L2

/-- the module's name x stands for such a dict -/
structure DctAt (X : Cx) (x : Str) (kvs : List (Str × PV)) : Prop where
  ex : ∃ (a : Addr) (es : Array DictEntry) (n : Nat), X.mg x = some (.ref a) ∧ KDict X.K X.w a es n ∧
    (∀ z p, pickV (kvs.map (·.1)) (kvs.map (·.2)) z = some p → ∃ u v, PySem.W.nsIn X.K a z = some (some u) ∧ RelV v u ∧ ∀ g, Rp (wd X) g v p) ∧
    ∀ z, ∃ r, PySem.W.nsIn X.K a z = some r ∧ r.isSome = decide (z ∈ kvs.map (·.1))
def opIn (neg : Bool) : CmpOp := if neg then .NotIn else .In
section
variable {X : Cx} {W : WX} {x : Str} {kvs : List (Str × PV)} {p pos : Pos} {b : Expr} {ev : Ev} {neg : Bool}
theorem x_pickC (D : DctAt X x kvs) (hg : Gl X x) (hdb : (x == ("__debug__" : Str)) = false) (he : XE' X W b ev) (hs : PlainIx b) :
    XE' X W (.Subscript (.Name x p) b pos) (fun env c => (ev env c).bind fun y c => pickR (kvs.map (·.1)) (kvs.map (·.2)) y c) := by
  obtain ⟨a, es, n, hm, KD, hv, hi⟩ := D.ex
  refine pe_weak (pe_ix ix_kdict (pe_glob (v := .ref a) hg hm rfl hdb) he hs) fun σ H Q h => ?_
  obtain ⟨g, env, c, B, er, hr, gd⟩ := h
  refine ⟨g, env, c, B, er, hr, gd.bind.mono fun y g1 c1 H1 p1 h1 k1 v rv => ?_⟩
  cases y with
  | str s =>
    cases rv
    obtain ⟨q, eq, kq⟩ := GoodR.pure k1
    obtain ⟨u, w, hn, ru, rp⟩ := hv s q eq
    exact ⟨a, s, w, rfl, rfl, ⟨es, n, u, KD.at_, KD.lit, hn, ru⟩, kq g1 H1 Pres.refl h1 w (rp g1)⟩
  | _ => exact k1.elim
theorem op_inC (D : DctAt X x kvs) : ∃ a, X.mg x = some (.ref a) ∧ OpR X (compareOp (opIn neg)) (fun y z H Q => ∃ s : Str, y = .str s ∧ z = .ref a ∧ Q (.bl (decide (s ∈ kvs.map (·.1)) != neg)) H) := by
  obtain ⟨a, es, n, hm, KD, hv, hi⟩ := D.ex
  refine ⟨a, hm, ?_⟩
  intro pins s σ H y z v u Q I ry rz h
  obtain ⟨t, rfl, rfl, q⟩ := h
  obtain ⟨r, hr, hs⟩ := hi t
  rw [← hs] at q
  cases neg with
  | false => exact op_in_kd KD pins s σ H _ _ v u Q I ry rz ⟨t, r, rfl, rfl, hr, by simpa using q⟩
  | true => exact op_notIn_kd KD pins s σ H _ _ v u Q I ry rz ⟨t, r, rfl, rfl, hr, by simpa using q⟩
theorem x_inC (D : DctAt X x kvs) (hg : Gl X x) (hdb : (x == ("__debug__" : Str)) = false) (he : XE' X W b ev) :
    XE' X W (.Compare b [opIn neg] [.Name x p] pos) (fun env c => (ev env c).bind fun y c => inC neg (kvs.map (·.1)) y c) := by
  obtain ⟨a, hm, op⟩ := op_inC (neg := neg) D
  refine pe_weak (pe_cmpR op he (pe_glob (v := .ref a) hg hm rfl hdb) rfl) fun σ H Q h => ?_
  obtain ⟨g, env, c, B, er, hr, gd⟩ := h
  refine ⟨g, env, c, B, er, hr, gd.bind.mono fun y g1 c1 H1 p1 h1 k1 v rv => ?_⟩
  cases y with
  | str s =>
    cases rv
    exact ⟨s, rfl, rfl, k1 g1 H1 Pres.refl h1 _ (.bl _)⟩
  | _ => exact k1.elim
theorem xt_inC (D : DctAt X x kvs) (hg : Gl X x) (hdb : (x == ("__debug__" : Str)) = false) (he : XE' X W b ev) :
    XT X W (.Compare b [opIn neg] [.Name x p] pos) (fun env c => truthR ((ev env c).bind fun y c => inC neg (kvs.map (·.1)) y c)) := by
  obtain ⟨a, hm, op⟩ := op_inC (neg := neg) D
  refine pt_weak (pt_cmpR op he (pe_glob (v := .ref a) hg hm rfl hdb) rfl) fun σ H Q h => ?_
  obtain ⟨g, env, c, B, er, hr, gd⟩ := h
  have gd' : GoodR (wd X) X.mg W g H σ _ (((ev env c).bind fun y c => inC neg (kvs.map (·.1)) y c).bind fun v c => match truth v with
    | some b => .ok b c
    | none => .stuck) := gd
  rw [R.bind_assoc] at gd'
  refine ⟨g, env, c, B, er, hr, gd'.bind.mono fun y g1 c1 H1 p1 h1 k1 v rv => ?_⟩
  cases y with
  | str s =>
    cases rv
    exact ⟨s, rfl, rfl, _, rfl, k1 g1 H1 Pres.refl h1⟩
  | _ => exact k1.elim
end
end PP

set_option Elab.async false
set_option linter.all false
set_option maxRecDepth 100000
/-! PP6j: sorted(d), list(d.values()), d.get(..). -/
namespace PP
open PySem PySem.Spec PyProof.Rows L2
theorem items_eq {es : Array DictEntry} {f : DictEntry → Value} {acc : Array Value} (h : ItemsOf (fun i v => ∃ hi : i < es.size, v = f es[i]) acc es.size) : acc.toList = es.toList.map f := by
  refine List.ext_getElem? fun i => ?_
  rw [List.getElem?_map, Array.getElem?_toList, Array.getElem?_toList]
  cases e : acc[i]? with
  | none =>
    have : es[i]? = none := by
      rw [Array.getElem?_eq_none_iff] at e ⊢
      rw [← h.1]; exact e
    rw [this]; rfl
  | some v =>
    obtain ⟨hi, rfl⟩ := h.2 i v e
    rw [Array.getElem?_eq_getElem hi]; rfl
section
variable {T : Wd} {g : Gh}
theorem RpX.keysV : ∀ {xs : List (NestedKey × Addr × Value)} {kvs : List (PV × PV)}, RpX T g xs kvs → Vals (xs.map fun x => V.ref x.2.1) (xs.map fun x => Value.ref x.2.1) ∧ RpL T g (xs.map fun x => V.ref x.2.1) (kvs.map (·.1))
  | _, _, .nil => ⟨.nil, .nil⟩
  | _, _, .cons hk rk rv rp t => by
    obtain ⟨h1, h2⟩ := RpX.keysV t
    exact ⟨.cons rfl h1, .cons rk h2⟩
theorem RpX.valsV : ∀ {xs : List (NestedKey × Addr × Value)} {kvs : List (PV × PV)}, RpX T g xs kvs → ∃ ws, Vals ws (xs.map fun x => x.2.2) ∧ RpL T g ws (kvs.map (·.2))
  | _, _, .nil => ⟨[], .nil, .nil⟩
  | _, _, .cons (vv := vv) hk rk rv rp t => by
    obtain ⟨ws, h1, h2⟩ := RpX.valsV t
    exact ⟨vv :: ws, .cons rv h1, .cons rp h2⟩
end
section
variable {X : Cx} {pins : List (Addr × Obj)} {σ : L2.St} {H : Hp} {s : Shared} {g : Gh} {c : List PV}
/-- a dict, with its entries as they stand -/
theorem DicR.raw (I : Inv X pins σ H s) {a : Addr} {o : Obj} {kvs : List (PV × PV)} (e : H a = some (objO a o)) (d : DicR (wd X) g a o kvs) :
    ∃ es ep xs, s.heap.DictRaw a es ep ∧ es.toList = xs.map (entryOfKey (nestedKind X.prog X.w)) ∧ RpX (wd X) g xs kvs ∧ es.size = kvs.length := by
  obtain ⟨es, ep, hd, r⟩ := d.at_
  obtain ⟨xs, e1, rx⟩ := r.toX
  refine ⟨es, ep, xs, ⟨o, (I.hok a _ e).1, d.ex, hd⟩, e1, rx, ?_⟩
  rw [← Array.length_toList, e1, List.length_map, rx.len]
/-- sorted(x), the items of x gathered -/
theorem sorted_coll (hc : X.calm = true) (hu : X.A.units + 70 < cLine) {Q : VK} {u : Value} {ps : List PV} {vs : List V} {us : List Value} {z : PV} (I : Inv X pins σ H s) (hr : HR (wd X) g c H) (hv : Vals vs us) (hp : RpL (wd X) g vs ps) (hle : us.length ≤ sizeLine)
    (hne : (ps.all tupNE || ps.all notTup) = true) (e : psort ps = some z) (fin : FinO (wd X) g H c Q z)
    (hcol : ∀ {R : List Value → Shared → Prop} {E : Value → Shared → Prop}, (∀ (h' : Heap) (tk : Nat), (∀ b o, s.heap.get? b = some o → h'.get? b = some o) → R us { s with heap := h', toks := tk }) → wpAny (model X.prog X.w) X.A.in1 (collect u) R E s) :
    wpAny (model X.prog X.w) X.A (call (.builtin "sorted") [u]) (EP X pins σ Q) X.xe s := by
  unfold psort at e
  split at e <;> cases e
  rename_i hcond
  simp only [Bool.and_eq_true, decide_eq_true_eq] at hcond
  obtain ⟨⟨⟨hlen, hdat⟩, hal⟩, _⟩ := hcond
  rw [isort_merge hdat hal] at fin
  refine Calls.call_function_entry PyProof.Rows.kind_sorted PyProof.Rows.plain_sorted PyProof.Rows.entry_sorted (PyProof.Rows.args_sorted1 _) ?_
  unfold Builtin.«sorted»
  refine wpAny_bind (m := checkCount "sorted" 1 1 _) (wpAny_pure ?_)
  refine wpAny_bind (hcol fun h' tk hk => ?_)
  have I1 : Inv X pins σ H { s with heap := h', toks := tk } := I.kept hk
  have E1 : PySem.W.EachIs (RU (wd X) g) us ps := each_of hv hp
  have hll : us.length = ps.length := each_length E1
  have hkl : ps.length ≤ sizeLine := by rw [← hll]; exact hle
  refine wpAny_bind (wpAny_newList ?_ hle)
  have hoL : (h'.push (seqObj "list" us.toArray 0)).get? h'.objs.size = some (seqObj "list" us.toArray 0) := Heap.get?_push_size _ rfl
  show wpAny _ _ _ _ _ { s with heap := h'.push (seqObj "list" us.toArray 0), toks := tk }
  have hsm : ∀ p ∈ ps, small 60 p = true := fun p hp => List.all_eq_true.mp hdat p hp
  have er : PySem.W.EachIs (fun u p => ∃ as, Reads (h'.push (seqObj "list" us.toArray 0)) u (toD p) as ∧ h'.objs.size ∉ as) us ps :=
    (PySem.W.each_mem E1).mono fun u p ⟨⟨v, rvu, rp⟩, hm⟩ => by
      obtain ⟨as, r⟩ := Dp.reads I1 (toD p) v u (rp.dp hr 60 (hsm p hm)) rvu
      refine ⟨as, PyProof.Rows.Reads.keeps (fun _ _ q => Heap.get?_push_of_some _ q) r, fun hin => ?_⟩
      obtain ⟨o, ho⟩ := PyProof.On.reads_mem_get r _ hin
      exact absurd (Heap.lt_size ho) (Nat.lt_irrefl _)
  have hAl : PySem.W.AllAlike (ps.map toD) := fun d hd d' hd' => by
    obtain ⟨p, hp, rfl⟩ := List.mem_map.mp hd
    obtain ⟨q, hq, rfl⟩ := List.mem_map.mp hd'
    exact List.all_eq_true.mp (List.all_eq_true.mp hal p hp) q hq
  have hS : PySem.W.Sortable (ps.map toD) := by
    rw [Bool.or_eq_true] at hne
    rcases hne with hk | hk
    · refine .inl fun d hd => ?_
      obtain ⟨p, hp, rfl⟩ := List.mem_map.mp hd
      have := List.all_eq_true.mp hk p hp
      unfold tupNE at this
      split at this
      · exact ⟨_, _, by rw [toD, toDs]⟩
      · cases this
    · refine .inr fun d hd => ?_
      obtain ⟨p, hp, rfl⟩ := List.mem_map.mp hd
      have := List.all_eq_true.mp hk p hp
      cases p <;> first | (cases this; done) | (exact ⟨by simp [toD], by simp [toD]⟩)
  have hdep : ∀ p ∈ ps, X.A.in1.units + 1 + (toD p).depth < cLine := fun p hp => by
    have := (small_shape 60 p (hsm p hp)).2
    show X.A.units + 1 + 1 + _ < _
    omega
  refine wpAny_bind (wpAny_holding (PySem.W.list_sort_data (s := { s with heap := h'.push (seqObj "list" us.toArray 0), toks := tk }) (enc := toD) hoL E1 er hAl hS hkl hdep fun out hol ho => ?_))
  obtain ⟨ys, h1, h2⟩ := each_back ho
  obtain ⟨e', he'⟩ := PyProof.Rows.sortedHeap_at (vs := us) (out := out.toArray) hoL
  have hy : ys.length = out.length := h1.length
  refine wpAny_pure ⟨_, rfl, .ref h'.objs.size, upd H h'.objs.size (.lst ys), I1.laid (t' := tk) (fun b u e => ?_) (Nat.le_refl _)
    (show ObjOk X.prog X.w _ _ _ (.lst ys) from ⟨by rw [hy, hol]; exact hkl, out, e', h1, he'⟩), rfl, fin.newL hr h2 _ (I1.hok.fresh (Nat.le_refl _))⟩
  have hb : b < h'.objs.size := Heap.lt_size e
  show (sortedHeap (h'.push (seqObj "list" us.toArray 0)) h'.objs.size us out.toArray).get? b = some u
  rw [PyProof.Rows.sortedHeap_old (Nat.ne_of_lt hb) (by rw [size_push']; exact Nat.lt_succ_of_lt hb)]
  exact Heap.get?_push_of_some _ e
theorem b_sortedD (hc : X.calm = true) (hu : X.A.units + 70 < cLine) : CallR X (.builtin "sorted") (rCO (wd X) (bltop .sortedD)) := by
  intro pins s σ H vs us Q I r h
  obtain ⟨g, c, ps, z, hr, cx, e, fin⟩ := h
  unfold bltop at e
  split at e <;> first | (cases e; done) | skip
  all_goals first | contradiction | skip
  rename_i kvs _
  split at e
  rotate_left
  · cases e
  rename_i hne
  obtain ⟨v, rfl, cz⟩ := cx.one
  obtain ⟨a, o, rfl, ea, dr⟩ := cz.dic hr
  rw [Vals.ref1 r]
  obtain ⟨es, ep, xs, raw, ees, rx, hsz⟩ := dr.raw I ea
  have hle : es.size ≤ sizeLine := by rw [hsz, lim_eq]; exact dr.len
  obtain ⟨v1, v2⟩ := rx.keysV
  refine sorted_coll hc hu I hr v1 v2 (by rw [List.length_map, rx.len, ← hsz]; exact hle) (by rw [hne]; rfl) e fin fun {R E} k => ?_
  refine PySem.W.kdu_collect (A := X.A.in1) (KdlSrc.rawDict (ep := ep) dr.sm) (I.ok.hd hc) raw hle fun h' tk acc hk hacc => ?_
  have ev : acc.toList = xs.map fun x => Value.ref x.2.1 := by
    rw [items_eq (f := fun e => e.key) hacc, ees, List.map_map]; rfl
  rw [ev]
  exact k h' tk hk
/-- list(d) -/
theorem b_listD (hc : X.calm = true) : CallR X (.type "list") (rCO (wd X) (bltop .listD)) := by
  intro pins s σ H vs us Q I r h
  obtain ⟨g, c, ps, z, hr, cx, e, fin⟩ := h
  unfold bltop at e
  split at e <;> first | (cases e; done) | skip
  all_goals first | contradiction | skip
  rename_i kvs _
  cases e
  obtain ⟨v, rfl, cz⟩ := cx.one
  obtain ⟨a, o, rfl, ea, dr⟩ := cz.dic hr
  rw [Vals.ref1 r]
  obtain ⟨es, ep, xs, raw, ees, rx, hsz⟩ := dr.raw I ea
  have hle : es.size ≤ sizeLine := by rw [hsz, lim_eq]; exact dr.len
  obtain ⟨v1, v2⟩ := rx.keysV
  refine PySem.W.kdl_call (KdlSrc.rawDict (ep := ep) dr.sm) (I.ok.hd hc) raw hle fun h' tk acc c' hk hD hacc => ?_
  have ev : acc.toList = xs.map fun x => Value.ref x.2.1 := by
    rw [items_eq (f := fun e => e.key) hacc, ees, List.map_map]; rfl
  have hl : (xs.map fun x => V.ref x.2.1).length ≤ sizeLine := by
    rw [List.length_map, rx.len, ← hsz]; exact hle
  refine ⟨.ref s.heap.objs.size, upd H s.heap.objs.size (.lst (xs.map fun x => V.ref x.2.1)), I.laid (t' := tk) hk (Nat.le_refl _)
    (show ObjOk X.prog X.w _ _ _ (.lst (xs.map fun x => V.ref x.2.1)) from ⟨hl, acc.toList, c', by rw [ev]; exact v1, by rw [Array.toArray_toList]; exact hD⟩), rfl, fin.newL hr v2 _ (I.hok.fresh (Nat.le_refl _))⟩
/-- sorted(x) of a list, a tuple or a dict -/
theorem b_sortedB (hc : X.calm = true) (hu : X.A.units + 70 < cLine) : CallR X (.builtin "sorted") (rCO (wd X) (bltop .sorted)) := by
  intro pins s σ H vs us Q I r h
  obtain ⟨g, c, ps, z, hr, cx, e, fin⟩ := h
  unfold bltop at e
  split at e <;> first | (cases e; done) | skip
  all_goals first | contradiction | skip
  · exact b_sortedO hu pins s σ H vs us Q I r ⟨g, c, _, z, hr, cx, e, fin⟩
  · rename_i xs _
    split at e
    rotate_left
    · cases e
    rename_i hne
    obtain ⟨v, rfl, cz⟩ := cx.one
    obtain ⟨a, ws, rfl, ea, ra⟩ := cz.tup hr
    rw [Vals.ref1 r]
    obtain ⟨its, rv, pt, hz⟩ := I.tuple ea
    have hl := rv.length
    refine sorted_coll hc hu I hr rv ra (by rw [← hl]; exact hz) hne e fin fun {R E} k => ?_
    obtain ⟨o, ho, hcl, n, hd⟩ := pt
    refine wpAny_collect_seq a (T := "tuple") (.inr rfl) ho hcl hd (fun h' hk => ?_) (by rw [List.size_toArray, ← hl]; exact hz)
    exact k h' s.toks hk
  · exact b_sortedD hc hu pins s σ H vs us Q I r ⟨g, c, _, z, hr, cx, e, fin⟩
end
/-! ### views -/
def viewOb (d : Addr) : Obj := { cls := .type "dict_values", data := .fields #[.ref d] }
section
variable {prog : Program} {w : World} {A : Around} {E : Value → Shared → Prop} {s : Shared}
theorem call_values_raw {d : Addr} {Q : Value → Shared → Prop} (hT : s.TypeIs (.ref d) "dict") (hd : (d == sysModules) = false) (h : Q (.ref s.heap.objs.size) { s with heap := s.heap.push (viewOb d) }) :
    wpAny (model prog w) A (call (.builtin "dict.values") [.ref d]) Q E s :=
  call_meetsIn PySem.F.slot_dict_values hT PySem.F.entry_dict_values (PySem.F.args_dict_values_1 _)
    (S := fun _ R s' => s'.TypeIs (.ref d) "dict" ∧ R (.ok (.ret (.ref s'.heap.objs.size))) { s' with heap := s'.heap.push (viewOb d) })
    (.of_wp fun A R s ⟨hT, h⟩ => by
      refine wpAny_bind ?_
      unfold Builtin.Dict.noArgs
      refine wpAny_bind (wpAny_notOrdered_dict hT ?_)
      show wpAny _ _ (pure d) _ _ s
      refine wpAny_pure ?_
      show wpAny _ _ (Builtin.Dict.showsAll d >>= _) _ _ s
      unfold Builtin.Dict.showsAll
      rw [if_neg (by rw [hd]; exact Bool.false_ne_true)]
      refine wpAny_bind (wpAny_pure ?_)
      exact wpAny_bind (wpAny_newObj_type (wpAny_pure ⟨_, rfl, h⟩))) ⟨hT, h⟩
end
section
variable {X : Cx} {W : WX} {a k d e : Expr} {ea ek ed ev : Ev} {ta : TE} {pos p apos cpos : Pos}
def tVals (ta : TE) : TE := fun σ H Q => ta σ H fun x H1 => ∃ a, x = .ref a ∧ ((∃ ob, H1 a = some (objO a ob) ∧ (a == sysModules) = false ∧ ob.ExactDict) ∨ ∃ kvs : List (Key × V), H1 a = some (.dK kvs)) ∧ ∀ p, H1 p = none → Q (.ref p) (upd H1 p (objO p (viewOb a)))
theorem pe_vals (ho : L2.PE X a ta) (hbase : attributeBase a "values" X.env (eval a X.env) = eval a X.env) (hline : (apos.endLine == cpos.line) = true) : L2.PE X (.Call (.Attribute a "values" apos) [] [] cpos) (tVals ta) :=
  ⟨fun pins s σ H Q I h => wpAny_Call_method0_late hbase hline (thn (ho.run pins s σ H _ I h) fun v s1 ⟨x, H1, I1, r1, b, ex, alt, q⟩ => by
    subst ex
    obtain rfl : v = Value.ref b := r1
    obtain ⟨ob, hob, sm, exd⟩ : ∃ ob, s1.heap.get? b = some ob ∧ (b == sysModules) = false ∧ ob.ExactDict := by
      rcases alt with ⟨ob, ea, sm, exd⟩ | ⟨kvs, ea⟩
      · exact ⟨ob, (I1.hok b _ ea).1, sm, exd⟩
      · obtain ⟨_, sm, vs, rel, ob, es, ep, ho, exd, _⟩ := dk_of I1.hok ea
        exact ⟨ob, ho, sm, exd⟩
    exact ⟨"dict", "dict.values", PySem.F.plainAttrs_dict, PySem.F.slot_dict_values, PySem.F.type_dict_values, ⟨ob, hob, exd.1⟩, fun b' q => by cases q; exact ⟨ob, hob, exd.2.1⟩,
      Calls.callWith_builtin rfl (PySem.evalArgs_none (call_values_raw ⟨ob, hob, exd.1⟩ sm ⟨.ref s1.heap.objs.size, _, I1.laid (t' := s1.toks) (fun _ _ q => Heap.get?_push_of_some _ q) (Nat.le_refl _) (objO_new (Heap.get?_push_size _ rfl)), rfl, q _ (I1.hok.fresh (Nat.le_refl _))⟩))⟩)⟩
theorem cr_listV (hc : X.calm = true) : CallR X (.type "list") (fun vs H Q => ∃ (r a : Addr) (ob : Obj) (g : Gh) (kvs : List (PV × PV)), vs = [.ref r] ∧ H r = some (objO r (viewOb a)) ∧ H a = some (objO a ob) ∧ DicR (wd X) g a ob kvs ∧
    ∀ ws p, RpL (wd X) g ws (kvs.map (·.2)) → H p = none → Q (.ref p) (upd H p (.lst ws))) := by
  intro pins s σ H vs us Q I r h
  obtain ⟨v, a, ob, g, kvs, rfl, hv, ha, dr, q⟩ := h
  rw [Vals.ref1 r]
  obtain ⟨es, ep, xs, raw, ees, rx, hsz⟩ := dr.raw I ha
  have hle : es.size ≤ sizeLine := by rw [hsz, lim_eq]; exact dr.len
  have vw : s.heap.IsValuesView v a := ⟨viewOb a, (I.hok v _ hv).1, rfl, rfl⟩
  obtain ⟨ws, v1, v2⟩ := rx.valsV
  refine PySem.W.kdl_call (KdlSrc.rawValues (r := v) (d := a) (es := es) (ep := ep)) (I.ok.hd hc) ⟨vw, raw⟩ hle fun h' tk acc c' hk hD hacc => ?_
  have ev : acc.toList = xs.map fun x => x.2.2 := by
    rw [items_eq (f := fun e => e.val) hacc, ees, List.map_map]; rfl
  have hl : ws.length ≤ sizeLine := by
    have := v2.length
    rw [List.length_map] at this
    rw [this, ← hsz]; exact hle
  refine ⟨.ref s.heap.objs.size, upd H s.heap.objs.size (.lst ws), I.laid (t' := tk) hk (Nat.le_refl _)
    (show ObjOk X.prog X.w _ _ _ (.lst ws) from ⟨hl, acc.toList, c', by rw [ev]; exact v1, by rw [Array.toArray_toList]; exact hD⟩), rfl, q ws _ v2 (I.hok.fresh (Nat.le_refl _))⟩
theorem pairs_vals {prog : Program} {w : World} : ∀ {es : List DictEntry} {vs : List (Key × Value)} {kvs : List (Key × V)}, Pairs (mixKind prog w) es vs → KV kvs vs → Vals (kvs.map (·.2)) (es.map fun e => e.val)
  | _, _, _, .nil, .nil => .nil
  | _, _, _, .cons _ e t, .cons r t' => by
    rw [List.map_cons, List.map_cons, e]
    exact .cons r.2 (pairs_vals t t')
theorem cr_listVK (hc : X.calm = true) : CallR X (.type "list") (fun vs H Q => ∃ (r a : Addr) (kvs : List (Key × V)), vs = [.ref r] ∧ H r = some (objO r (viewOb a)) ∧ H a = some (.dK kvs) ∧
    ∀ p, H p = none → Q (.ref p) (upd H p (.lst (kvs.map (·.2))))) := by
  intro pins s σ H vs us Q I r h
  obtain ⟨v, a, kvs, rfl, hv, ha, q⟩ := h
  rw [Vals.ref1 r]
  obtain ⟨hle, sm, vs, rel, ob, es, ep, ho, ex, hd, hk, hp, nd⟩ := dk_of I.hok ha
  have vw : s.heap.IsValuesView v a := ⟨viewOb a, (I.hok v _ hv).1, rfl, rfl⟩
  have v1 := pairs_vals hp rel
  have hsz : es.size = kvs.length := by
    have := v1.length
    rw [List.length_map, List.length_map, Array.length_toList] at this
    exact this.symm
  refine PySem.W.kdl_call (KdlSrc.rawValues (r := v) (d := a) (es := es) (ep := ep)) (I.ok.hd hc) ⟨vw, ob, ho, ex, hd⟩ (by rw [hsz]; exact hle) fun h' tk acc c' hk hD hacc => ?_
  have ev : acc.toList = es.toList.map fun e => e.val := items_eq (f := fun e => e.val) hacc
  refine ⟨.ref s.heap.objs.size, upd H s.heap.objs.size (.lst (kvs.map (·.2))), I.laid (t' := tk) hk (Nat.le_refl _)
    (show ObjOk X.prog X.w _ _ _ (.lst (kvs.map (·.2))) from ⟨by rw [List.length_map]; exact hle, acc.toList, c', by rw [ev]; exact v1, by rw [Array.toArray_toList]; exact hD⟩), rfl, q _ (I.hok.fresh (Nat.le_refl _))⟩
/-- list(d.values()) -/
theorem x_valsD (hc : X.calm = true) (kl : BOk X "list") (ha : XB X W a ea) (hb : attributeBase a "values" X.env (eval a X.env) = eval a X.env) (hline : (apos.endLine == cpos.line) = true) :
    XO X W (.Call (.Name "list" p) [.Call (.Attribute a "values" apos) [] [] cpos] [] pos) (b1 .valsD ea) := by
  refine pe_weak (pe_callTy (cr_or (cr_listV hc) (cr_listVK hc)) kl.gl kl.no (by decide +kernel) (pa_cons (pe_vals ha hb hline) pa_nil rfl) kl.nn kl.nd rfl rfl) fun σ H Q h => ?_
  have e : b1 .valsD ea = fun env c => (ea env c).bind fun x c => pureR (bltop .valsD [x]) c := by
    funext env c
    unfold b1
    rw [R.bind_assoc]; rfl
  rw [e] at h
  refine (tR.one (f := fun x c => pureR (bltop .valsD [x]) c) h).mono fun x g1 c1 H1 ⟨h1, d1, k1⟩ v cv => ?_
  obtain ⟨z, ez, kz⟩ := k1.pure
  cases x with
  | dic kvs =>
    cases ez
    obtain ⟨b, ob, rfl, eb, dr⟩ := cv.dic h1
    refine ⟨b, rfl, .inl ⟨ob, eb, dr.sm, dr.ex⟩, fun r hr0 => ?_⟩
    obtain ⟨p', h''⟩ := h1.fresh (o := objO r (viewOb b)) hr0
    have nb : b ≠ r := fun z => by rw [z, hr0] at eb; cases eb
    refine .inl ⟨r, b, ob, g1, kvs, rfl, upd_same, by rw [upd_ne nb]; exact eb, dr, fun ws q hws hq => ?_⟩
    have fin : FinO (wd X) g1 (upd H1 r (objO r (viewOb b))) c1 Q (.lst (kvs.map (·.2))) := fun g' H' a p'' h' na nf nc o => kz g' H' (p'.trans p'') h' a (d1 a (p'.dead na)) nf nc o
    exact fin.newL h'' hws q hq
  | dki ks vs =>
    cases ez
    obtain ⟨b, kvs, rfl, eb, ek, ra⟩ := cv.dki h1
    refine ⟨b, rfl, .inr ⟨kvs, eb⟩, fun r hr0 => ?_⟩
    obtain ⟨p', h''⟩ := h1.fresh (o := objO r (viewOb b)) hr0
    have nb : b ≠ r := fun z => by rw [z, hr0] at eb; cases eb
    refine .inr ⟨r, b, kvs, rfl, upd_same, by rw [upd_ne nb]; exact eb, fun q hq => ?_⟩
    have fin : FinO (wd X) g1 (upd H1 r (objO r (viewOb b))) c1 Q (.lst vs) := fun g' H' a p'' h' na nf nc o => kz g' H' (p'.trans p'') h' a (d1 a (p'.dead na)) nf nc o
    exact fin.newL h'' ra q hq
  | _ => simp [bltop] at ez
/-! ### d.get -/
theorem RpX.at_ {T : Wd} {g : Gh} {y : PV} (hy : isKey y = true) : ∀ {xs : List (NestedKey × Addr × Value)} {kvs : List (PV × PV)}, RpX T g xs kvs → (match dget kvs y with
      | some v => ∃ u vv, (atKey xs (nk y)).map (·.2) = some u ∧ RelV vv u ∧ Rp T g vv v
      | none => (atKey xs (nk y)).map (·.2) = none)
  | _, _, .nil => rfl
  | _, _, .cons (k := k0) (v := v0) (ka := ka) (u := u) (xs := xs) (kvs := kvs) hk rk rv rp t => by
    have ih := RpX.at_ hy t
    rw [dget, key_eq hk hy]
    by_cases h : nk k0 = nk y
    · rw [decide_eq_true h, if_pos rfl]
      exact ⟨u, _, by simp [atKey, h], rv, rp⟩
    · rw [decide_eq_false h, if_neg Bool.false_ne_true]
      have e : atKey ((nk k0, ka, u) :: xs) (nk y) = atKey xs (nk y) := by simp [atKey, h]
      rw [e]
      exact ih
theorem stageB {K : PV → Gh → List PV → Hp → Prop} {Q : Value → Shared → Prop} {pins : List (Addr × Obj)} {σ : L2.St} {H H1 : Hp} {s : Shared} {g g1 : Gh} {c : List PV} {env : Env} {B : Addr → Prop} {rest : PV → List PV → R PV}
    (ha : XB X W a ea) (I : Inv X pins σ H1 s) (er : EnvR (wd X) g1 H1 B env σ) (hr : HR (wd X) g1 c H1) (p : Pres g H g1 H1)
    (gd : GoodR (wd X) X.mg W g H σ K ((ea env c).bind rest))
    (k : ∀ x c2 g2 H2 v m s2, ea env c = .ok x c2 → Pres g1 H1 g2 H2 → HR (wd X) g2 c2 H2 → Ct (wd X) g2 H2 v x → RelV v m → Inv X pins σ H2 s2 → GoodR (wd X) X.mg W g H σ K (rest x c2) → Q m s2) :
    wpAny (model X.prog X.w) X.A (eval a X.env) Q X.xe s := by
  refine thn (ha.run pins s σ H1 (fun v H2 => ∃ x c2 g2, ea env c = .ok x c2 ∧ Pres g1 H1 g2 H2 ∧ HR (wd X) g2 c2 H2 ∧ Ct (wd X) g2 H2 v x) I ⟨g1, env, c, B, er, hr, ?_⟩) fun m s2 ⟨v, H2, I2, rv, x, c2, g2, hx, p2, h2, r2⟩ => ?_
  · cases hx : ea env c with
    | ok x c2 => exact fun g2 H2 p2 h2 v rv => ⟨x, c2, g2, rfl, p2, h2, rv⟩
    | exc cl arg c2 => rw [hx] at gd; exact GoodR.pres (x := (R.exc cl arg c2 : R PV)) gd p
    | stuck => rw [hx] at gd; exact gd.elim
  · rw [hx] at gd
    exact k x c2 g2 H2 v m s2 hx p2 h2 r2 rv I2 gd
def get1R (ea ev : Ev) : Ev := fun env c => (ea env c).bind fun x c => guardR (recv .get1 x) ((ev env c).bind fun y c => pureR (mthop .get1 x [y]) c)
def get2R (ea ev ed : Ev) : Ev := fun env c => (ea env c).bind fun x c => guardR (recv .get2 x) ((ev env c).bind fun y c => (ed env c).bind fun z c => pureR (mthop .get2 x [y, z]) c)
/-- d.get(k) -/
theorem x_get1 (hu : X.A.units + 70 < cLine) (ha : XB X W a ea) (he : XE' X W e ev) (hse : notStar e = true) (hb : attributeBase a "get" X.env (eval a X.env) = eval a X.env) (hline : (apos.endLine == cpos.line) = true) :
    XE' X W (.Call (.Attribute a "get" apos) [e] [] cpos) (get1R ea ev) := ⟨fun pins s σ H Q I q => by
  obtain ⟨g, env, c, B, er, hr, gd⟩ := q
  have gd : GoodR (wd X) X.mg W g H σ (fun p g' x H' => ∀ v, Rp (wd X) g' v p → Q v H') ((ea env c).bind fun x c => guardR (recv .get1 x) ((ev env c).bind fun y c => pureR (mthop .get1 x [y]) c)) := gd
  refine wpAny_Call_method1_late hb hline (by rw [star_cons hse]; rfl) (stageB ha I er hr Pres.refl gd fun x c2 g2 H2 v m s2 hx p2 h2 r2 rv I2 gd => ?_)
  cases x with
  | dic kvs =>
    obtain ⟨b, ob, rfl, eb, dr⟩ := r2.dic h2
    obtain rfl : m = Value.ref b := rv
    have hob := (I2.hok b _ eb).1
    refine ⟨"dict", "dict.get", PySem.F.plainAttrs_dict, PySem.F.slot_dict_get, PySem.F.type_dict_get, ⟨ob, hob, dr.ex.1⟩, fun b' q => by cases q; exact ⟨ob, hob, dr.ex.2.1⟩, Calls.callWith_builtin rfl (Calls.evalArgs_plain (Calls.spliced_cons ?_))⟩
    have gd : GoodR (wd X) X.mg W g H σ (fun p g' x H' => ∀ v, Rp (wd X) g' v p → Q v H') ((ev env c2).bind fun y c => pureR (mthop .get1 (.dic kvs) [y]) c) := gd
    refine stage he I2 (er.pres p2) h2 p2 gd fun y c3 g3 H3 v3 m3 s3 hy p3 h3 r3 rv3 I3 gd => Calls.spliced_nil ?_
    obtain ⟨z, ez, kz⟩ := gd.pure
    rw [show mthop .get1 (.dic kvs) [y] = if isKey y = true then some ((dget kvs y).getD .non) else none from rfl] at ez
    split at ez <;> cases ez
    rename_i hk
    obtain ⟨b', ob', eq', eb', dr'⟩ := (r2.pres p3).dic h3
    cases eq'
    obtain ⟨ka, rfl, rfl, hi⟩ := r3.key I3 h3 hk rv3
    obtain ⟨xs, rx, hm, _⟩ := dr'.x I3 h3 eb'
    have hroom : (nestedKind X.prog X.w).room X.A.in1 := by
      show X.A.units + 1 + 8 < cLine
      omega
    have at_ := rx.at_ hk
    refine call_meetsIn PySem.F.slot_dict_get hm.typeIs PySem.F.entry_dict_get (PySem.F.args_dict_get_2 _ _) (meetsH_dict_get (nestedKind X.prog X.w) b ka dr'.sm) ⟨hroom, nk y, xs, hi, hm, ?_⟩
    cases hg : dget kvs y with
    | some v =>
      rw [hg] at at_ kz
      obtain ⟨u, vv, e1, e2, e3⟩ := at_
      rw [e1]
      exact ⟨vv, H3, I3.tok _, e2, kz g3 H3 (p2.trans p3) h3 vv e3⟩
    | none =>
      rw [hg] at at_ kz
      rw [show (atKey xs (nk y)).map (·.2) = none from at_]
      exact ⟨.non, H3, I3.tok _, rfl, kz g3 H3 (p2.trans p3) h3 .non .non⟩
  | _ => exact gd.elim⟩
/-- d.get(k, x) -/
theorem x_get2 (hu : X.A.units + 70 < cLine) (ha : XB X W a ea) (he : XE' X W e ev) (hd : XE' X W d ed) (hse : notStar e = true) (hsd : notStar d = true) (hb : attributeBase a "get" X.env (eval a X.env) = eval a X.env) (hline : (apos.endLine == cpos.line) = true) :
    XE' X W (.Call (.Attribute a "get" apos) [e, d] [] cpos) (get2R ea ev ed) := ⟨fun pins s σ H Q I q => by
  obtain ⟨g, env, c, B, er, hr, gd⟩ := q
  have gd : GoodR (wd X) X.mg W g H σ (fun p g' x H' => ∀ v, Rp (wd X) g' v p → Q v H') ((ea env c).bind fun x c => guardR (recv .get2 x) ((ev env c).bind fun y c => (ed env c).bind fun z c => pureR (mthop .get2 x [y, z]) c)) := gd
  refine wpAny_Call_method2_late hb hline (by rw [star_cons hse, star_cons hsd]; rfl) (stageB ha I er hr Pres.refl gd fun x c2 g2 H2 v m s2 hx p2 h2 r2 rv I2 gd => ?_)
  cases x with
  | dic kvs =>
    obtain ⟨b, ob, rfl, eb, dr⟩ := r2.dic h2
    obtain rfl : m = Value.ref b := rv
    have hob := (I2.hok b _ eb).1
    refine ⟨"dict", "dict.get", PySem.F.plainAttrs_dict, PySem.F.slot_dict_get, PySem.F.type_dict_get, ⟨ob, hob, dr.ex.1⟩, fun b' q => by cases q; exact ⟨ob, hob, dr.ex.2.1⟩, Calls.callWith_builtin rfl (Calls.evalArgs_plain (Calls.spliced_cons ?_))⟩
    have gd : GoodR (wd X) X.mg W g H σ (fun p g' x H' => ∀ v, Rp (wd X) g' v p → Q v H') ((ev env c2).bind fun y c => (ed env c).bind fun z c => pureR (mthop .get2 (.dic kvs) [y, z]) c) := gd
    refine stage he I2 (er.pres p2) h2 p2 gd fun y c3 g3 H3 v3 m3 s3 hy p3 h3 r3 rv3 I3 gd => Calls.spliced_cons ?_
    refine stage hd I3 (er.pres (p2.trans p3)) h3 (p2.trans p3) gd fun w c4 g4 H4 v4 m4 s4 hw p4 h4 r4 rv4 I4 gd => Calls.spliced_nil ?_
    obtain ⟨z, ez, kz⟩ := gd.pure
    rw [show mthop .get2 (.dic kvs) [y, w] = if isKey y = true then some ((dget kvs y).getD w) else none from rfl] at ez
    split at ez <;> cases ez
    rename_i hk
    obtain ⟨b', ob', eq', eb', dr'⟩ := (r2.pres (p3.trans p4)).dic h4
    cases eq'
    obtain ⟨ka, rfl, rfl, hi⟩ := (r3.ext p4.ext).key I4 h4 hk rv3
    obtain ⟨xs, rx, hm, _⟩ := dr'.x I4 h4 eb'
    have hroom : (nestedKind X.prog X.w).room X.A.in1 := by
      show X.A.units + 1 + 8 < cLine
      omega
    have at_ := rx.at_ hk
    have pp := (p2.trans p3).trans p4
    refine call_meetsIn PySem.F.slot_dict_get hm.typeIs PySem.F.entry_dict_get (PySem.F.args_dict_get_3 _ _ _) (meetsH_dict_get_default (nestedKind X.prog X.w) b ka dr'.sm m4) ⟨hroom, nk y, xs, hi, hm, ?_⟩
    cases hg : dget kvs y with
    | some v =>
      rw [hg] at at_ kz
      obtain ⟨u, vv, e1, e2, e3⟩ := at_
      rw [e1]
      exact ⟨vv, H4, I4.tok _, e2, kz g4 H4 pp h4 vv e3⟩
    | none =>
      rw [hg] at at_ kz
      rw [show (atKey xs (nk y)).map (·.2) = none from at_]
      exact ⟨v4, H4, I4.tok _, rv4, kz g4 H4 pp h4 v4 r4⟩
  | dki ks ps =>
    obtain ⟨b, kvs, rfl, eb, ek, er0⟩ := r2.dki h2
    obtain rfl : m = Value.ref b := rv
    obtain ⟨t1, t2, _⟩ := isD_at I2 (.inl ⟨kvs, .inl eb⟩)
    refine ⟨"dict", "dict.get", PySem.F.plainAttrs_dict, PySem.F.slot_dict_get, PySem.F.type_dict_get, t1, t2, Calls.callWith_builtin rfl (Calls.evalArgs_plain (Calls.spliced_cons ?_))⟩
    have gd : GoodR (wd X) X.mg W g H σ (fun p g' x H' => ∀ v, Rp (wd X) g' v p → Q v H') ((ev env c2).bind fun y c => (ed env c).bind fun z c => pureR (mthop .get2 (.dki ks ps) [y, z]) c) := gd
    refine stage he I2 (er.pres p2) h2 p2 gd fun y c3 g3 H3 v3 m3 s3 hy p3 h3 r3 rv3 I3 gd => Calls.spliced_cons ?_
    refine stage hd I3 (er.pres (p2.trans p3)) h3 (p2.trans p3) gd fun w c4 g4 H4 v4 m4 s4 hw p4 h4 r4 rv4 I4 gd => Calls.spliced_nil ?_
    obtain ⟨z, ez, kz⟩ := gd.pure
    have pp := (p2.trans p3).trans p4
    cases y with
    | int n =>
      have ez : some ((lookK ks ps n).getD w) = some z := ez
      cases ez
      obtain ⟨b', kvs', eq', eb', ek', er'⟩ := (r2.pres (p3.trans p4)).dki h4
      cases eq'
      cases r3
      refine d_get2 (o := valV kvs' (.inl n)) (by show X.A.units + 1 < cLine; omega) I4 (.inl ⟨kvs', .inl n, .inl eb', rfl, rfl⟩) rv3 rv4 fun w' s' I' rw' => ?_
      cases hl : lookK ks ps n with
      | some z0 =>
        obtain ⟨w0, e1, e2⟩ := lookK_val ek' er' hl
        rw [e1] at rw'
        rw [hl] at kz
        exact ⟨w0, H4, I', rw', kz g4 H4 pp h4 w0 e2⟩
      | none =>
        have hlen : ps.length = ks.length := by
          have q1 := er'.length
          have q2 := congrArg List.length ek'
          rw [List.length_map, List.length_map] at q2
          rw [List.length_map] at q1
          omega
        obtain ⟨_, e1⟩ := lookK_none (n := 0) ek' hlen hl
        rw [e1] at rw'
        rw [hl] at kz
        exact ⟨v4, H4, I', rw', kz g4 H4 pp h4 v4 r4⟩
    | _ => exact absurd ez (by intro z; cases z)
  | _ => exact gd.elim⟩
end
end PP

set_option Elab.async false
set_option linter.all false
set_option maxRecDepth 100000
/-! PP6k: sum(xs, []) of lists. -/
namespace PP
open PySem PySem.Spec PyProof.Rows L2
section
variable {prog : Program} {w : World} {A : Around} {E : Value → Shared → Prop} {s : Shared}
def catL (its : Nat → List Value) : Nat → Nat → List Value
  | _, 0 => []
  | i, k + 1 => its i ++ catL its (i + 1) k
theorem code_sumL {R : Result → Shared → Prop} {I S : Addr} {fp wr : List Addr} {n : Nat} {Pv : Nat → Value → Prop} {St : Nat → Heap → Prop} (W : Walks prog w A.in1 I fp wr n Pv St) (base : Heap) (pa : Nat → Addr) (its : Nat → List Value)
    (hP : ∀ i v, Pv i v → v = .ref (pa i)) (hb : ∀ i, i < n → ∃ e, IsL base (pa i) (its i).toArray e) (hS : base.get? S = none) (SI : S ∉ fp) (hwr : ∀ b ∈ wr, base.get? b = none) (hsome : ∀ i h, St i h → ∀ b ∈ wr, ∃ o, h.get? b = some o) :
    ∀ (k i : Nat) (s : Shared) (acc : List Value) (t : Addr) (e c : Nat), n - i = k → i ≤ n → St i s.heap → (∀ b o, base.get? b = some o → s.heap.get? b = some o) → s.heap.get? S = some { cls := .type "list", data := .seq #[.ref t] c } → IsL s.heap t acc.toArray e → t ≠ S → t ∉ wr →
      (acc ++ catL its i k).length ≤ sizeLine →
      (∀ (h' : Heap) (tk : Nat) (t' : Addr) (e' : Nat), (∀ b o, base.get? b = some o → h'.get? b = some o) → IsL h' t' (acc ++ catL its i k).toArray e' → (k = 0 → t' = t) → (0 < k → S < t') → R (.ok (.ret (.ref t'))) { s with heap := h', toks := tk }) →
      codeAny (model prog w) A (.builtin "sum.loop" ⟨[.ref I, .ref S, rawInt 2, rawInt 0], []⟩) R s := by
  have hSw : S ∉ wr := fun h => SI (W.sub S h)
  intro k
  induction k with
  | zero =>
    intro i s acc t e c hk hi hst hk0 hS1 hT hTS hTw hlen hR
    have hin : i = n := by omega
    subst hin
    refine codeAny_builtin F.entry_sum_loop ?_
    rw [Around.under_plainId F.plain_sum_loop]
    refine wpAny_bind (wpAny_seqItems hS1 rfl ?_)
    refine wpAny_bind (wpAny_tryCatch (W.done s _ _ hst fun h' tk hkeep => ?_))
    have hT' : IsL h' t acc.toArray e := hkeep t _ hTw hT
    refine wpAny_pure ?_
    refine hR h' tk t e (fun b o hb => hkeep b o (fun z => by rw [hwr b z] at hb; cases hb) (hk0 b o hb)) ?_ (fun _ => rfl) (fun z => absurd z (by decide))
    rw [catL, List.append_nil]; exact hT'
  | succ k ih =>
    intro i s acc t e c hk hi hst hk0 hS1 hT hTS hTw hlen hR
    refine codeAny_builtin F.entry_sum_loop ?_
    rw [Around.under_plainId F.plain_sum_loop]
    refine wpAny_bind (wpAny_seqItems hS1 rfl ?_)
    refine wpAny_bind (wpAny_tryCatch (W.item i s _ _ (by omega) hst fun v h' tk hv hst' hkeep => ?_))
    have ev := hP i v hv
    subst ev
    obtain ⟨e2, hb2⟩ := hb i (by omega)
    have inb : ∀ b o, base.get? b = some o → h'.get? b = some o := fun b o hb => hkeep b o (fun z => by rw [hwr b z] at hb; cases hb) (hk0 b o hb)
    have hT' : IsL h' t acc.toArray e := hkeep t _ hTw hT
    have hV' : IsL h' (pa i) (its i).toArray e2 := inb _ _ hb2
    have hS' : h'.get? S = some { cls := .type "list", data := .seq #[.ref t] c } := hkeep S _ hSw hS1
    have szN : base.get? h'.objs.size = none := by
      cases z : base.get? h'.objs.size with
      | none => rfl
      | some o => exact absurd (Heap.lt_size (inb _ _ z)) (Nat.lt_irrefl _)
    have SneN : S ≠ h'.objs.size := Nat.ne_of_lt (Heap.lt_size hS')
    have hl2 : acc.toArray.size + (its i).toArray.size ≤ sizeLine := by
      rw [catL] at hlen
      simp only [List.length_append] at hlen
      simp only [List.size_toArray]
      omega
    refine wpAny_bind (wpAny_attempt (wpAny_holding (P.add_list hT' hV' ?_ hl2)))
    have hS2 : (h'.push { cls := .type "list", data := .seq (acc.toArray ++ (its i).toArray) }).get? S = some { cls := .type "list", data := .seq #[.ref t] c } := Heap.get?_push_of_some _ hS'
    refine wpAny_bind (wpAny_updateSeq hS2 rfl ?_ (show (1 : Nat) ≤ sizeLine by decide) (show (1 : Nat) ≤ sizeLine + 1 by decide))
    refine wpAny_bind (wpAny_letGo ?_)
    have hS3 : ((h'.push { cls := .type "list", data := .seq (acc.toArray ++ (its i).toArray) }).update S (Obj.mapSeq fun _ => #[.ref h'.objs.size])).get? S = some { cls := .type "list", data := .seq #[.ref h'.objs.size] c } := by
      rw [Heap.get?_update_self _ hS2 rfl]; rfl
    refine wpAny_bind (wpAny_updateSeq hS3 rfl ?_ (show (1 : Nat) ≤ sizeLine by decide) (show (1 : Nat) ≤ sizeLine + 1 by decide))
    have hS4 : (((h'.push { cls := .type "list", data := .seq (acc.toArray ++ (its i).toArray) }).update S (Obj.mapSeq fun _ => #[.ref h'.objs.size])).update S (Obj.mapSeq fun _ => #[.ref h'.objs.size])).get? S = some { cls := .type "list", data := .seq #[.ref h'.objs.size] c } := by
      rw [Heap.get?_update_self _ hS3 rfl]; rfl
    refine wpAny_pure ⟨Code.quiet_builtin _ (by decide +kernel), ?_⟩
    have oth : ∀ b o, S ≠ b → h'.get? b = some o → (((h'.push { cls := .type "list", data := .seq (acc.toArray ++ (its i).toArray) }).update S (Obj.mapSeq fun _ => #[.ref h'.objs.size])).update S (Obj.mapSeq fun _ => #[.ref h'.objs.size])).get? b = some o := fun b o hb e => by
      rw [Heap.get?_update_other _ _ hb, Heap.get?_update_other _ _ hb]
      exact Heap.get?_push_of_some _ e
    have inb2 : ∀ b o, base.get? b = some o → (((h'.push { cls := .type "list", data := .seq (acc.toArray ++ (its i).toArray) }).update S (Obj.mapSeq fun _ => #[.ref h'.objs.size])).update S (Obj.mapSeq fun _ => #[.ref h'.objs.size])).get? b = some o := fun b o hb => oth b o (fun z => by rw [← z, hS] at hb; cases hb) (inb b o hb)
    refine ih (i + 1) _ (acc ++ its i) h'.objs.size 0 c (by omega) (by omega) (W.frame (i + 1) h' _ hst' fun b hb o e => oth b o (fun z => SI (z ▸ hb)) e) inb2 hS4 ?_ (fun z => SneN z.symm) ?_ ?_ fun h2 tk2 t2 e2 k2 l2 n1 n2 => ?_
    · show Heap.get? _ _ = _
      rw [Heap.get?_update_other _ _ SneN, Heap.get?_update_other _ _ SneN]
      have q : (h'.push { cls := .type "list", data := .seq (acc.toArray ++ (its i).toArray) }).get? h'.objs.size = some { cls := .type "list", data := .seq (acc.toArray ++ (its i).toArray) } := Heap.get?_push_size _ rfl
      rw [q]
      simp
    · intro z
      obtain ⟨o, ho⟩ := hsome (i + 1) h' hst' _ z
      exact absurd (Heap.lt_size ho) (Nat.lt_irrefl _)
    · rw [List.append_assoc]; exact hlen
    · refine hR h2 tk2 t2 e2 k2 (by rw [catL, ← List.append_assoc]; exact l2) (fun z => absurd z (by omega)) fun _ => ?_
      rcases Nat.eq_zero_or_pos k with z | z
      · rw [n1 z]; exact Heap.lt_size hS'
      · exact n2 z
theorem call_sumL {l st : Addr} {pa : List Addr} {its : Nat → List Value} {e : Nat} {Q : Value → Shared → Prop} (hh : A.handled = none) (hl : s.heap.IsList l (pa.map Value.ref).toArray) (hb : ∀ i p, pa[i]? = some p → ∃ e, IsL s.heap p (its i).toArray e)
    (hst : IsL s.heap st #[] e) (hlen : (catL its 0 pa.length).length ≤ sizeLine)
    (h : ∀ (h' : Heap) (tk : Nat) (t' : Addr) (e' : Nat), (∀ b o, s.heap.get? b = some o → h'.get? b = some o) → IsL h' t' (catL its 0 pa.length).toArray e' → (pa = [] → t' = st) → (pa ≠ [] → s.heap.objs.size ≤ t') → Q (.ref t') { s with heap := h', toks := tk }) :
    wpAny (model prog w) A (call (.builtin "sum") [.ref l, .ref st]) Q E s := by
  refine call_function_tree F.kind_sum F.plain_sum F.entry_sum (by rfl) ?_
  obtain ⟨⟨oc, od, oda, osl⟩, ho, hoc, on, hod⟩ := id hl
  simp only at hoc hod
  subst hoc hod
  have lt : l < s.heap.objs.size := Heap.lt_size ho
  have t1 := F.sub_list_str
  have t2 := F.sub_list_bytes
  unfold Builtin.sum
  generalize gpi : pyIter = PI
  wp_walk
  subst gpi
  refine wpAny_pyIter_list hl ?_
  have t3 := F.sub_list_bytearray
  have tyS : Shared.TypeIs { s with heap := s.heap.push { cls := .type "list_iterator", data := .fields #[.ref l, .int 0 0] } } (.ref st) "list" := ⟨_, Heap.get?_push_of_some _ hst, rfl⟩
  wp_walk
  refine ⟨Code.quiet_builtin _ (by decide +kernel), ?_⟩
  have dead : ∀ b : Nat, s.heap.objs.size ≤ b → s.heap.get? b = none := fun b hb => by
    cases q : s.heap.get? b with
    | none => rfl
    | some o => exact absurd (Heap.lt_size q) (Nat.not_lt.mpr hb)
  have szI : (s.heap.push { cls := .type "list_iterator", data := .fields #[.ref l, .int 0 0] }).objs.size = s.heap.objs.size + 1 := Heap.size_push ..
  have deadI : s.heap.get? s.heap.objs.size = none := dead _ (Nat.le_refl _)
  have deadS : s.heap.get? (s.heap.push { cls := .type "list_iterator", data := .fields #[.ref l, .int 0 0] }).objs.size = none := dead _ (by rw [szI]; exact Nat.le_succ _)
  have nlI : l ≠ s.heap.objs.size := Nat.ne_of_lt lt
  have nlS : (s.heap.push { cls := .type "list_iterator", data := .fields #[.ref l, .int 0 0] }).objs.size ≠ l := by rw [szI]; exact (Nat.ne_of_lt (Nat.lt_succ_of_lt lt)).symm
  have nSI : (s.heap.push { cls := .type "list_iterator", data := .fields #[.ref l, .int 0 0] }).objs.size ≠ s.heap.objs.size := by rw [szI]; exact (Nat.ne_of_lt (Nat.lt_succ_self _)).symm
  have hh1 : A.in1.handled = none := by simp [hh]
  have kept : ∀ b o, s.heap.get? b = some o → ((s.heap.push { cls := .type "list_iterator", data := .fields #[.ref l, .int 0 0] }).push { cls := .type "list", data := .seq #[.ref st] }).get? b = some o := fun b o e => Heap.get?_push_of_some _ (Heap.get?_push_of_some _ e)
  have hsz : (pa.map Value.ref).toArray.size = pa.length := by simp
  have nst : ∀ b : Nat, s.heap.objs.size ≤ b → st ≠ b := fun b hb z => by
    subst z
    exact absurd (Heap.lt_size hst) (Nat.not_lt.mpr hb)
  refine code_sumL (Walks.list hh1 s.heap.objs.size l nlI _) s.heap (fun i => pa.getD i 0) its (fun i v hv => ?_) (fun i hi => ?_) deadS (by simp only [List.mem_cons, List.not_mem_nil, or_false, not_or]; exact ⟨nSI, nlS⟩) (fun b hb => by rw [List.mem_singleton.mp hb]; exact deadI)
    (fun i h hst b hb => by
      rw [List.mem_singleton.mp hb]
      obtain ⟨o, h1, _⟩ := hst.1
      exact ⟨o, h1⟩) pa.length 0 _ [] st e 0 (by rw [hsz, Nat.sub_zero]) (Nat.zero_le _) ⟨⟨_, Heap.get?_push_of_some _ (Heap.get?_push_size _ rfl), rfl, rfl⟩, (hl.push _).push _⟩ kept (Heap.get?_push_size _ rfl) (kept _ _ hst) (nst _ (by rw [szI]; exact Nat.le_succ _)) (by rw [List.mem_singleton]; exact nst _ (Nat.le_refl _)) hlen fun h' tk t' e' k1 k2 k3 k4 => ?_
  · have hv : (pa.map Value.ref)[i]? = some v := by simpa using hv
    rw [List.getElem?_map] at hv
    obtain ⟨p, e1, e2⟩ := Option.map_eq_some_iff.mp hv
    rw [List.getD_eq_getElem?_getD, e1, ← e2]; rfl
  · rw [hsz] at hi
    have e1 : pa[i]? = some (pa.getD i 0) := by rw [List.getD_eq_getElem?_getD, List.getElem?_eq_getElem hi]; rfl
    exact hb i _ e1
  · refine h h' tk t' e' k1 k2 (fun z => k3 (by rw [z]; rfl)) fun z => by
      have := k4 (List.length_pos_iff.mpr z)
      rw [szI] at this
      exact Nat.le_of_lt (Nat.lt_of_succ_lt this)
end
theorem cat_vals : ∀ (xs : List (List V)) (f : Nat → List Value) (i : Nat), (∀ j x, xs[j]? = some x → Vals x (f (i + j))) → Vals xs.flatten (catL f i xs.length)
  | [], _, _, _ => .nil
  | x :: xs, f, i, h => by
    rw [List.flatten_cons, List.length_cons, catL]
    refine Vals.append (h 0 x rfl) (cat_vals xs f (i + 1) fun j y hy => ?_)
    have := h (j + 1) y hy
    rw [show i + (j + 1) = i + 1 + j by omega] at this
    exact this
theorem refs_vals : ∀ {pa : List Addr} {its : List Value}, Vals (pa.map V.ref) its → its = pa.map Value.ref
  | [], _, h => by cases h; rfl
  | a :: pa, _, h => by
    cases h with
    | cons r t =>
      cases r
      rw [refs_vals t]; rfl
/-- sum(xs, []) -/
def rSumL (vs : List V) (H : Hp) (Q : VK) : Prop := ∃ (l st : Addr) (pa : List Addr) (xs : List (List V)), vs = [.ref l, .ref st] ∧ H l = some (.lst (pa.map V.ref)) ∧ (∀ (i : Nat) (p : Addr) (x : List V), pa[i]? = some p → xs[i]? = some x → H p = some (.lst x)) ∧ H st = some (.lst []) ∧ xs.length = pa.length ∧ xs.flatten.length ≤ sizeLine ∧
  (pa = [] → Q (.ref st) H) ∧ (pa ≠ [] → ∀ p, H p = none → Q (.ref p) (upd H p (.lst xs.flatten)))
theorem cr_sumL {X : Cx} (hc : X.calm = true) : CallR X (.builtin "sum") rSumL := by
  intro pins s σ H vs us Q I r h
  obtain ⟨l, st, pa, xs, rfl, hl, hx, hst, hlen, hsz, q0, q1⟩ := h
  have eus : us = [.ref l, .ref st] := by
    cases r with
    | cons r1 r2 =>
      cases r2 with
      | cons r3 r4 =>
        cases r4
        cases r1
        cases r3
        rfl
  subst eus
  obtain ⟨_, itl, nl, rvl, _, gl⟩ := I.lstM hl
  have el := refs_vals rvl
  subst el
  obtain ⟨_, its0, n0, rv0, _, g0⟩ := I.lstM hst
  cases rv0
  have ch : ∀ i : Nat, ∃ u : List Value, ∀ (p : Addr) (x : List V), pa[i]? = some p → xs[i]? = some x → Vals x u ∧ ∃ e, IsL s.heap p u.toArray e := fun i => by
    cases hp : pa[i]? with
    | none => exact ⟨[], fun p x h => nomatch h⟩
    | some p =>
      cases hxi : xs[i]? with
      | none => exact ⟨[], fun p x _ h => nomatch h⟩
      | some x =>
        obtain ⟨_, u, n, rv, _, g⟩ := I.lstM (hx i p x hp hxi)
        refine ⟨u, fun p' x' hp' hx' => ?_⟩
        cases hp'
        cases hx'
        exact ⟨rv, n, g⟩
  obtain ⟨f, hf⟩ := Classical.axiomOfChoice ch
  have hxs : ∀ (i : Nat) (p : Addr), pa[i]? = some p → ∃ x, xs[i]? = some x := fun i p hp => by
    have : i < xs.length := by rw [hlen]; exact (List.getElem?_eq_some_iff.mp hp).1
    exact ⟨_, List.getElem?_eq_getElem this⟩
  have hpa : ∀ (i : Nat) (x : List V), xs[i]? = some x → ∃ p, pa[i]? = some p := fun i x hx => by
    have : i < pa.length := by rw [← hlen]; exact (List.getElem?_eq_some_iff.mp hx).1
    exact ⟨_, List.getElem?_eq_getElem this⟩
  have cv : Vals xs.flatten (catL f 0 xs.length) := cat_vals xs f 0 fun j x hj => by
    obtain ⟨p, hp⟩ := hpa j x hj
    rw [Nat.zero_add]
    exact (hf j p x hp hj).1
  rw [hlen] at cv
  have cl := cv.length
  refine call_sumL (I.ok.hd hc) (pa := pa) (its := f) ⟨_, gl, rfl, _, rfl⟩ (fun i p hp => ?_) g0 (by omega) fun h' tk t' e' k1 k2 k3 k4 => ?_
  · obtain ⟨x, hxi⟩ := hxs i p hp
    exact (hf i p x hp hxi).2
  · by_cases z : pa = []
    · rw [k3 z]
      exact ⟨.ref st, H, I.kept k1, rfl, q0 z⟩
    · refine ⟨.ref t', _, I.laid (o := .lst xs.flatten) k1 (k4 z) ⟨hsz, _, _, cv, k2⟩, rfl, q1 z t' (I.hok.fresh (k4 z))⟩
theorem RpL.lists {T : Wd} {g : Gh} : ∀ {vs : List V} {ps qs : List PV}, RpL T g vs ps → flatP ps = some qs → ∃ (pa : List Addr) (xs : List (List V)), vs = pa.map V.ref ∧ xs.length = pa.length ∧ (∀ (i : Nat) (p : Addr) (x : List V), pa[i]? = some p → xs[i]? = some x → g.F p = some (.lst x)) ∧ RpL T g xs.flatten qs ∧ (ps = [] ↔ pa = [])
  | _, _, qs, .nil, e => by
    cases e
    exact ⟨[], [], rfl, rfl, fun i p x h => by simp at h, .nil, by simp⟩
  | _, _, qs, .cons (p := p) r t, e => by
    cases p with
    | lst ys =>
      rw [flatP] at e
      obtain ⟨rs, e1, rfl⟩ := Option.map_eq_some_iff.mp e
      obtain ⟨pa, xs, rfl, h2, h3, h4, h5⟩ := RpL.lists t e1
      cases r with
      | @lst a vs _ ea ra =>
        refine ⟨a :: pa, vs :: xs, rfl, by rw [List.length_cons, List.length_cons, h2], fun i p x hp hx => ?_, ?_, by simp⟩
        · cases i with
          | zero =>
            cases hp
            cases hx
            exact ea
          | succ i => exact h3 i p x hp hx
        · rw [List.flatten_cons]
          exact ra.append h4
    | _ => simp [flatP] at e
section
variable {X : Cx} {W : WX} {e a : Expr} {ea : Ev} {pos p lp : Pos}
theorem x_sumL (hc : X.calm = true) (k : BOk X "sum") (ha : XB X W a ea) (hs : notStar a = true) : XO X W (.Call (.Name "sum" p) [a, .List [] lp] [] pos) (b1 .sumL ea) := by
  refine pe_weak (pe_callB (cr_sumL hc) k.gl k.no (by decide +kernel) (pa_cons ha (pa_cons (pe_lst pa_nil) pa_nil (star_cons rfl)) (star_cons hs)) k.nn k.nd (star_cons hs) (star_any rfl)) fun σ H Q h => ?_
  have h' := tR.one (f := fun xs c => pureR (bltop .sumL xs) c) h
  refine (tR.one h').mono fun x g1 c1 H1 ⟨h1, d1, k1⟩ v cv => ?_
  obtain ⟨_, d2, k2⟩ := k1 g1 H1 Pres.refl h1
  obtain ⟨z, ez, kz⟩ := k2.pure
  have hx : ∃ ps, x = .lst ps := by
    cases x with
    | lst ps => exact ⟨ps, rfl⟩
    | _ => exact absurd ez (by simp [bltop])
  obtain ⟨ps, rfl⟩ := hx
  have ez : (flatP ps).bind mkLst = some z := by simpa [bltop] using ez
  obtain ⟨qs, e1, e2⟩ := Option.bind_eq_some_iff.mp ez
  have hlen : qs.length ≤ LIM := by
    by_cases z : qs.length ≤ LIM
    · exact z
    · unfold mkLst at e2
      rw [if_neg z] at e2
      cases e2
  unfold mkLst at e2
  rw [if_pos hlen] at e2
  cases e2
  obtain ⟨a, vs, rfl, ea, ra⟩ := cv.lst h1
  obtain ⟨pa, xs, rfl, x2, x3, x4, x5⟩ := ra.lists e1
  refine ⟨Nat.zero_le _, fun p hp => ?_⟩
  obtain ⟨p', h''⟩ := h1.fresh (o := .lst []) hp
  obtain ⟨n1, n2⟩ := h1.ne hp
  have ne : ∀ b o, H1 b = some o → b ≠ p := fun b o hb z => by rw [z, hp] at hb; cases hb
  refine ⟨a, p, pa, xs, rfl, by rw [upd_ne (ne _ _ ea)]; exact ea, fun i q x hq hx => ?_, upd_same, x2, by rw [x4.length, lim_eq]; exact hlen, fun z => ?_, fun z p2 hp2 => ?_⟩
  · have := h1.sub _ _ (x3 i q x hq hx)
    rw [upd_ne (ne _ _ this)]; exact this
  · have := x5.mpr z
    subst this
    cases e1
    exact kz g1 _ p' h'' p (d1 p (.of hp)) n1 n2 ⟨n2, [], upd_same, .nil⟩
  · obtain ⟨p'', h3⟩ := h''.fresh (o := .lst xs.flatten) hp2
    obtain ⟨m1, m2⟩ := h''.ne hp2
    exact kz g1 _ (p'.trans p'') h3 p2 (d1 p2 (p'.dead (.of hp2))) m1 m2 ⟨m2, _, upd_same, x4⟩
end
end PP

set_option Elab.async false
set_option linter.all false
set_option maxRecDepth 100000
/-! PP6m: dict(..) where a key may come again; min of a list of tuples. -/
namespace PP
open PySem PySem.Spec PyProof.Rows L2
theorem entries_eq {prog : Program} {w : World} : ∀ {xs ys : List (NestedKey × Addr × Value)}, xs.map (entryOfKey (nestedKind prog w)) = ys.map (entryOfKey (nestedKind prog w)) → xs.map (·.1) = ys.map (·.1) → xs = ys
  | [], [], _, _ => rfl
  | [], _ :: _, e, _ => by cases e
  | _ :: _, [], e, _ => by cases e
  | (k, a, v) :: xs, (k', a', v') :: ys, e, ek => by
    rw [List.map_cons, List.map_cons] at e ek
    obtain ⟨e1, e2⟩ := List.cons.inj e
    obtain ⟨k1, k2⟩ := List.cons.inj ek
    have k0 : k = k' := k1
    have h1 := congrArg DictEntry.key e1
    have h2 := congrArg DictEntry.val e1
    simp only [entryOfKey] at h1 h2
    cases h1
    cases h2
    rw [k0, entries_eq e2 k2]
section
variable {X : Cx}
/-- dict(..) of a list of pairs, a key put anew where it comes again -/
theorem b_dictM (hc : X.calm = true) (hu : X.A.units + 70 < cLine) : CallR X (.type "dict") (rCO (wd X) (bltop .dictM)) := by
  intro pins s σ H vs us Q I r h
  obtain ⟨g, c, ps, z, hr, cx, e, fin⟩ := h
  unfold bltop at e
  split at e <;> first | (cases e; done) | skip
  all_goals first | contradiction | skip
  rename_i items
  obtain ⟨v, rfl, cz⟩ := cx.one
  obtain ⟨kvs, e1, e2⟩ := Option.bind_eq_some_iff.mp e
  split at e2
  · rename_i hcond
    cases e2
    obtain ⟨a, ws, rfl, ea, ra⟩ := cz.lst hr
    rw [Vals.ref1 r]
    obtain ⟨ts, xs, rfl, l1, l2', h4, h5, h6, h7⟩ := ra.pairs I hr e1
    obtain ⟨hkeys, hklen⟩ := asPairs_keys e1
    obtain ⟨its, rv, pl, hz⟩ := I.list (SqL.of ea)
    have er := refs_at rv
    subst er
    obtain ⟨xs', ex', rx'⟩ := RpD.toX h7
    have exx : xs = xs' := entries_eq ex' (by rw [h6, rx'.keys])
    have rx : RpX (wd X) g xs kvs := by rw [exx]; exact rx'
    have lk : (dputAll [] kvs).length ≤ LIM := Nat.le_trans (dputAll_len kvs []) (by rw [List.length_nil, Nat.zero_add, hklen]; exact hcond)
    have lenx : (xs.map fun x => (Value.ref x.2.1, x.2.2)).length = xs.length := List.length_map _
    refine call_dict_pairsH (knd := nestedKind X.prog X.w) (ps := xs) (PairArg.list a (ts.map Value.ref).toArray (fun j => ts.getD j 0) (xs.map fun x => (Value.ref x.2.1, x.2.2))) (I.ok.hd hc) ?_ ⟨pl, ?_⟩ ⟨by rw [lenx], ?_⟩ ?_ ?_ ?_
    · show X.A.units + 2 + 8 < cLine
      omega
    · refine ⟨by rw [lenx, List.size_toArray, List.length_map, l1], fun j k v hj => ?_⟩
      rw [List.getElem?_map] at hj
      obtain ⟨x, hx, ex⟩ := Option.map_eq_some_iff.mp hj
      cases ex
      obtain ⟨t, ht, pa⟩ := h4 j x hx
      have : ts.getD j 0 = t := by rw [List.getD_eq_getElem?_getD, ht]; rfl
      show _ = some (Value.ref (ts.getD j 0)) ∧ PairAt s.heap (ts.getD j 0) _ _
      rw [this]
      exact ⟨by simp [ht], pa⟩
    · intro i key v hrel
      have hrel : (xs.map fun x => (Value.ref x.2.1, x.2.2))[i]? = some (key, v) := hrel
      rw [List.getElem?_map] at hrel
      obtain ⟨x, hx, ex⟩ := Option.map_eq_some_iff.mp hrel
      cases ex
      exact ⟨x.1, x.2.1, hx, rfl⟩
    · intro h' hk x hx
      refine nestedKind_stays.stays (fun b o vs n ho hd => hk b o (Nat.ne_of_lt (Heap.lt_size ho)) (by simp) ho) (h5 x hx)
    · rw [lenx, l2', hklen, lim_eq]
      exact hcond
    · intro h' tk hd' hk
      have hm : (s.heap.objs.size == sysModules) = false := beq_eq_false_iff_ne.mpr (Nat.ne_of_gt I.big)
      obtain ⟨o, ho, dr⟩ := DicR.ofX (X := X) hm hd' (rx.putAll .nil List.nodup_nil) lk
      have hn : H s.heap.objs.size = none := I.hok.fresh (Nat.le_refl _)
      obtain ⟨p', h''⟩ := hr.fresh (o := objO s.heap.objs.size o) hn
      obtain ⟨n1, n2⟩ := hr.ne hn
      exact ⟨.ref s.heap.objs.size, _, I.laid (t' := tk) (fun b o e => hk b o (by simp) e) (Nat.le_refl _) (objO_new ho), rfl, fin _ _ _ p' h'' (.of hn) n1 n2 ⟨n2, o, upd_same, dr⟩⟩
  · cases e2
end
theorem vals_get : ∀ {vs : List V} {us : List Value} {i : Nat} {u : Value}, Vals vs us → us[i]? = some u → ∃ v, vs[i]? = some v ∧ RelV v u
  | _, _, i, u, .nil, h => by simp at h
  | _, _, 0, u, .cons (a := a) r t, h => by
    rw [List.getElem?_cons_zero] at h
    cases h
    exact ⟨_, rfl, r⟩
  | _, _, i + 1, u, .cons r t, h => by
    rw [List.getElem?_cons_succ] at h
    rw [List.getElem?_cons_succ]
    exact vals_get t h
section
variable {X : Cx} {pins : List (Addr × Obj)} {σ : L2.St} {H : Hp} {s : Shared} {g : Gh} {c : List PV}
theorem RpL.readsAll (I : Inv X pins σ H s) (hr : HR (wd X) g c H) : ∀ {vs : List V} {us : List Value} {ps : List PV}, RpL (wd X) g vs ps → Vals vs us → (∀ p ∈ ps, small 60 p = true) → ∃ as, ReadsAll s.heap us (ps.map toD) as
  | _, _, _, .nil, .nil, _ => ⟨[], .nil⟩
  | _, _, _, .cons (v := v) (p := p) rp t, .cons rv t', h => by
    obtain ⟨as, r⟩ := Dp.reads I (toD p) v _ (rp.dp hr 60 (h p List.mem_cons_self)) rv
    obtain ⟨bs, rs⟩ := RpL.readsAll I hr t t' fun q hq => h q (List.mem_cons_of_mem _ hq)
    exact ⟨_, .cons r rs⟩
theorem min_listI {prog : Program} {w : World} {A : Around} {E : Value → Shared → Prop} {s : Shared} {l : Addr} {vs : Array Value} {x : PyData} {xs : List PyData} {as : List Addr} {Q : Value → Shared → Prop} (hh : A.handled = none) (hl : s.heap.IsList l vs) (hr : ReadsAll s.heap vs.toList (x :: xs) as) (ha : PySem.W.AlikeAll (x :: xs)) (hu : A.units + 1 + PyData.depthAll (x :: xs) < cLine)
    (h : ∀ v h' tk, vs[argBest (fun i j => PySem.W.dataLt ((x :: xs).getD i .none) ((x :: xs).getD j .none)) xs.length]? = some v → (∀ b o, s.heap.get? b = some o → h'.get? b = some o) → Q v { s with heap := h', toks := tk }) :
    wpAny (model prog w) A (call (.builtin "min") [.ref l]) Q E s := by
  have hn : vs.size = xs.length + 1 := PySem.W.readsAll_len hr
  refine call_min_walkH (PySem.W.iter_listW (A := A.in1) hh hl fun s₂ e W st hfp hw hk => ?_)
  refine ⟨_, _, _, _, _, _, _, s.heap, _, rfl, W, st, hfp, by omega, hw, hk, PySem.W.cmpIn_lt (A := A.in1) hr ha (by show A.units + 1 + _ < _; exact hu), fun v s' hP m => ?_⟩
  obtain ⟨h', tk, rfl, hk'⟩ := PySem.W.moved_old e rfl m
  have e1 : vs.size - 1 = xs.length := by omega
  rw [e1] at hP
  exact h v h' tk hP hk'
theorem depth_all : ∀ {ps : List PV}, (∀ p ∈ ps, small 60 p = true) → PyData.depthAll (ps.map toD) ≤ 60
  | [], _ => by simp [PyData.depthAll]
  | p :: ps, h => by
    rw [List.map_cons, PyData.depthAll]
    exact Nat.max_le.mpr ⟨(small_shape 60 p (h p List.mem_cons_self)).2, depth_all fun q hq => h q (List.mem_cons_of_mem _ hq)⟩
/-- min of a list of tuples -/
theorem b_minT (hc : X.calm = true) (hu : X.A.units + 70 < cLine) : CallR X (.builtin "min") (rC (wd X) (bltop .minT)) := by
  intro pins s σ H vs us Q I r h
  obtain ⟨g, c, ps, z, hr, cx, e, fin⟩ := h
  unfold bltop at e
  split at e <;> first | (cases e; done) | skip
  all_goals first | contradiction | skip
  rename_i x xs _
  split at e
  rotate_left
  · cases e
  rename_i hcond
  cases e
  simp only [Bool.and_eq_true] at hcond
  obtain ⟨⟨hdat, hal⟩, hne⟩ := hcond
  obtain ⟨v, rfl, cz⟩ := cx.one
  obtain ⟨a, ws, rfl, ea, ra⟩ := cz.lst hr
  rw [Vals.ref1 r]
  obtain ⟨its, rv, hl, _⟩ := I.list (SqL.of ea)
  have hsm : ∀ p ∈ x :: xs, small 60 p = true := fun p hp => List.all_eq_true.mp hdat p hp
  obtain ⟨as, rd⟩ := RpL.readsAll I hr ra rv hsm
  have hA : PySem.W.AlikeAll ((x :: xs).map toD) := by
    refine ⟨fun d hd d' hd' => ?_, fun d hd => ?_⟩
    · obtain ⟨p, hp, rfl⟩ := List.mem_map.mp hd
      obtain ⟨q, hq, rfl⟩ := List.mem_map.mp hd'
      exact List.all_eq_true.mp (List.all_eq_true.mp hal p hp) q hq
    · obtain ⟨p, hp, rfl⟩ := List.mem_map.mp hd
      have := List.all_eq_true.mp hne p hp
      unfold tupNE at this
      split at this
      · simp [toD]
      · cases this
  have hdep := depth_all hsm
  refine min_listI (x := toD x) (xs := xs.map toD) (I.ok.hd hc) hl.isList rd hA (by rw [List.map_cons] at hdep; omega) fun v h' tk hv hk => ?_
  have hf : (fun i j => PySem.W.dataLt ((toD x :: xs.map toD).getD i .none) ((toD x :: xs.map toD).getD j .none)) = fun i j => PySem.W.dataLt (toD ((x :: xs).getD i .non)) (toD ((x :: xs).getD j .non)) := by
    have key : ∀ i, (toD x :: xs.map toD).getD i .none = toD ((x :: xs).getD i .non) := fun i => by
      rw [← List.map_cons, List.getD_eq_getElem?_getD, List.getD_eq_getElem?_getD, List.getElem?_map]
      cases (x :: xs)[i]? <;> simp [toD]
    funext i j
    rw [key, key]
  rw [hf, List.length_map] at hv
  obtain ⟨b1, b2⟩ := PySem.W.argBest_fold (fun a b => PySem.W.dataLt (toD a) (toD b)) PV.non x xs xs.length (Nat.le_refl _)
  rw [List.take_length] at b2
  generalize argBest (fun i j => PySem.W.dataLt (toD ((x :: xs).getD i .non)) (toD ((x :: xs).getD j .non))) xs.length = b at hv b1 b2
  have hb : b < (x :: xs).length := by rw [List.length_cons]; omega
  have hp : (x :: xs)[b]? = some (pminT x xs) := by
    rw [List.getD_eq_getElem?_getD, List.getElem?_eq_getElem hb] at b2
    rw [List.getElem?_eq_getElem hb]
    exact congrArg some b2
  obtain ⟨w1, hw1, rp⟩ := ra.get hp
  obtain ⟨w2, hw2, rv2⟩ := vals_get rv (by simpa using hv)
  rw [hw1] at hw2
  cases hw2
  exact ⟨w1, H, I.kept hk, rv2, fin.here hr rp⟩
end
end PP

set_option Elab.async false
set_option linter.all false
set_option maxRecDepth 100000
set_option maxHeartbeats 2000000
/-! PP6n: sets of nested tuples of numbers whose hashes tell them apart. -/
namespace PP
open PySem PySem.Spec PyProof.Rows L2
/-! ### small questions -/
mutual
def noTx : NestedKey → Bool
  | .none => true
  | .num _ => true
  | .text _ => false
  | .tup ks => noTxs ks
def noTxs : List NestedKey → Bool
  | [] => true
  | k :: ks => noTx k && noTxs ks
end
section
variable {P : Program} {w : World}
def OfC (P : Program) (w : World) (n : Nat) (s : Shared) (v : Value) : Prop := ∀ (A : Around) (E : Value → Shared → Prop) (Q : Bool → Shared → Prop), Q false s → wpAny (model P w) A (ofAClassStatement n v) Q E s
def HbV (P : Program) (w : World) (n : Nat) (s : Shared) (v : Value) : Prop := ∀ (A : Around) (E : Value → Shared → Prop) (Q : Bool → Shared → Prop), Q true s → wpAny (model P w) A (hashByValue n v) Q E s
theorem ofC_tup {n : Nat} {s : Shared} {a : Addr} {o : Obj} {vs : Array Value} {m : Nat} (ho : s.heap.get? a = some o) (hc : o.cls = .type "tuple") (hd : o.data = .seq vs m) (hq : ∀ v ∈ vs.toList, OfC P w n s v) : OfC P w (n + 1) s (.ref a) := fun A E Q h => by
  have hT : s.TypeIs (.ref a) "tuple" := ⟨o, ho, hc⟩
  unfold ofAClassStatement
  refine wpAny_bind (wpAny_typeOf hT ?_)
  dsimp only
  have e : (("tuple" : String) == "tuple") = true := by decide
  simp only [e, if_true, Bool.not_true, Bool.false_eq_true, if_false]
  try refine wpAny_bind (wpAny_pure ?_)
  try simp only [Bool.not_true, Bool.false_eq_true, if_false]
  refine wpAny_bind (wpAny_seqItems ho hd ?_)
  dsimp only
  refine wpAny_bind ?_
  show wpAny _ _ (forIn vs _ _) _ _ s
  rw [← Array.forIn_toList]
  refine wpAny_forIn_list _ (fun rest r s' => r.1 = none ∧ s' = s ∧ ∀ v ∈ rest, OfC P w n s v) _ (fun v rest r s' ih => ?_) (fun r s' ih => ?_) _ _ ⟨rfl, rfl, hq⟩
  · obtain ⟨_, rfl, hall⟩ := ih
    refine wpAny_bind (hall v List.mem_cons_self _ _ _ ?_)
    simp only [Bool.false_eq_true, if_false]
    exact wpAny_pure ⟨rfl, rfl, fun u hu' => hall u (List.mem_cons_of_mem _ hu')⟩
  · obtain ⟨r1, r2⟩ := r
    obtain ⟨rfl, rfl, _⟩ := ih
    exact wpAny_pure h
theorem hbV_tup {n : Nat} {s : Shared} {a : Addr} {o : Obj} {vs : Array Value} {m : Nat} (ho : s.heap.get? a = some o) (hc : o.cls = .type "tuple") (hd : o.data = .seq vs m) (hq : ∀ v ∈ vs.toList, HbV P w n s v) : HbV P w (n + 1) s (.ref a) := fun A E Q h => by
  have hT : s.TypeIs (.ref a) "tuple" := ⟨o, ho, hc⟩
  unfold hashByValue
  refine wpAny_bind (wpAny_specialOf hT F.slot_tuple_hash.lookup ?_)
  show wpAny _ _ (seqItems? (.ref a) >>= _) _ _ s
  refine wpAny_bind (wpAny_seqItems ho hd ?_)
  refine wpAny_bind ?_
  show wpAny _ _ (forIn vs _ _) _ _ s
  rw [← Array.forIn_toList]
  refine wpAny_forIn_list _ (fun rest r s' => r.1 = none ∧ s' = s ∧ ∀ v ∈ rest, HbV P w n s v) _ (fun v rest r s' ih => ?_) (fun r s' ih => ?_) _ _ ⟨rfl, rfl, hq⟩
  · obtain ⟨_, rfl, hall⟩ := ih
    refine wpAny_bind (hall v List.mem_cons_self _ _ _ ?_)
    simp only [Bool.not_true, Bool.false_eq_true, if_false]
    exact wpAny_pure ⟨rfl, rfl, fun u hu' => hall u (List.mem_cons_of_mem _ hu')⟩
  · obtain ⟨r1, r2⟩ := r
    obtain ⟨rfl, rfl, _⟩ := ih
    exact wpAny_pure h
theorem ofC_pure {n : Nat} {s : Shared} {v : Value} (h : ofAClassStatement n v = pure false) : OfC P w n s v := fun A E Q q => by rw [h]; exact wpAny_pure q
theorem hbV_pure {n : Nat} {s : Shared} {v : Value} (h : hashByValue n v = pure true) : HbV P w n s v := fun A E Q q => by rw [h]; exact wpAny_pure q
mutual
theorem ofC_key : ∀ (k : NestedKey) (v : Value) (n : Nat) (s : Shared), NestedIs s.heap k v → k.depth ≤ n → OfC P w n s v
  | .none, _, n, s, x, _ => by cases x; exact ofC_pure (by cases n <;> rfl)
  | .num i, _, n, s, x, _ => by cases x <;> exact ofC_pure (by cases n <;> rfl)
  | .text y, _, n, s, x, _ => by cases x; exact ofC_pure (by cases n <;> rfl)
  | .tup ks, _, n, s, x, hn => by
    cases x with
    | tup hg hc hd hk =>
      simp only [NestedKey.depth] at hn
      cases n with
      | zero => omega
      | succ n => exact ofC_tup hg hc hd (ofC_keys ks _ n s hk (by omega))
theorem ofC_keys : ∀ (ks : List NestedKey) (vs : List Value) (n : Nat) (s : Shared), NestedAll s.heap ks vs → NestedKey.depthAll ks ≤ n → ∀ v ∈ vs, OfC P w n s v
  | [], _, n, s, x, _, v, hv => by cases x; cases hv
  | k :: ks, _, n, s, x, hn, v, hv => by
    cases x with
    | cons x1 x2 =>
      simp only [NestedKey.depthAll] at hn
      rcases List.mem_cons.mp hv with e | hv
      · rw [e]; exact ofC_key k _ n s x1 (by omega)
      · exact ofC_keys ks _ n s x2 (by omega) v hv
end
mutual
theorem hbV_key : ∀ (k : NestedKey) (v : Value) (n : Nat) (s : Shared), NestedIs s.heap k v → k.depth ≤ n → noTx k = true → HbV P w n s v
  | .none, _, n, s, x, _, _ => by cases x; exact hbV_pure (by cases n <;> rfl)
  | .num i, _, n, s, x, _, _ => by cases x <;> exact hbV_pure (by cases n <;> rfl)
  | .text y, _, n, s, x, _, h => by cases h
  | .tup ks, _, n, s, x, hn, ht => by
    cases x with
    | tup hg hc hd hk =>
      simp only [NestedKey.depth] at hn
      rw [noTx] at ht
      cases n with
      | zero => omega
      | succ n => exact hbV_tup hg hc hd (hbV_keys ks _ n s hk (by omega) ht)
theorem hbV_keys : ∀ (ks : List NestedKey) (vs : List Value) (n : Nat) (s : Shared), NestedAll s.heap ks vs → NestedKey.depthAll ks ≤ n → noTxs ks = true → ∀ v ∈ vs, HbV P w n s v
  | [], _, n, s, x, _, _, v, hv => by cases x; cases hv
  | k :: ks, _, n, s, x, hn, ht, v, hv => by
    cases x with
    | cons x1 x2 =>
      simp only [NestedKey.depthAll] at hn
      rw [noTxs, Bool.and_eq_true] at ht
      rcases List.mem_cons.mp hv with e | hv
      · rw [e]; exact hbV_key k _ n s x1 (by omega) ht.1
      · exact hbV_keys ks _ n s x2 (by omega) ht.2 v hv
end
/-- the tuple at a is the key k -/
abbrev IsN (P : Program) (w : World) (h : Heap) (k : NestedKey) (a : Addr) : Prop := (nestedKind P w).is h k a
variable {A : Around} {E : Value → Shared → Prop} {s : Shared}
theorem seen_n {k : NestedKey} {b : Addr} {Q : Bool → Shared → Prop} (hk : IsN P w s.heap k b) {ys : List Value} (hy : ∀ y ∈ ys, ∃ k' c, y = Value.ref c ∧ IsN P w s.heap k' c) (h : Q false s) :
    wpAny (model P w) A (searchCouldBeSeen (.ref b) ys) Q E s := by
  unfold searchCouldBeSeen
  refine wpAny_bind ?_
  refine wpAny_forIn_list _ (fun rest r s' => r.1 = none ∧ s' = s ∧ ∀ y ∈ rest, ∃ k' c, y = Value.ref c ∧ IsN P w s.heap k' c) _ (fun v rest r s' ih => ?_) (fun r s' ih => ?_) _ _ ⟨rfl, rfl, hy⟩
  · obtain ⟨_, rfl, hall⟩ := ih
    have rest' : ∀ y ∈ rest, ∃ k' c, y = Value.ref c ∧ IsN P w s'.heap k' c := fun u hu' => hall u (List.mem_cons_of_mem _ hu')
    obtain ⟨k', c, rfl, hc⟩ := hall v List.mem_cons_self
    dsimp only
    by_cases hv : (b == c || (carriedByValue (.ref b) && carriedByValue (.ref c))) = true
    · exact wp_if_pos hv (wpAny_pure ⟨rfl, rfl, rest'⟩)
    · refine wp_if_neg hv (wpAny_bind ((nestedKind P w).quiet hk ?_))
      simp only [Bool.not_true, Bool.false_eq_true, if_false]
      refine wpAny_bind ((nestedKind P w).quiet hc ?_)
      simp only [Bool.not_true, Bool.false_eq_true, if_false]
      refine wpAny_bind (ofC_key _ _ 8 s' hk.1 hk.2 _ _ _ ?_)
      simp only [Bool.false_eq_true, if_false]
      refine wpAny_bind (ofC_key _ _ 8 s' hc.1 hc.2 _ _ _ ?_)
      simp only [Bool.false_eq_true, if_false]
      exact wpAny_pure ⟨rfl, rfl, rest'⟩
  · obtain ⟨r1, r2⟩ := r
    obtain ⟨rfl, rfl, _⟩ := ih
    exact wpAny_pure h
/-! ### the set -/
abbrev NL := List (Addr × NestedKey)
def hsN (w : World) (L : NL) : List Int := L.map fun p => p.2.hash w
def rowN (w : World) (L : NL) : List (Int × Value) := L.map fun p => (p.2.hash w, Value.ref p.1)
structure SN (w : World) (h : Heap) (a : Addr) (L : NL) (es : Array (Int × Value)) (ep : Nat) (t : SetTable) : Prop where
  ob : ∃ o, h.get? a = some o ∧ o.ExactSet ∧ o.data = .set es ep t
  rows : es.toList = rowN w L
  tab : TabOk t (hsN w L)
  nd : (hsN w L).Nodup
  plain : t.plain = true
  led : w.params.followText "set-order" = true ∨ t.led = true
  room : L.length * 5 < t.mask * 3
  few : L.length < 64
variable {a : Addr} {L : NL} {es : Array (Int × Value)} {ep : Nat} {t : SetTable}
theorem rowN_len : (rowN w L).length = L.length := List.length_map _
theorem hsN_len : (hsN w L).length = L.length := List.length_map _
theorem rows_size (h : es.toList = rowN w L) : es.size = L.length := by
  have e := congrArg List.length h
  rwa [Array.length_toList, rowN_len] at e
theorem rows_at (h : es.toList = rowN w L) (i : Nat) : es[i]? = (L[i]?).map fun p => (p.2.hash w, Value.ref p.1) := by
  rw [← Array.getElem?_toList, h]
  exact List.getElem?_map ..
theorem tab_fits (hs : t.place.size = es.size) (hd : t.dummies = #[]) (hm : es.size ≤ t.mask) : t.fits es.size = true := by
  unfold SetTable.fits SetTable.fill
  rw [hd, Bool.and_eq_true, beq_iff_eq, decide_eq_true_eq]
  show t.place.size = es.size ∧ t.place.size + 0 ≤ t.mask
  omega
theorem SN.fits (R : SN w s.heap a L es ep t) : t.fits es.size = true := by
  have h1 := R.tab.sz
  rw [hsN_len] at h1
  have h2 := rows_size R.rows
  have h3 := R.room
  exact tab_fits (by omega) R.tab.dm (by omega)
/-- a key is looked for -/
theorem sn_search (R : SN w s.heap a L es ep t) (tup : ∀ p ∈ L, IsN P w s.heap p.2 p.1) {x : Addr} {k : NestedKey} (hx : IsN P w s.heap k x) (hi : ∀ p ∈ L, p.2.hash w = k.hash w → p.2 = k) (hu : (nestedKind P w).room A) {Q : SetFound → Shared → Prop}
    (hin : k ∈ L.map (·.2) → Q (.there none) s)
    (hout : ∀ K, k.hash w ∉ hsN w L → way t.mask (k.hash w) K ∉ t.place.toList → (∀ c, c < K → way t.mask (k.hash w) c ∈ t.place.toList) → Q (.free (way t.mask (k.hash w) K) false) s) :
    wpAny (model P w) A (setSearch a (.ref x) (k.hash w) true) Q E s := by
  have hroom := R.room
  obtain ⟨o, ho, hex, hd⟩ := R.ob
  obtain ⟨K, hKf, hK, hKb⟩ := R.tab.first (by rw [hsN_len]; omega) (k.hash w)
  have gw : ¬ t.gaveWay = true := by
    unfold SetTable.gaveWay
    rw [mask_odd R.tab.mok]
    decide
  unfold setSearch
  rw [show (100000 : Nat) = 99999 + 1 from rfl, setSearchFrom_succ]
  refine wpAny_bind (wpAny_setState_of ho hd R.fits ?_)
  dsimp only
  refine wp_if_neg gw ?_
  try refine wpAny_bind (wpAny_pure ?_)
  have hat : ∀ (i : Nat) (p : Addr × NestedKey), L[i]? = some p → (es[i]?.map (·.1)).getD 0 = p.2.hash w := fun i p hp => by
    show (es[i]?.map (·.1)).getD 0 = _
    rw [rows_at R.rows, hp]
    rfl
  rcases go_spec t R.tab.ris R.tab.dm (fun i => (es[i]?.map (·.1)).getD 0) (k.hash w) (10 * SetTable.turns t.mask) K (runAt t.mask (SetTable.bits (k.hash w) % (t.mask + 1)) (SetTable.bits (k.hash w))) rfl hKf hKb hK with ⟨q, i, hq, hpl, hh, _, hpr⟩ | ⟨hno, hpr⟩
  · have hpr' : t.probe (fun i => (es[i]?.map (·.1)).getD 0) (k.hash w) ((none : Option SetTable.Probe).getD (t.probeStart (k.hash w))) = some _ := hpr
    rw [hpr']
    dsimp only
    have hil : i < L.length := by
      have h1 : i < t.place.toList.length := (List.getElem?_eq_some_iff.mp hpl).1
      have h2 := R.tab.sz
      rw [hsN_len] at h2
      rw [Array.length_toList] at h1
      omega
    have hp : L[i]? = some L[i] := List.getElem?_eq_getElem hil
    have hm : L[i] ∈ L := List.getElem_mem hil
    have hk : L[i].2 = k := hi _ hm ((hat i _ hp).symm.trans hh)
    have rest : wpAny (model P w) A (searchRest a (.ref x) (k.hash w) true 99999 es t (nth t.mask (runAt t.mask (SetTable.bits (k.hash w) % (t.mask + 1)) (SetTable.bits (k.hash w))) q).j i (nth t.mask (runAt t.mask (SetTable.bits (k.hash w) % (t.mask + 1)) (SetTable.bits (k.hash w))) (q + 1))) Q E s := by
      unfold searchRest
      rw [rows_at R.rows, hp]
      dsimp only [Option.map_some]
      refine wpAny_bind (wpAny_holding ((nestedKind P w).eqBool hu (tup _ hm) hx ?_))
      refine wpAny_bind (wpAny_setState_of ho hd R.fits ?_)
      dsimp only
      refine wp_if_pos (by simp [hk]) ?_
      exact wpAny_pure (hin (List.mem_map.mpr ⟨_, hm, hk⟩))
    by_cases hl : t.led = true
    · refine wp_if_neg (by simp [hl]) ?_
      try refine wpAny_bind (wpAny_pure ?_)
      exact rest
    · refine wp_if_pos (by simp [hl]) ?_
      refine wpAny_bind (seen_n hx (fun y hy => ?_) ?_)
      · obtain ⟨e, he, rfl⟩ := List.mem_map.mp hy
        have he1 : e ∈ es ∧ e.1 = k.hash w := by simpa using he
        have he2 : e ∈ es.toList := by simpa using he1.1
        rw [R.rows] at he2
        obtain ⟨p2, hp2, rfl⟩ := List.mem_map.mp he2
        exact ⟨p2.2, p2.1, rfl, tup p2 hp2⟩
      · refine wp_if_neg (by decide) ?_
        try refine wpAny_bind (wpAny_pure ?_)
        exact rest
  · have hpr' : t.probe (fun i => (es[i]?.map (·.1)).getD 0) (k.hash w) ((none : Option SetTable.Probe).getD (t.probeStart (k.hash w))) = some _ := hpr
    rw [hpr']
    dsimp only
    refine wpAny_pure (hout K (fun hm => ?_) hK hKb)
    obtain ⟨i, hil, e⟩ := List.getElem_of_mem hm
    have hi0 : (hsN w L)[i]? = some (k.hash w) := by rw [List.getElem?_eq_getElem hil, e]
    have hiL : i < L.length := by rw [hsN_len] at hil; exact hil
    have hpl : i < t.place.toList.length := by
      have h2 := R.tab.sz
      rw [hsN_len] at h2
      rw [Array.length_toList]
      omega
    have hj := List.getElem?_eq_getElem hpl
    obtain ⟨c, hc, ec⟩ := R.tab.before hK hi0 hj
    refine hno c i hc (hj.trans (by rw [← ec])) ?_
    have hp : L[i]? = some L[i] := List.getElem?_eq_getElem hiL
    rw [hat i _ hp]
    have : (hsN w L)[i]? = some (L[i].2.hash w) := by
      unfold hsN
      rw [List.getElem?_map, hp]
      rfl
    rw [this] at hi0
    exact Option.some.inj hi0
/-! ### the table laid anew -/
theorem fm_range {α : Type} (L : List α) : (List.range L.length).filterMap (fun i => L[i]?) = L := by
  have h : (List.range L.length).map (fun i => L[i]?) = L.map some := List.ext_getElem (by simp) fun i h1 h2 => by simp
  have e : (List.range L.length).filterMap (fun i => L[i]?) = ((List.range L.length).map (fun i => L[i]?)).filterMap id := by
    rw [List.filterMap_map]
    rfl
  rw [e, h, List.filterMap_map]
  exact List.filterMap_some
theorem fm_heads {es : Array (Int × Value)} : ∀ l : List Nat, (∀ i ∈ l, i < es.size) → (l.filterMap fun i => es[i]?).map (·.1) = l.map fun i => (es.map (·.1)).getD i 0
  | [], _ => rfl
  | i :: l, h => by
    have hi := h i List.mem_cons_self
    have e1 : es[i]? = some es[i] := Array.getElem?_eq_getElem hi
    have e2 : (es.map (·.1)).getD i 0 = (es[i]).1 := by
      rw [Array.getD_eq_getD_getElem?, Array.getElem?_map, e1]
      rfl
    rw [List.filterMap_cons_some e1, List.map_cons, List.map_cons, e2, fm_heads l fun j hj => h j (List.mem_cons_of_mem _ hj)]
theorem rowN_order (hr : es.toList = rowN w L) {order : Array Nat} (hp : order.toList.Perm (List.range L.length)) :
    ∃ L2, (order.filterMap (es[·]?)).toList = rowN w L2 ∧ L2.Perm L ∧ hsN w L2 = order.toList.map fun i => (es.map (·.1)).getD i 0 := by
  have hf : (fun i : Nat => es[i]?) = fun i => (L[i]?).map fun p => (p.2.hash w, Value.ref p.1) := funext fun i => rows_at hr i
  have e1 : (order.filterMap (es[·]?)).toList = rowN w (order.toList.filterMap fun i => L[i]?) := by
    rw [Array.toList_filterMap]
    show order.toList.filterMap (fun i : Nat => es[i]?) = _
    rw [hf]
    unfold rowN
    rw [List.map_filterMap]
  refine ⟨order.toList.filterMap fun i => L[i]?, e1, ?_, ?_⟩
  · have := hp.filterMap fun i => L[i]?
    rwa [fm_range] at this
  · have e2 : hsN w (order.toList.filterMap fun i => L[i]?) = (rowN w (order.toList.filterMap fun i => L[i]?)).map (·.1) := by
      unfold hsN rowN
      rw [List.map_map]
      rfl
    rw [e2, ← e1, Array.toList_filterMap]
    exact fm_heads _ fun i hi => by
      rw [rows_size hr]
      exact List.mem_range.mp (hp.mem_iff.mp hi)
theorem sn_relay {o : Obj} (ho : s.heap.get? a = some o) (hex : o.ExactSet) (hd : o.data = .set es ep t) (hr : es.toList = rowN w L) (hsz : t.place.size = es.size) (hdm : t.dummies = #[]) (hfl : es.size ≤ t.mask)
    (nd : (hsN w L).Nodup) (pl : t.plain = true) (ld : w.params.followText "set-order" = true ∨ t.led = true) (few : L.length < 64) {wanted M : Nat}
    (hw : SetTable.sizeAbove wanted - 1 = M) (hM : MaskOk M) (hw2 : SetTable.sizeAbove wanted ≤ 128) (hn : L.length * 5 < M * 3) {Q : Unit → Shared → Prop}
    (hQ : ∀ h' L' es' ep' t', Heap.SameBut a s.heap h' → SN w h' a L' es' ep' t' → L'.Perm L → Q () { s with heap := h' }) : wpAny (model P w) A (setRelay a wanted) Q E s := by
  have hsl := rows_size hr
  obtain ⟨t', order, e, hp, T, em, el, epl, ed⟩ := relaid_ok t (hs := es.map (·.1)) (wanted := wanted) hw hM (by rw [Array.size_map, hsl]; omega)
  rw [Array.size_map, hsl] at hp
  obtain ⟨L2, r1, r2, r3⟩ := rowN_order hr hp
  rw [← r3] at T
  have hs2 : (order.filterMap (es[·]?)).size = es.size := by rw [rows_size r1, r2.length_eq, hsl]
  rw [setRelay_eq]
  refine wpAny_bind (wpAny_setState_of ho hd (tab_fits hsz hdm hfl) ?_)
  dsimp only
  refine wp_if_neg (by rw [sizeLine_eq]; omega) ?_
  try refine wpAny_bind (wpAny_pure ?_)
  rw [e]
  dsimp only
  refine wpAny_bind ?_
  refine wp_if_neg (by rw [hs2]; simp) ?_
  try refine wpAny_bind (wpAny_pure ?_)
  refine wpAny_pure ?_
  dsimp only
  refine wpAny_storeSet_of ho hd ?_ (by rw [hs2, hsl, sizeLine_eq]; omega)
  refine hQ _ L2 (order.filterMap (es[·]?)) (ep + 1) t' (Heap.SameBut.update ..) ⟨⟨_, store_at ho hd, ⟨hex.1, hex.2.1, hex.2.2⟩, rfl⟩, r1, T, ?_, by rw [epl]; exact pl, by rw [el]; exact ld, by rw [r2.length_eq, em]; exact hn, by rw [r2.length_eq]; exact few⟩ r2
  exact (r2.map fun (p : Addr × NestedKey) => p.2.hash w).nodup_iff.mpr nd
theorem ins_perm {α : Type} (L : List α) (p : Nat) (x : α) : (L.take p ++ x :: L.drop p).Perm (x :: L) := by
  have h : (L.take p ++ x :: L.drop p).Perm (x :: (L.take p ++ L.drop p)) := List.perm_middle
  rwa [List.take_append_drop] at h
/-- a key is put in -/
theorem sn_add (R : SN w s.heap a L es ep t) (tup : ∀ p ∈ L, IsN P w s.heap p.2 p.1) {x : Addr} {k : NestedKey} (hx : IsN P w s.heap k x) (ht : noTx k = true) (hi : ∀ p ∈ L, p.2.hash w = k.hash w → p.2 = k) (hu : (nestedKind P w).room A) (hfew : k ∉ L.map (·.2) → L.length + 1 < 64) {Q : Bool → Shared → Prop}
    (hQ : ∀ b h' L' es' ep' t', Heap.SameBut a s.heap h' → SN w h' a L' es' ep' t' → (k ∈ L.map (·.2) → L' = L) → (k ∉ L.map (·.2) → L'.Perm ((x, k) :: L)) → Q b { s with heap := h' }) :
    wpAny (model P w) A (setAddHashed a (.ref x) (k.hash w)) Q E s := by
  obtain ⟨o, ho, hex, hd⟩ := R.ob
  have hsl := rows_size R.rows
  have hroom := R.room
  unfold setAddHashed
  refine wpAny_holding ?_
  rw [show (100000 : Nat) = 99999 + 1 from rfl, setAddHashedIn_succ]
  refine wpAny_bind (wpAny_setState_of ho hd R.fits ?_)
  dsimp only
  refine wp_if_neg (by simp [byScan, Value.scannable]) ?_
  try refine wpAny_bind (wpAny_pure ?_)
  refine wpAny_bind (sn_search R tup hx hi hu (fun hm => ?_) fun K hm hK hb => ?_)
  · dsimp only
    exact wpAny_pure (hQ false s.heap L es ep t (Heap.SameBut.refl a s.heap) R (fun _ => rfl) fun z => absurd hm z)
  · have hkn : k ∉ L.map (·.2) := fun z => hm (by
      obtain ⟨p, hp, e⟩ := List.mem_map.mp z
      exact List.mem_map.mpr ⟨p, hp, by rw [e]⟩)
    have hfew := hfew hkn
    dsimp only
    refine wpAny_bind (wpAny_setState_of ho hd R.fits ?_)
    dsimp only
    obtain ⟨q1, q2, q3, q4, q5, q6, q7, q8, q9⟩ := R.tab.put hK hb
    rw [hsN_len] at q2 q9
    have pl1 : (t.put (way t.mask (k.hash w) K)).1.plain = true := by rw [q6]; exact R.plain
    have ld1 : w.params.followText "set-order" = true ∨ (t.put (way t.mask (k.hash w) K)).1.led = true := by rw [q5]; exact R.led
    generalize hpt : t.put (way t.mask (k.hash w) K) = pt at q1 q3 q4 q9 pl1 ld1 ⊢
    obtain ⟨t1, p⟩ := pt
    dsimp only at q1 q3 q4 q9 pl1 ld1 ⊢
    subst q1
    generalize hpp : SetTable.below t.place (way t.mask (k.hash w) K) = p at q2 q3 ⊢
    have hhs : (hsN w L).take p ++ k.hash w :: (hsN w L).drop p = hsN w (L.take p ++ (x, k) :: L.drop p) := by
      unfold hsN
      rw [List.map_append, List.map_cons, List.map_take, List.map_drop]
    rw [hhs] at q3
    have pm := ins_perm L p (x, k)
    have hlen : (L.take p ++ (x, k) :: L.drop p).length = L.length + 1 := pm.length_eq
    have nd1 : (hsN w (L.take p ++ (x, k) :: L.drop p)).Nodup := by
      refine (pm.map fun (p : Addr × NestedKey) => p.2.hash w).nodup_iff.mpr ?_
      rw [List.map_cons]
      exact List.nodup_cons.mpr ⟨hm, R.nd⟩
    have hin : (SetTable.insertAt es p (k.hash w, Value.ref x)).toList = rowN w (L.take p ++ (x, k) :: L.drop p) := by
      rw [SetTable.toList_insertAt, R.rows]
      unfold rowN
      rw [List.map_append, List.map_cons, List.map_take, List.map_drop]
    have hes := rows_size hin
    rw [hlen] at hes
    generalize SetTable.insertAt es p (k.hash w, Value.ref x) = es1 at hin hes ⊢
    generalize L.take p ++ (x, k) :: L.drop p = L1 at pm hlen q3 nd1 hin
    first
      | (refine wpAny_bind ?_; refine wp_if_pos pl1 ?_; refine hbV_key _ _ 8 s hx.1 hx.2 ht _ _ _ ?_)
      | refine wp_if_pos pl1 (wpAny_bind (hbV_key _ _ 8 s hx.1 hx.2 ht _ _ _ ?_))
    simp only [if_true]
    refine wpAny_bind (wpAny_storeSet_of ho hd ?_ (by rw [hes, sizeLine_eq]; omega))
    have sb : Heap.SameBut a s.heap (s.heap.update a (Obj.putSet es1 t1)) := Heap.SameBut.update ..
    have ho1 := store_at (es' := es1) (t' := t1) ho hd
    generalize s.heap.update a (Obj.putSet es1 t1) = h1 at sb ho1 ⊢
    have hsz1 : t1.place.size = es1.size := by
      have := q3.sz
      rw [hsN_len, hlen] at this
      rw [this, hes]
    by_cases hf : t1.tooFull = true
    · first
        | (refine wpAny_bind ?_; refine wp_if_pos (by simp [hf]) ?_)
        | (refine wp_if_pos (by simp [hf]) ?_; refine wpAny_bind ?_)
      have hfull : (L.length + 1) * 5 ≥ t1.mask * 3 := by
        have := hf
        unfold SetTable.tooFull at this
        rwa [decide_eq_true_eq, q9] at this
      rw [hsl]
      have two : (t.mask = 7 ∧ L.length = 4) ∨ (t.mask = 31 ∧ L.length = 18) := by
        rw [q4] at hfull
        rcases R.tab.mok with e | e | e <;> rw [e] at hfull hroom <;> omega
      have go : ∀ M, SetTable.sizeAbove (SetTable.grown (L.length + 1)) - 1 = M → MaskOk M → SetTable.sizeAbove (SetTable.grown (L.length + 1)) ≤ 128 → (L.length + 1) * 5 < M * 3 →
          wpAny (model P w) A (setRelay a (SetTable.grown (L.length + 1))) (fun _ s' => wpAny (model P w) A (pure true) Q E s') E { s with heap := h1 } := fun M b1 b2 b3 b4 =>
        sn_relay (s := { s with heap := h1 }) ho1 ⟨hex.1, hex.2.1, hex.2.2⟩ rfl hin hsz1 q3.dm (by rw [hes, q4]; omega) nd1 pl1 ld1 (by rw [hlen]; exact hfew) b1 b2 b3 (by rw [hlen]; exact b4) fun h2 L2 es2 ep2 t2 sb2 R2 pm2 =>
          wpAny_pure (hQ true h2 L2 es2 ep2 t2 (sb.trans sb2) R2 (fun z => absurd z hkn) fun _ => pm2.trans pm)
      rcases two with ⟨_, e⟩ | ⟨_, e⟩
      · exact go 31 (by rw [e, size_20]) (.inr (.inl rfl)) (by rw [e, size_20]; decide) (by omega)
      · exact go 127 (by rw [e, size_76]) (.inr (.inr rfl)) (by rw [e, size_76]; decide) (by omega)
    · first
        | refine wp_if_neg (by simp [hf]) ?_
        | (refine wpAny_bind ?_; refine wp_if_neg (by simp [hf]) ?_; refine wpAny_pure ?_)
      refine wpAny_pure (hQ true h1 L1 es1 (ep + 1) t1 sb ⟨⟨_, ho1, ⟨hex.1, hex.2.1, hex.2.2⟩, rfl⟩, hin, q3, nd1, pl1, ld1, ?_, by rw [hlen]; exact hfew⟩ (fun z => absurd z hkn) fun _ => pm)
      have := hf
      unfold SetTable.tooFull at this
      rw [decide_eq_true_eq, q9] at this
      rw [hlen]
      omega
end
end PP

set_option Elab.async false
set_option linter.all false
set_option maxRecDepth 100000
set_option maxHeartbeats 2000000
/-! PP6o: set(x), sorted(set(x)), len(set(x)) of nested tuples of numbers. -/
namespace PP
open PySem PySem.Spec PyProof.Rows L2
/-- what the set has from the first i items -/
structure GotN (ks : NL) (i : Nat) (L : NL) : Prop where
  sub : ∀ p ∈ L, p ∈ ks.take i
  all : ∀ p ∈ ks.take i, p.2 ∈ L.map (·.2)
  len : L.length ≤ i
theorem gotN_next {ks : NL} {i : Nat} {x : Addr × NestedKey} (h : ks[i]? = some x) : ks.take (i + 1) = ks.take i ++ [x] := by
  rw [List.take_succ, h] <;> rfl
theorem gotN_same {ks L : NL} {i : Nat} {x : Addr × NestedKey} (g : GotN ks i L) (h : ks[i]? = some x) (hm : x.2 ∈ L.map (·.2)) : GotN ks (i + 1) L := by
  refine ⟨fun p hp => ?_, fun p hp => ?_, Nat.le_succ_of_le g.len⟩
  · rw [gotN_next h]; exact List.mem_append_left _ (g.sub p hp)
  · rw [gotN_next h, List.mem_append, List.mem_singleton] at hp
    rcases hp with z | rfl
    · exact g.all p z
    · exact hm
theorem gotN_more {ks L L' : NL} {i : Nat} {x : Addr × NestedKey} (g : GotN ks i L) (h : ks[i]? = some x) (pm : L'.Perm (x :: L)) : GotN ks (i + 1) L' := by
  refine ⟨fun p hp => ?_, fun p hp => ?_, by rw [pm.length_eq, List.length_cons]; exact Nat.succ_le_succ g.len⟩
  · rw [gotN_next h, List.mem_append, List.mem_singleton]
    rcases List.mem_cons.mp (pm.mem_iff.mp hp) with e | z
    · exact .inr e
    · exact .inl (g.sub p z)
  · rw [(pm.map (·.2)).mem_iff, List.map_cons]
    rw [gotN_next h, List.mem_append, List.mem_singleton] at hp
    rcases hp with z | rfl
    · exact List.mem_cons_of_mem _ (g.all p z)
    · exact List.mem_cons_self
section
variable {P : Program} {w : World} {A : Around} {E : Value → Shared → Prop} {s : Shared}
theorem isN_keep {h h' : Heap} {k : NestedKey} {b : Addr} (x : IsN P w h k b) (hk : ∀ c o, h.get? c = some o → h'.get? c = some o) : IsN P w h' k b :=
  nestedKind_stays.stays (fun b o _ _ hb _ => hk b o hb) x
theorem SN.keep {h h' : Heap} {a : Addr} {L : NL} {es : Array (Int × Value)} {ep : Nat} {t : SetTable} (R : SN w h a L es ep t) (ha : ∀ o, h.get? a = some o → h'.get? a = some o) : SN w h' a L es ep t := by
  obtain ⟨o, ho, r⟩ := R.ob
  exact ⟨⟨o, ha o ho, r⟩, R.rows, R.tab, R.nd, R.plain, R.led, R.room, R.few⟩
theorem SN.keys {h : Heap} {a : Addr} {L : NL} {es : Array (Int × Value)} {ep : Nat} {t : SetTable} (R : SN w h a L es ep t) : (L.map (·.2)).Nodup := by
  have this : ((L.map (·.2)).map fun k : NestedKey => k.hash w).Nodup := by rw [List.map_map]; exact R.nd
  exact List.Pairwise.of_map _ (fun _ _ hne e => hne (congrArg _ e)) this
theorem sn_fresh {h : Heap} {a : Addr} (ho : h.get? a = some (newSet w)) : SN w h a [] #[] 0 (.fresh 0 0 (!w.params.followText "set-order")) where
  ob := ⟨_, ho, ⟨rfl, rfl, rfl⟩, rfl⟩
  rows := rfl
  tab := ⟨List.Pairwise.nil, rfl, rfl, .inl rfl, fun x hx => (by cases hx), fun i h j hi => (by simp [hsN] at hi)⟩
  nd := List.nodup_nil
  plain := rfl
  led := by
    show _ ∨ (!w.params.followText "set-order") = true
    cases w.params.followText "set-order"
    · exact .inr rfl
    · exact .inl rfl
  room := by show 0 * 5 < 7 * 3; decide
  few := by show 0 < 64; decide
/-- the loop of set.update -/
theorem sn_update {I : Addr} {fp wr : List Addr} {G : Array GenState → Array GenState → Prop} {n : Nat} {Pv : Nat → Value → Prop} {St : Nat → Shared → Prop} {R : Result → Shared → Prop}
    (W : WalksS P w A.in1 I fp wr G n Pv St) (S : Addr) (hSf : S ∉ fp) (ks : NL) (hn : n = ks.length) (hfew : ∀ M : NL, (M.map (·.2)).Nodup → (∀ p ∈ M, p ∈ ks) → M.length < 64) (hval : ∀ i v, Pv i v → ∃ p, ks[i]? = some p ∧ v = .ref p.1)
    (h0 : Heap) (hk : ∀ p ∈ ks, IsN P w h0 p.2 p.1) (ht : ∀ p ∈ ks, noTx p.2 = true) (hj : ∀ p ∈ ks, ∀ q ∈ ks, p.2.hash w = q.2.hash w → p.2 = q.2) (hS0 : h0.get? S = none) (hw0 : ∀ b ∈ wr, h0.get? b = none) (hu : A.in1.units + 8 < cLine) :
    ∀ (k i : Nat) (s : Shared), n - i = k → i ≤ n → St i s → (∀ b o, h0.get? b = some o → s.heap.get? b = some o) → (∃ L es ep t, SN w s.heap S L es ep t ∧ GotN ks i L) →
      (∀ s' L es ep t, Moved (S :: wr) G s s' → SN w s'.heap S L es ep t → GotN ks n L → (∀ b o, h0.get? b = some o → s'.heap.get? b = some o) → R (.ok (.ret .none)) s') →
      codeAny (model P w) A (.builtin "set.update.loop" ⟨[.ref S, .ref I], []⟩) R s := by
  have hSw : S ∉ wr := fun h => hSf (W.sub _ h)
  have hsub : ∀ b ∈ wr, b ∈ S :: wr := fun b hb => List.mem_cons_of_mem _ hb
  have keepM : ∀ {s s' : Shared}, Moved wr G s s' → (∀ b o, h0.get? b = some o → s.heap.get? b = some o) → ∀ b o, h0.get? b = some o → s'.heap.get? b = some o := fun hm hkp b o e =>
    hm.heap b o (fun hb => by rw [hw0 b hb] at e; cases e) (hkp b o e)
  intro k
  induction k with
  | zero =>
    intro i s hk' hi hst hkp ⟨L, es, ep, t, hS, g⟩ hR
    have hin : i = n := by omega
    subst hin
    refine codeAny_builtin F.entry_set_update_loop ?_
    rw [Around.under_plainId F.plain_set_update_loop _]
    show wpAny _ A.in1 (pyNext (.ref I) >>= _) _ _ s
    refine wpAny_bind (W.done s _ _ hst fun s' hm => ?_)
    show wpAny _ A.in1 (ret Value.none) _ _ s'
    exact wpAny_pure (hR s' L es ep t (hm.mono hsub) (hS.keep fun o e => hm.heap S o hSw e) g (keepM hm hkp))
  | succ k ih =>
    intro i s hk' hi hst hkp ⟨L, es, ep, t, hS, g⟩ hR
    have hlt : i < n := by omega
    refine codeAny_builtin F.entry_set_update_loop ?_
    rw [Around.under_plainId F.plain_set_update_loop _]
    show wpAny _ A.in1 (pyNext (.ref I) >>= _) _ _ s
    refine wpAny_bind (W.item i s _ _ hlt hst fun v s' hP hst' hm => ?_)
    obtain ⟨p, hp, rfl⟩ := hval i v hP
    have hkp' := keepM hm hkp
    have hpm : p ∈ ks := List.mem_of_getElem? hp
    have sub : ∀ q ∈ L, q ∈ ks := fun q hq => List.mem_of_mem_take (g.sub q hq)
    have hS' : SN w s'.heap S L es ep t := hS.keep fun o e => hm.heap S o hSw e
    have hx : IsN P w s'.heap p.2 p.1 := isN_keep (hk p hpm) hkp'
    show wpAny _ A.in1 (holding [Value.ref p.1] (setAdd S (.ref p.1)) >>= _) _ _ s'
    refine wpAny_bind (wpAny_holding ?_)
    unfold setAdd
    refine wpAny_holding ?_
    refine wpAny_bind ((nestedKind P w).pyHash hu hx ?_)
    show wpAny _ _ (setAddHashed S (.ref p.1) (p.2.hash w)) _ _ { s' with toks := s'.toks + p.2.draws }
    refine sn_add (P := P) (s := { s' with toks := s'.toks + p.2.draws }) hS' (fun q hq => isN_keep (hk q (sub q hq)) hkp') hx (ht p hpm) (fun q hq e => hj q (sub q hq) p hpm e) hu (fun hno => hfew (p :: L) (by rw [List.map_cons, List.nodup_cons]; exact ⟨hno, hS'.keys⟩) fun q hq => by
      rcases List.mem_cons.mp hq with rfl | hq
      · exact hpm
      · exact sub q hq) fun b h' L' es' ep' t' hsb hS2 c1 c2 => ?_
    have g' : GotN ks (i + 1) L' := by
      rcases Classical.em (p.2 ∈ L.map (·.2)) with c | c
      · rw [c1 c]; exact gotN_same g hp c
      · exact gotN_more g hp (c2 c)
    have hkp2 : ∀ b o, h0.get? b = some o → h'.get? b = some o := fun b o e => (hsb.2 b (fun z => by rw [z, hS0] at e; cases e)).trans (hkp' b o e)
    refine wpAny_pure ⟨plainId_quiet F.plain_set_update_loop _, ih (i + 1) _ (by omega) hlt (W.frame _ s' _ _ hst' (Nat.le_add_right _ _) fun b hb o e => ?_) hkp2 ⟨L', es', ep', t', hS2, g'⟩ fun s'' L2 es2 ep2 t2 hm'' hS'' g'' hkp'' => ?_⟩
    · rw [hsb.2 b (fun h : b = S => hSf (by rw [← h]; exact hb))]; exact e
    · refine hR s'' L2 es2 ep2 t2 (Moved.trans W.gtrans ((hm.mono hsub).then_heap (Nat.le_add_right _ _) fun b o hb e => ?_) hm'') hS'' g'' hkp''
      rw [hsb.2 b (fun h : b = S => hb (by rw [h]; exact List.mem_cons_self))]; exact e
end
/-! ### as objects of the layer -/
def SNx (w : World) (h : Heap) (a : Addr) (L : NL) : Prop := ∃ es ep t, SN w h a L es ep t
def SetNO (w : World) (a : Addr) (L : NL) : HO := .ext fun h => SNx w h a L
theorem setNO_new {P : Program} {w : World} {H : Hp} {h : Heap} {a : Addr} {L : NL} (R : SNx w h a L) : ObjOk P w H h a (SetNO w a L) := by
  refine ⟨R, ?_, fun h1 h2 p k => ?_⟩
  · obtain ⟨es, ep, t, q⟩ := R
    obtain ⟨o, ho, _⟩ := q.ob
    exact ⟨o, ho⟩
  · have p' : SNx w h1 a L := p
    obtain ⟨es, ep, t, q⟩ := p'
    exact ⟨es, ep, t, q.keep (k ·)⟩
theorem refsN {ks : NL} {us : List Value} : Vals (ks.map fun p => V.ref p.1) us → us = ks.map fun p => Value.ref p.1 := by
  induction ks generalizing us with
  | nil => intro h; cases h; rfl
  | cons p ks ih =>
    intro h
    cases h with
    | cons r t => cases r; rw [ih t] <;> rfl
section
variable {X : Cx} {W : WX} {a : Expr} {ea : Ev} {pos pos2 p p2 : Pos}
/-- set(x) of nested tuples -/
theorem cr_setN (hc : X.calm = true) (hu : X.A.units + 70 < cLine) : CallR X (.type "set") (fun vs H Q => ∃ (t : Addr) (ks : NL), vs = [.ref t] ∧ (SqT X.K H t (ks.map fun p => V.ref p.1) ∨ SqL X.K H t (ks.map fun p => V.ref p.1)) ∧
    (∀ (pins : List (Addr × Obj)) (σ : L2.St) (s : Shared), Inv X pins σ H s → ∀ p ∈ ks, IsN X.prog X.w s.heap p.2 p.1) ∧ (∀ p ∈ ks, noTx p.2 = true) ∧ (∀ p ∈ ks, ∀ q ∈ ks, p.2.hash X.w = q.2.hash X.w → p.2 = q.2) ∧ (∀ M : NL, (M.map (·.2)).Nodup → (∀ p ∈ M, p ∈ ks) → M.length < 64) ∧
    ∀ a L, H a = none → (L.map (·.2)).Nodup → (∀ p ∈ L, p ∈ ks) → (∀ p ∈ ks, p.2 ∈ L.map (·.2)) → L.length < 64 → Q (.ref a) (upd H a (SetNO X.w a L))) := by
  intro pins s σ H vs us Q I r h
  obtain ⟨t, ks, rfl, ht, hk, hx, hj, hl, q⟩ := h
  rw [Vals.ref1 r]
  have dead : s.heap.get? s.heap.objs.size = none := by
    cases z : s.heap.get? s.heap.objs.size with
    | none => rfl
    | some o => exact absurd (Heap.lt_size z) (Nat.lt_irrefl _)
  have fin : ∀ (h' : Heap) (tk : Nat), (∃ L es ep t, SN X.w h' s.heap.objs.size L es ep t ∧ GotN ks ks.length L) → (∀ b o, s.heap.get? b = some o → h'.get? b = some o) → EP X pins σ Q (.ref s.heap.objs.size) { s with heap := h', toks := tk } := fun h' tk ⟨L, es, ep, t, R, g⟩ kp => by
    have nd : (L.map (·.2)).Nodup := R.keys
    refine ⟨.ref s.heap.objs.size, _, I.laid (t' := tk) kp (Nat.le_refl _) (setNO_new ⟨es, ep, t, R⟩), rfl, q _ L (I.hok.fresh (Nat.le_refl _)) nd (fun p hp => List.mem_of_mem_take (g.sub p hp)) (fun p hp => g.all p (by rw [List.take_length]; exact hp)) R.few⟩
  rcases ht with ht | ht
  · obtain ⟨its, rv, pt, hz⟩ := I.tuple ht
    have er := refsN rv
    have hsz : its.toArray.size = ks.length := by rw [List.size_toArray, ← rv.length, List.length_map]
    refine set_tup (I.ok.hd hc) pt (G := fun h' => ∃ L es ep t, SN X.w h' s.heap.objs.size L es ep t ∧ GotN ks ks.length L) (fun R J s1 Wk nS st atS dJ kp k => ?_) fin
    refine sn_update Wk _ nS ks hsz hl (fun i v hv => ?_) s.heap (fun p hp => hk pins σ s I p hp) hx hj dead (fun b hb => by rw [List.mem_singleton.mp hb]; exact dJ) (show X.A.units + 3 + 8 < cLine by omega) its.toArray.size 0 s1 (Nat.sub_zero _) (Nat.zero_le _) st kp ⟨[], #[], 0, _, sn_fresh atS, fun p h => (by cases h), fun p h => (by simp at h), Nat.le_refl _⟩ ?_
    · have hv : its.toArray[i]? = some v := hv
      rw [← Array.getElem?_toList] at hv
      have hv : its[i]? = some v := by simpa using hv
      rw [er, List.getElem?_map] at hv
      obtain ⟨p, e1, e2⟩ := Option.map_eq_some_iff.mp hv
      exact ⟨p, e1, e2.symm⟩
    · intro s' L es ep t hm R' g' kp'
      rw [hsz] at g'
      exact k s' hm ⟨L, es, ep, t, R', g'⟩
  · obtain ⟨its, rv, pt, hz⟩ := I.list ht
    have er := refsN rv
    have hsz : its.toArray.size = ks.length := by rw [List.size_toArray, ← rv.length, List.length_map]
    refine set_lst (I.ok.hd hc) pt.isList (G := fun h' => ∃ L es ep t, SN X.w h' s.heap.objs.size L es ep t ∧ GotN ks ks.length L) (fun R J s1 Wk nS st atS dJ kp k => ?_) fin
    refine sn_update Wk _ nS ks hsz hl (fun i v hv => ?_) s.heap (fun p hp => hk pins σ s I p hp) hx hj dead (fun b hb => by rw [List.mem_singleton.mp hb]; exact dJ) (show X.A.units + 3 + 8 < cLine by omega) its.toArray.size 0 s1 (Nat.sub_zero _) (Nat.zero_le _) st kp ⟨[], #[], 0, _, sn_fresh atS, fun p h => (by cases h), fun p h => (by simp at h), Nat.le_refl _⟩ ?_
    · have hv : its.toArray[i]? = some v := hv
      rw [← Array.getElem?_toList] at hv
      have hv : its[i]? = some v := by simpa using hv
      rw [er, List.getElem?_map] at hv
      obtain ⟨p, e1, e2⟩ := Option.map_eq_some_iff.mp hv
      exact ⟨p, e1, e2.symm⟩
    · intro s' L es ep t hm R' g' kp'
      rw [hsz] at g'
      exact k s' hm ⟨L, es, ep, t, R', g'⟩
/-- sorted(x), the items of x gathered in an order that is not known -/
theorem sorted_collN (hc : X.calm = true) (hu : X.A.units + 70 < cLine) {pins : List (Addr × Obj)} {σ : L2.St} {H : Hp} {s : Shared} {g : Gh} {c : List PV} {Q : VK} {u : Value} {z : PV} (I : Inv X pins σ H s) (hr : HR (wd X) g c H) (fin : FinO (wd X) g H c Q z)
    (hcol : ∀ {R : List Value → Shared → Prop} {E : Value → Shared → Prop}, (∀ (s1 : Shared) (us : List Value) (vs : List V) (ps : List PV), Inv X pins σ H s1 → Vals vs us → RpL (wd X) g vs ps → us.length ≤ sizeLine → ps.all tupNE = true → psort ps = some z → R us s1) → wpAny (model X.prog X.w) X.A.in1 (collect u) R E s) :
    wpAny (model X.prog X.w) X.A (call (.builtin "sorted") [u]) (EP X pins σ Q) X.xe s := by
  refine Calls.call_function_entry PyProof.Rows.kind_sorted PyProof.Rows.plain_sorted PyProof.Rows.entry_sorted (PyProof.Rows.args_sorted1 _) ?_
  unfold Builtin.«sorted»
  refine wpAny_bind (m := checkCount "sorted" 1 1 _) (wpAny_pure ?_)
  refine wpAny_bind (hcol fun s1 us vs ps I1 hv hp hle hne e => ?_)
  unfold psort at e
  split at e <;> cases e
  rename_i hcond
  simp only [Bool.and_eq_true, decide_eq_true_eq] at hcond
  obtain ⟨⟨⟨hlen, hdat⟩, hal⟩, _⟩ := hcond
  rw [isort_merge hdat hal] at fin
  have E1 : PySem.W.EachIs (RU (wd X) g) us ps := each_of hv hp
  have hll : us.length = ps.length := each_length E1
  have hkl : ps.length ≤ sizeLine := by rw [← hll]; exact hle
  refine wpAny_bind (wpAny_newList ?_ hle)
  have hoL : (s1.heap.push (seqObj "list" us.toArray 0)).get? s1.heap.objs.size = some (seqObj "list" us.toArray 0) := Heap.get?_push_size _ rfl
  show wpAny _ _ _ _ _ { s1 with heap := s1.heap.push (seqObj "list" us.toArray 0) }
  have hsm : ∀ p ∈ ps, small 60 p = true := fun p hp => List.all_eq_true.mp hdat p hp
  have er : PySem.W.EachIs (fun u p => ∃ as, Reads (s1.heap.push (seqObj "list" us.toArray 0)) u (toD p) as ∧ s1.heap.objs.size ∉ as) us ps :=
    (PySem.W.each_mem E1).mono fun u p ⟨⟨v, rvu, rp⟩, hm⟩ => by
      obtain ⟨as, r⟩ := Dp.reads I1 (toD p) v u (rp.dp hr 60 (hsm p hm)) rvu
      refine ⟨as, PyProof.Rows.Reads.keeps (fun _ _ q => Heap.get?_push_of_some _ q) r, fun hin => ?_⟩
      obtain ⟨o, ho⟩ := PyProof.On.reads_mem_get r _ hin
      exact absurd (Heap.lt_size ho) (Nat.lt_irrefl _)
  have hAl : PySem.W.AllAlike (ps.map toD) := fun d hd d' hd' => by
    obtain ⟨p, hp, rfl⟩ := List.mem_map.mp hd
    obtain ⟨q, hq, rfl⟩ := List.mem_map.mp hd'
    exact List.all_eq_true.mp (List.all_eq_true.mp hal p hp) q hq
  have hS : PySem.W.Sortable (ps.map toD) := by
    refine .inl fun d hd => ?_
    obtain ⟨p, hp, rfl⟩ := List.mem_map.mp hd
    have := List.all_eq_true.mp hne p hp
    unfold tupNE at this
    split at this
    · exact ⟨_, _, by rw [toD, toDs]⟩
    · cases this
  have hdep : ∀ p ∈ ps, X.A.in1.units + 1 + (toD p).depth < cLine := fun p hp => by
    have := (small_shape 60 p (hsm p hp)).2
    show X.A.units + 1 + 1 + _ < _
    omega
  refine wpAny_bind (wpAny_holding (PySem.W.list_sort_data (s := { s1 with heap := s1.heap.push (seqObj "list" us.toArray 0) }) (enc := toD) hoL E1 er hAl hS hkl hdep fun out hol ho => ?_))
  obtain ⟨ys, h1, h2⟩ := each_back ho
  obtain ⟨e', he'⟩ := PyProof.Rows.sortedHeap_at (vs := us) (out := out.toArray) hoL
  have hy : ys.length = out.length := h1.length
  refine wpAny_pure ⟨_, rfl, .ref s1.heap.objs.size, upd H s1.heap.objs.size (.lst ys), I1.laid (t' := s1.toks) (fun b u e => ?_) (Nat.le_refl _)
    (show ObjOk X.prog X.w _ _ _ (.lst ys) from ⟨by rw [hy, hol]; exact hkl, out, e', h1, he'⟩), rfl, fin.newL hr h2 _ (I1.hok.fresh (Nat.le_refl _))⟩
  have hb : b < s1.heap.objs.size := Heap.lt_size e
  show (sortedHeap (s1.heap.push (seqObj "list" us.toArray 0)) s1.heap.objs.size us out.toArray).get? b = some u
  rw [PyProof.Rows.sortedHeap_old (Nat.ne_of_lt hb) (by rw [size_push']; exact Nat.lt_succ_of_lt hb)]
  exact Heap.get?_push_of_some _ e
end
/-! ### the members -/
theorem plain_key : ∀ (n : Nat) (x : PV), plainK n x = true → keyd n x = true ∧ noTx (nk x) = true := by
  intro n
  induction n with
  | zero => intro x h; cases x <;> first | (exact ⟨rfl, rfl⟩) | (cases h; done)
  | succ n ih =>
    intro x h
    cases x with
    | tup xs =>
      rw [plainK, List.all_eq_true] at h
      rw [keyd, List.all_eq_true]
      refine ⟨fun y hy => (ih y (h y hy)).1, ?_⟩
      rw [nk, noTx]
      have : ∀ l : List PV, (∀ y ∈ l, plainK n y = true) → noTxs (nks l) = true := fun l => by
        induction l with
        | nil => intro _; rfl
        | cons y l ihl =>
          intro hl
          rw [nks, noTxs, (ih y (hl y List.mem_cons_self)).2, ihl fun z hz => hl z (List.mem_cons_of_mem _ hz)]
          rfl
      exact this xs h
    | _ => first | (exact ⟨rfl, rfl⟩) | (cases h; done)
theorem plain_inj : ∀ (n : Nat) (x y : PV), plainK n x = true → plainK n y = true → nk x = nk y → x = y := by
  intro n
  induction n with
  | zero => intro x y h1 h2 e; cases x <;> cases y <;> simp [plainK, nk] at h1 h2 e ⊢ <;> exact e
  | succ n ih =>
    have all : ∀ xs ys : List PV, (∀ z ∈ xs, plainK n z = true) → (∀ z ∈ ys, plainK n z = true) → nks xs = nks ys → xs = ys := fun xs => by
      induction xs with
      | nil => intro ys _ _ e; cases ys with
        | nil => rfl
        | cons y ys => simp [nks] at e
      | cons x xs ihx =>
        intro ys h1 h2 e
        cases ys with
        | nil => simp [nks] at e
        | cons y ys =>
          rw [nks, nks] at e
          obtain ⟨e1, e2⟩ := List.cons.inj e
          rw [ih x y (h1 x List.mem_cons_self) (h2 y List.mem_cons_self) e1, ihx ys (fun z hz => h1 z (List.mem_cons_of_mem _ hz)) (fun z hz => h2 z (List.mem_cons_of_mem _ hz)) e2]
    intro x y h1 h2 e
    cases x with
    | tup xs =>
      cases y with
      | tup ys =>
        rw [plainK, List.all_eq_true] at h1 h2
        rw [nk, nk] at e
        injection e with e
        rw [all xs ys h1 h2 e]
      | _ => first | (simp [nk] at e; done) | (cases h2; done)
    | _ => cases y <;> simp [plainK, nk] at h1 h2 e ⊢ <;> exact e
theorem dedup_mem : ∀ (xs acc : List PV), (∀ x ∈ xs, ∀ y, (y ∈ acc ∨ y ∈ xs) → (peq y x = true ↔ y = x)) → ∀ x, x ∈ dedup acc xs ↔ x ∈ acc ∨ x ∈ xs
  | [], acc, _, x => by rw [dedup]; simp
  | y :: r, acc, h, x => by
    rw [dedup]
    split
    · rename_i hany
      obtain ⟨z, hz, e⟩ := List.any_eq_true.mp hany
      have e2 : z = y := (h y List.mem_cons_self z (.inl hz)).mp e
      rw [dedup_mem r acc (fun x hx y' hy' => h x (List.mem_cons_of_mem _ hx) y' (hy'.imp id (List.mem_cons_of_mem _)))]
      rw [List.mem_cons]
      constructor
      · rintro (h | h)
        · exact .inl h
        · exact .inr (.inr h)
      · rintro (h | rfl | h)
        · exact .inl h
        · exact .inl (e2 ▸ hz)
        · exact .inr h
    · rw [dedup_mem r (acc ++ [y]) (fun x hx y' hy' => h x (List.mem_cons_of_mem _ hx) y' (by
        rcases hy' with h' | h'
        · rcases List.mem_append.mp h' with h' | h'
          · exact .inl h'
          · rw [List.mem_singleton.mp h']; exact .inr List.mem_cons_self
        · exact .inr (List.mem_cons_of_mem _ h')))]
      rw [List.mem_append, List.mem_singleton, List.mem_cons, or_assoc]
theorem dedup_nd : ∀ (xs acc : List PV), (∀ x ∈ xs, ∀ y, (y ∈ acc ∨ y ∈ xs) → (peq y x = true ↔ y = x)) → acc.Nodup → (dedup acc xs).Nodup
  | [], acc, _, nd => by rw [dedup]; exact nd
  | y :: r, acc, h, nd => by
    rw [dedup]
    split
    · exact dedup_nd r acc (fun x hx y' hy' => h x (List.mem_cons_of_mem _ hx) y' (hy'.imp id (List.mem_cons_of_mem _))) nd
    · rename_i hany
      refine dedup_nd r (acc ++ [y]) (fun x hx y' hy' => h x (List.mem_cons_of_mem _ hx) y' (by
        rcases hy' with h' | h'
        · rcases List.mem_append.mp h' with h' | h'
          · exact .inl h'
          · rw [List.mem_singleton.mp h']; exact .inr List.mem_cons_self
        · exact .inr (List.mem_cons_of_mem _ h'))) ?_
      refine List.nodup_append.mpr ⟨nd, by simp, fun a ha b hb => ?_⟩
      rw [List.mem_singleton.mp hb]
      rintro rfl
      exact hany (List.any_eq_true.mpr ⟨a, ha, (h a List.mem_cons_self a (.inl ha)).mpr rfl⟩)
theorem map_nd_inj {α β : Type} {f : α → β} : ∀ {l : List α} {x y : α}, (l.map f).Nodup → x ∈ l → y ∈ l → f x = f y → x = y
  | a :: l, x, y, nd, hx, hy, e => by
    rw [List.map_cons, List.nodup_cons] at nd
    rcases List.mem_cons.mp hx with ex | hx <;> rcases List.mem_cons.mp hy with ey | hy
    · rw [ex, ey]
    · exact absurd (List.mem_map.mpr ⟨y, hy, by rw [← e, ex]⟩) nd.1
    · exact absurd (List.mem_map.mpr ⟨x, hx, by rw [e, ey]⟩) nd.1
    · exact map_nd_inj nd.2 hx hy e
/-- what setN says -/
structure SetOk (xs d : List PV) : Prop where
  few : d.length < 64
  key : ∀ x ∈ xs, isKey x = true
  tx : ∀ x ∈ xs, noTx (nk x) = true
  inj : ∀ x ∈ xs, ∀ y ∈ xs, nk x = nk y → x = y
  hash : ∀ (w : World), ∀ x ∈ xs, ∀ y ∈ xs, (nk x).hash w = (nk y).hash w → x = y
  mem : ∀ x, x ∈ d ↔ x ∈ xs
  nd : d.Nodup
theorem setN_ok {prog : Program} {xs d : List PV} (h : setN xs = some d) : SetOk xs d := by
  unfold setN at h
  split at h
  rotate_left
  · cases h
  rename_i hc
  cases h
  simp only [Bool.and_eq_true, decide_eq_true_eq, List.all_eq_true] at hc
  obtain ⟨⟨h1, h2⟩, h3⟩ := hc
  have key : ∀ x ∈ xs, isKey x = true := fun x hx => by
    obtain ⟨a, b⟩ := h2 x hx
    cases x with
    | tup ys => exact (plain_key 8 _ b).1
    | _ => cases a
  have inj : ∀ x ∈ xs, ∀ y ∈ xs, nk x = nk y → x = y := fun x hx y hy e => plain_inj 8 x y (h2 x hx).2 (h2 y hy).2 e
  have pe : ∀ x ∈ xs, ∀ y, (y ∈ ([] : List PV) ∨ y ∈ xs) → (peq y x = true ↔ y = x) := fun x hx y hy => by
    rcases hy with hy | hy
    · cases hy
    · rw [key_eq (key y hy) (key x hx), decide_eq_true_eq]
      exact ⟨inj y hy x hx, fun e => by rw [e]⟩
  have mem : ∀ x, x ∈ dedup [] xs ↔ x ∈ xs := fun x => by
    rw [dedup_mem xs [] pe x]
    simp
  refine ⟨h1, key, fun x hx => (plain_key 8 x (h2 x hx).2).2, inj, fun w x hx y hy e => ?_, mem, dedup_nd xs [] pe List.nodup_nil⟩
  have a := apart_nd (prog := prog) (w := w) h3
  rw [List.map_map, List.map_map] at a
  exact map_nd_inj a ((mem x).mpr hx) ((mem y).mpr hy) e
theorem nd_sub_len {α : Type} : ∀ {ps d : List α}, ps.Nodup → (∀ x ∈ ps, x ∈ d) → ps.length ≤ d.length
  | [], _, _, _ => Nat.zero_le _
  | a :: r, d, nd, h => by
    obtain ⟨n1, n2⟩ := List.nodup_cons.mp nd
    obtain ⟨d1, d2, rfl⟩ := List.append_of_mem (h a List.mem_cons_self)
    have := nd_sub_len (ps := r) (d := d1 ++ d2) n2 fun x hx => by
      have := h x (List.mem_cons_of_mem _ hx)
      rw [List.mem_append, List.mem_cons] at this
      rw [List.mem_append]
      rcases this with z | rfl | z
      · exact .inl z
      · exact absurd hx n1
      · exact .inr z
    rw [List.length_cons, List.length_append, List.length_cons]
    rw [List.length_append] at this
    omega
theorem perm_map_ex {α β : Type} {f : α → β} {l m : List β} (h : l.Perm m) : ∀ L : List α, m = L.map f → ∃ L' : List α, L'.Perm L ∧ l = L'.map f := by
  induction h with
  | nil => intro L e; cases L with
    | nil => exact ⟨[], .refl _, rfl⟩
    | cons _ _ => cases e
  | cons x p ih =>
    intro L e
    cases L with
    | nil => cases e
    | cons a L =>
      obtain ⟨e1, e2⟩ := List.cons.inj e
      obtain ⟨L', p', e'⟩ := ih L e2
      exact ⟨a :: L', p'.cons a, by rw [e', e1]; rfl⟩
  | swap x y r =>
    intro L e
    match L, e with
    | a :: b :: L, e =>
      obtain ⟨e1, e2⟩ := List.cons.inj e
      obtain ⟨e3, e4⟩ := List.cons.inj e2
      exact ⟨b :: a :: L, .swap .., by rw [e1, e3, e4]; rfl⟩
  | trans p q ih1 ih2 =>
    intro L e
    obtain ⟨L2, p2, e2⟩ := ih2 L e
    obtain ⟨L1, p1, e1⟩ := ih1 L2 e2
    exact ⟨L1, p1.trans p2, e1⟩
theorem psort_perm {xs ys : List PV} {z : PV} (p : ys.Perm xs) (ht : xs.all tupNE = true) (h : psort xs = some z) : psort ys = some z ∧ ys.all tupNE = true := by
  have hall : ∀ f : PV → Bool, ys.all f = xs.all f := fun f => by
    rw [Bool.eq_iff_iff, List.all_eq_true, List.all_eq_true]
    exact ⟨fun h x hx => h x (p.mem_iff.mpr hx), fun h x hx => h x (p.mem_iff.mp hx)⟩
  unfold psort at h ⊢
  split at h
  rotate_left
  · cases h
  rename_i hc
  cases h
  simp only [Bool.and_eq_true, decide_eq_true_eq] at hc
  obtain ⟨⟨⟨h1, h2⟩, h3⟩, _⟩ := hc
  have h2' : ys.all dat = true := by rw [hall]; exact h2
  have h3' : alikeAll2 ys = true := by
    unfold alikeAll2 at h3 ⊢
    rw [hall, List.all_eq_true] at *
    intro x hx
    rw [hall]
    exact h3 x hx
  have h4 : ys.all tupNE = true := by rw [hall]; exact ht
  refine ⟨?_, h4⟩
  rw [if_pos (by simp [p.length_eq, h1, h2', h3', h4])]
  have e : isortB ple ys = isortB ple xs := by
    refine ((isortB_perm ple ys).trans (p.trans (isortB_perm ple xs).symm)).eq_of_pairwise (fun a b ha hb q1 q2 => ?_) (isortB_pw ple_trans ple_total ys) (isortB_pw ple_trans ple_total xs)
    have ha' := p.mem_iff.mp ((isortB_perm ple ys).mem_iff.mp ha)
    have hb' := (isortB_perm ple xs).mem_iff.mp hb
    exact ple_anti (List.all_eq_true.mp h2 a ha') (List.all_eq_true.mp h2 b hb') (List.all_eq_true.mp (List.all_eq_true.mp h3 a ha') b hb') q1 q2
  rw [e]
/-- items with their addresses and keys -/
theorem RpL.keyed {T : Wd} {g : Gh} : ∀ {vs : List V} {xs : List PV}, RpL T g vs xs → (∀ x ∈ xs, isKey x = true) → ∃ ks : NL, vs = ks.map (fun p => V.ref p.1) ∧ ks.map (·.2) = xs.map nk ∧ ∀ p ∈ ks, ∃ x ∈ xs, Rp T g (.ref p.1) x ∧ p.2 = nk x
  | _, [], h, _ => by cases h; exact ⟨[], rfl, rfl, fun _ h => nomatch h⟩
  | _, x :: xs, h, hk => by
    cases h with
    | cons r t =>
      obtain ⟨ks, e1, e2, e3⟩ := RpL.keyed t fun y hy => hk y (List.mem_cons_of_mem _ hy)
      have hx := hk x List.mem_cons_self
      cases x with
      | tup ps =>
        cases r with
        | @tup a _ _ e r2 =>
          refine ⟨(a, nk (.tup ps)) :: ks, by rw [e1]; rfl, by rw [List.map_cons, e2]; rfl, fun p hp => ?_⟩
          rcases List.mem_cons.mp hp with rfl | hp
          · exact ⟨_, List.mem_cons_self, .tup e r2, rfl⟩
          · obtain ⟨y, hy, q⟩ := e3 p hp
            exact ⟨y, List.mem_cons_of_mem _ hy, q⟩
      | _ => simp [isKey] at hx
theorem RpL.unkeyed {T : Wd} {g : Gh} {xs : List PV} : ∀ {L : NL}, (∀ p ∈ L, ∃ x ∈ xs, Rp T g (.ref p.1) x ∧ p.2 = nk x) → ∃ ps, RpL T g (L.map fun p => V.ref p.1) ps ∧ L.map (·.2) = ps.map nk ∧ ∀ x ∈ ps, x ∈ xs
  | [], _ => ⟨[], .nil, rfl, fun _ h => nomatch h⟩
  | p :: L, h => by
    obtain ⟨x, hx, r, e⟩ := h p List.mem_cons_self
    obtain ⟨ps, e1, e2, e3⟩ := RpL.unkeyed (L := L) fun q hq => h q (List.mem_cons_of_mem _ hq)
    refine ⟨x :: ps, .cons r e1, by rw [List.map_cons, List.map_cons, e2, e], fun y hy => ?_⟩
    rcases List.mem_cons.mp hy with rfl | hy
    · exact hx
    · exact e3 y hy
theorem few_of {T : Wd} {g : Gh} {xs d : List PV} {ks : NL} (S : SetOk xs d) (hk : ∀ p ∈ ks, ∃ x ∈ xs, Rp T g (.ref p.1) x ∧ p.2 = nk x) (M : NL) (nd : (M.map (·.2)).Nodup) (hm : ∀ p ∈ M, p ∈ ks) : M.length < 64 := by
  obtain ⟨ps, _, ep, sp⟩ := RpL.unkeyed (L := M) fun p hp => hk p (hm p hp)
  rw [ep] at nd
  have ndp : ps.Nodup := List.Pairwise.of_map nk (fun _ _ hne e => hne (congrArg nk e)) nd
  have h1 := nd_sub_len (d := d) ndp fun x hx => (S.mem x).mpr (sp x hx)
  have h2 : M.length = ps.length := by
    have := congrArg List.length ep
    simpa using this
  have := S.few
  omega
theorem keys_perm {xs d ps : List PV} {L ks : NL} (S : SetOk xs d) (e1 : ks.map (·.2) = xs.map nk) (nd : (L.map (·.2)).Nodup) (h : ∀ p ∈ ks, p.2 ∈ L.map (·.2)) (e2 : L.map (·.2) = ps.map nk) (e3 : ∀ x ∈ ps, x ∈ xs) : ps.Perm d := by
  rw [e2] at nd
  have ndp : ps.Nodup := List.Pairwise.of_map nk (fun _ _ hne e => hne (congrArg nk e)) nd
  refine (List.perm_ext_iff_of_nodup ndp S.nd).mpr fun x => ?_
  rw [S.mem x]
  refine ⟨e3 x, fun hx => ?_⟩
  have : nk x ∈ ks.map (·.2) := by rw [e1]; exact List.mem_map.mpr ⟨x, hx, rfl⟩
  obtain ⟨p, hp, e⟩ := List.mem_map.mp this
  have m := h p hp
  rw [e2] at m
  obtain ⟨y, hy, ey⟩ := List.mem_map.mp m
  rw [S.inj x hx y (e3 y hy) (by rw [ey, ← e])]
  exact hy
section
variable {X : Cx} {W : WX} {a : Expr} {ea : Ev} {pos pos2 p p2 : Pos}
/-- sorted(z) of such a set -/
theorem cr_sortedN (hc : X.calm = true) (hu : X.A.units + 70 < cLine) : CallR X (.builtin "sorted") (fun vs H Q => ∃ (a : Addr) (L : NL) (g : Gh) (c xs d : List PV) (z : PV), vs = [.ref a] ∧ H a = some (SetNO X.w a L) ∧ HR (wd X) g c H ∧ L.length < 64 ∧
    (∀ L' : NL, L'.Perm L → ∃ ps, RpL (wd X) g (L'.map fun p => V.ref p.1) ps ∧ ps.Perm d) ∧ d.all tupNE = true ∧ psort d = some z ∧ FinO (wd X) g H c Q z) := by
  intro pins s σ H vs us Q I r h
  obtain ⟨a, L, g, c, xs, d, z, rfl, ha, hr, few, hL, ht, hz, fin⟩ := h
  have R : SNx X.w s.heap a L := (I.hok a _ ha).1
  obtain ⟨es, ep, t, R⟩ := R
  rw [Vals.ref1 r]
  refine sorted_collN hc hu I hr fin fun {R' E'} k => ?_
  obtain ⟨o, ho, hex, hd⟩ := R.ob
  have hsz := rows_size R.rows
  refine collect_set (A := X.A.in1) (I.ok.hd hc) ⟨o, ho, hex.1, hd⟩ R.fits (by rw [hsz]; unfold scanBound; omega) R.tab.ris R.led fun s1 out keep size gens os pm => ?_
  have e0 : es.toList.map (·.2) = L.map fun p => Value.ref p.1 := by
    rw [R.rows]
    unfold rowN
    rw [List.map_map]
    rfl
  rw [e0] at pm
  obtain ⟨L', p', rfl⟩ := perm_map_ex pm L rfl
  obtain ⟨ps, rp, pp⟩ := hL L' p'
  obtain ⟨z1, z2⟩ := psort_perm pp ht hz
  refine k s1 _ (L'.map fun p => V.ref p.1) ps (I.call' (ch := []) os (Un.kept keep) (I.hok.kept keep) (by rw [gens]; exact I.bare) (fun _ z => nomatch z)) ?_ rp (by rw [List.length_map, p'.length_eq, sizeLine_eq]; omega) z2 z1
  clear p' rp pp z1 z2 pm
  induction L' with
  | nil => exact .nil
  | cons p L' ih => exact .cons rfl ih
theorem cr_lenN : CallR X (.builtin "len") (fun vs H Q => ∃ (a : Addr) (L : NL), vs = [.ref a] ∧ H a = some (SetNO X.w a L) ∧ L.length < 64 ∧ Q (.int L.length) H) := by
  intro pins s σ H vs us Q I r h
  obtain ⟨a, L, rfl, ha, few, q⟩ := h
  rw [Vals.ref1 r]
  have R : SNx X.w s.heap a L := (I.hok a _ ha).1
  obtain ⟨es, ep, t, R⟩ := R
  obtain ⟨o, ho, hex, hd⟩ := R.ob
  have hsz := rows_size R.rows
  exact call_len_set ho hex hd R.fits (by rw [hsz]; omega) ⟨.int L.length, H, I.tok _, ⟨_, by rw [hsz]⟩, q⟩
theorem x_lenSetN (hc : X.calm = true) (hu : X.A.units + 70 < cLine) (k : BOk X "len") (k2 : BOk X "set") (ha : XB X W a ea) (hs : notStar a = true) : XE' X W (.Call (.Name "len" p) [.Call (.Name "set" p2) [a] [] pos2] [] pos) (b1 .lenSetN ea) := by
  refine pe_weak (pe_callB cr_lenN k.gl k.no (by decide +kernel) (pa_cons (pe_callTy (cr_setN hc hu) k2.gl k2.no (by decide +kernel) (pa_cons ha pa_nil (star_cons hs)) k2.nn k2.nd (star_cons hs) rfl) pa_nil rfl) k.nn k.nd rfl rfl) fun σ H Q h => ?_
  have h' := tR.one (f := fun xs c => pureR (bltop .lenSetN xs) c) h
  refine (tR.one h').mono fun x g1 c1 H1 ⟨h1, d1, k1⟩ v cv => ?_
  obtain ⟨_, d2, k2⟩ := k1 g1 H1 Pres.refl h1
  obtain ⟨z, ez, kz⟩ := k2.pure
  obtain ⟨xs, e1, e2⟩ := Option.bind_eq_some_iff.mp (show (seqOf x).bind _ = some z from ez)
  obtain ⟨d, e3, rfl⟩ := Option.map_eq_some_iff.mp e2
  have S := setN_ok (prog := X.prog) e3
  obtain ⟨a, vs, rfl, ea, ra⟩ := seqOf_ct h1 e1 cv
  obtain ⟨ks, rfl, hk2, hk3⟩ := ra.keyed S.key
  have hlen : ks.length = xs.length := by have := congrArg List.length hk2; simpa using this
  refine ⟨a, ks, rfl, ea, fun pins σ s I p hp => ?_, fun p hp => ?_, fun p hp q hq e => ?_, few_of S hk3, fun b L hb nd hL1 hL2 few => ?_⟩
  · obtain ⟨x, hx, r, e⟩ := hk3 p hp
    obtain ⟨a', _, e2, is⟩ := Rp.key I h1 (S.key x hx) r (u := .ref p.1) rfl
    cases e2
    rw [e]
    exact is
  · obtain ⟨x, hx, r, e⟩ := hk3 p hp
    rw [e]; exact S.tx x hx
  · obtain ⟨x, hx, r, e1⟩ := hk3 p hp
    obtain ⟨y, hy, r', e2⟩ := hk3 q hq
    rw [e1, e2] at e ⊢
    rw [S.hash X.w x hx y hy e]
  · obtain ⟨ps, rp, ep, sp⟩ := RpL.unkeyed (L := L) fun p hp => hk3 p (hL1 p hp)
    have pm := keys_perm S hk2 nd hL2 ep sp
    have el : L.length = d.length := by
      rw [← pm.length_eq]
      have := congrArg List.length ep
      simpa using this
    obtain ⟨p', h''⟩ := h1.fresh (o := SetNO X.w b L) hb
    refine ⟨b, L, rfl, upd_same, few, ?_⟩
    rw [el]
    exact kz _ _ p' h'' _ (.int _)
theorem x_sortedSetN (hc : X.calm = true) (hu : X.A.units + 70 < cLine) (k : BOk X "sorted") (k2 : BOk X "set") (ha : XB X W a ea) (hs : notStar a = true) : XO X W (.Call (.Name "sorted" p) [.Call (.Name "set" p2) [a] [] pos2] [] pos) (b1 .sortedSetN ea) := by
  refine pe_weak (pe_callB (cr_sortedN hc hu) k.gl k.no (by decide +kernel) (pa_cons (pe_callTy (cr_setN hc hu) k2.gl k2.no (by decide +kernel) (pa_cons ha pa_nil (star_cons hs)) k2.nn k2.nd (star_cons hs) rfl) pa_nil rfl) k.nn k.nd rfl rfl) fun σ H Q h => ?_
  have h' := tR.one (f := fun xs c => pureR (bltop .sortedSetN xs) c) h
  refine (tR.one h').mono fun x g1 c1 H1 ⟨h1, d1, k1⟩ v cv => ?_
  obtain ⟨_, d2, k2⟩ := k1 g1 H1 Pres.refl h1
  obtain ⟨z, ez, kz⟩ := k2.pure
  obtain ⟨xs, e1, e2⟩ := Option.bind_eq_some_iff.mp (show (seqOf x).bind _ = some z from ez)
  obtain ⟨d, e3, e4⟩ := Option.bind_eq_some_iff.mp e2
  split at e4
  rotate_left
  · cases e4
  rename_i htup
  have S := setN_ok (prog := X.prog) e3
  obtain ⟨a, vs, rfl, ea, ra⟩ := seqOf_ct h1 e1 cv
  obtain ⟨ks, rfl, hk2, hk3⟩ := ra.keyed S.key
  have hlen : ks.length = xs.length := by have := congrArg List.length hk2; simpa using this
  refine ⟨a, ks, rfl, ea, fun pins σ s I p hp => ?_, fun p hp => ?_, fun p hp q hq e => ?_, few_of S hk3, fun b L hb nd hL1 hL2 few => ?_⟩
  · obtain ⟨x, hx, r, e⟩ := hk3 p hp
    obtain ⟨a', _, e2, is⟩ := Rp.key I h1 (S.key x hx) r (u := .ref p.1) rfl
    cases e2
    rw [e]
    exact is
  · obtain ⟨x, hx, r, e⟩ := hk3 p hp
    rw [e]; exact S.tx x hx
  · obtain ⟨x, hx, r, e1⟩ := hk3 p hp
    obtain ⟨y, hy, r', e2⟩ := hk3 q hq
    rw [e1, e2] at e ⊢
    rw [S.hash X.w x hx y hy e]
  · obtain ⟨p', h''⟩ := h1.fresh (o := SetNO X.w b L) hb
    refine ⟨b, L, g1, c1, xs, d, z, rfl, upd_same, h'', few, fun L' pL => ?_, htup, e4, ?_⟩
    · obtain ⟨ps, rp, ep, sp⟩ := RpL.unkeyed (L := L') fun p hp => hk3 p (hL1 p (pL.mem_iff.mp hp))
      refine ⟨ps, rp, keys_perm S hk2 ((pL.map (·.2)).nodup_iff.mpr nd) (fun p hp => (pL.map (·.2)).mem_iff.mpr (hL2 p hp)) ep sp⟩
    · intro g' H' a p'' h' na nf nc o
      exact kz g' H' (p'.trans p'') h' a (d1 a (p'.dead na)) nf nc o
end
end PP

set_option Elab.async false
set_option linter.all false
set_option maxRecDepth 100000
set_option maxHeartbeats 2000000
/-! PP13i: repr of a tuple of data, where no repr is under way. -/
namespace PP
open PySem PySem.Spec PyProof.Rows L2
mutual
theorem small_nodict : ∀ (n : Nat) (p : PV), small n p = true → (toD p).hasDict = false
  | _, .non, _ => by simp [toD, PyData.hasDict]
  | _, .bl _, _ => by simp [toD, PyData.hasDict]
  | _, .int _, _ => by simp [toD, PyData.hasDict]
  | n, .str s, h => by simp [toD, PyData.hasDict]
  | n + 1, .tup xs, h => by
    rw [small] at h
    rw [toD, PyData.hasDict]
    exact small_nodicts n xs h
  | n + 1, .lst xs, h => by
    rw [small] at h
    rw [toD, PyData.hasDict]
    exact small_nodicts n xs h
  | 0, .tup _, h => by simp [small] at h
  | 0, .lst _, h => by simp [small] at h
  | n, .dic _, h => by cases n <;> simp [small] at h
  | n, .dki _ _, h => by cases n <;> simp [small] at h
  | n, .cup, h => by cases n <;> simp [small] at h
  | n, .scr _, h => by cases n <;> simp [small] at h
  | n, .rg _ _, h => by cases n <;> simp [small] at h
  | n, .fnv _, h => by cases n <;> simp [small] at h
theorem small_nodicts : ∀ (n : Nat) (xs : List PV), xs.all (small n) = true → PyData.hasDictAll (toDs xs) = false
  | n, [], _ => by simp [toDs, PyData.hasDictAll]
  | n, x :: xs, h => by
    rw [List.all_cons, Bool.and_eq_true] at h
    rw [toDs, PyData.hasDictAll, small_nodict n x h.1, small_nodicts n xs h.2]
    rfl
end
section
variable {X : Cx}
theorem b_reprD (hg : X.A.guards = some []) (hu : X.A.units + 70 < cLine) : CallR X (.builtin "repr") (rC (wd X) (bltop .reprD)) := by
  intro pins s σ H vs us Q I r h
  obtain ⟨g, c, ps, z, hr, cx, e, fin⟩ := h
  unfold bltop at e
  split at e <;> first | (cases e; done) | skip
  all_goals first | contradiction | skip
  · obtain ⟨v, rfl, cz⟩ := cx.one
    cases e
    rename_i b _
    rw [cz.bl] at r
    rw [Vals.bls (bs := [b]) r]
    refine PySem.P.repr_of_bool ⟨.str _, H, I.tok _, ⟨_, rfl⟩, ?_⟩
    cases b <;> exact fin.here hr (.str _)
  · obtain ⟨v, rfl, cz⟩ := cx.one
    cases e
    rw [cz.non] at r
    cases r with
    | cons r t =>
      cases t
      cases r
      exact PySem.P.repr_of_none ⟨.str _, H, I.tok _, ⟨_, rfl⟩, fin.here hr (.str _)⟩
  · rename_i xs _
    obtain ⟨v, rfl, cz⟩ := cx.one
    obtain ⟨t, et, rfl⟩ := Option.map_eq_some_iff.mp e
    unfold shwP at et
    split at et
    rotate_left
    · cases et
    rename_i hb
    cases et
    rw [Bool.and_eq_true, Bool.and_eq_true, decide_eq_true_eq] at hb
    obtain ⟨⟨h1, h2⟩, h3⟩ := hb
    have hd := cz.dp hr 60 h1
    obtain ⟨a, ws, rfl, ea, ra⟩ := cz.tup hr
    rw [Vals.ref1 r]
    obtain ⟨as, rd⟩ := Dp.reads I (toD (.tup xs)) _ _ hd (show RelV (V.ref a) (Value.ref a) from rfl)
    have hdep := (small_shape 60 _ h1).2
    exact repr_of_reads' rd h2 (PyData.noDict_hsm (small_nodict 60 _ h1)) hg (by omega) (fun _ _ e => e) (fun h' u tk hk => ⟨.str _, H, I.kept hk, ⟨_, rfl⟩, fin.here hr (.str _)⟩) h3
  · rename_i i _
    obtain ⟨v, rfl, cz⟩ := cx.one
    split at e
    rotate_left
    · cases e
    rename_i hb
    cases e
    rw [cz.int] at r
    cases r with
    | cons r t =>
      cases t
      obtain ⟨tk, rfl⟩ := r
      exact PySem.P.repr_of_int hb ⟨.str _, H, I.tok _, ⟨_, rfl⟩, fin.here hr (.str _)⟩
end
end PP

set_option Elab.async false
set_option linter.all false
set_option maxRecDepth 100000
set_option maxHeartbeats 2000000
/-! PP14a: what a def promises where it may be known that no repr is under way (gd): its call, its making, the law's own call. -/
namespace PP
open PySem PySem.Spec PyProof.Rows L2

structure FnG (gd : Bool) (P : Program) (w : World) (K : PySem.W.Frag) (mg : Str → Option Value) (base : Heap) (Z : CXT) (k : Nat) (f : Addr) (fd : FuncData) (ps : List Str) (sp : Sp) : Prop where
  many : ∀ {vs H Q E}, sp vs H Q E → vs.length = ps.length
  go : ∀ {A : Around} {out : List PySem.Env} {s : Shared} {H : Hp} {us : List Value} {vs : List V} {Q : VK} {E : XK}, Room k A → (gd = true → A.guards = some []) → Env0 P w K mg base A out s H →
    BindsTo s fd ⟨us, []⟩ (ps.zip us) → Vals vs us → sp vs H Q E → codeAny (model P w) A (.call (.ref f) ⟨us, []⟩) (CR Z out P w H s Q E) s
section
variable {gd : Bool} {X : Cx} {Z : CXT} {k : Nat} {f : Addr} {fd : FuncData} {ps : List Str} {sp : Sp} {E : L2.St → XK} {x : Str} {p pos : Pos} {e : Expr} {es : List Expr} {t : TA}
theorem go_g {us : List Value} {vs : List V} {pins : List (Addr × Obj)} {σ : L2.St} {H : Hp} {s : Shared} {Q : VK} (F : FnG gd X.prog X.w X.K X.mg X.base Z k f fd ps sp) (room : Room k X.A) (gu : gd = true → X.A.guards = some []) (bn : Binds X.K fd ps [])
    (px : PassesAt Z X σ (E σ)) (I : Inv X pins σ H s) (rv : Vals vs us) (want : sp vs H Q (E σ)) : wpAny (model X.prog X.w) X.A (call (.ref f) us) (EP X pins σ Q) X.xe s := by
  have ln : us.length = ps.length := rv.length ▸ F.many want
  have bd : BindsTo s fd ⟨us, []⟩ (ps.zip us) := by simpa using bn s us I.kIn (by simpa using ln)
  apply wpAny_call
  apply codeAny_mono (F.go room gu I.env0 bd rv want)
  rintro (x | (_ | _ | _ | u)) s2 q
  · exact px pins H s x s2 I q
  · exact q.elim
  · exact q.elim
  · exact q.elim
  · exact I.after q
theorem pe_callG (F : FnG gd X.prog X.w X.K X.mg X.base Z k f fd ps sp) (room : Room k X.A) (gu : gd = true → X.A.guards = some []) (gl : Gl X x) (hm : X.mg x = some (.ref f)) (keep : PySem.W.keepIn X.K (.ref f) = true) (bn : Binds X.K fd ps []) (px : ∀ σ, PassesAt Z X σ (E σ))
    (ha : PA X (e :: es) t) (hdb : (x == ("__debug__" : Str)) = false) (st : starEach (e :: es) X.env = (false, eval e X.env) :: starEach es X.env) (sa : (backTo pos (starEach es X.env)).any (·.1) = false) :
    L2.PE X (.Call (.Name x p) (e :: es) [] pos) (tCallS sp E t) := by
  constructor
  intro pins s σ H Q I want
  have args := ha.run pos pins s σ H _ I want
  apply wpAny_Call_Name_kw
  apply ld_glob I gl hm _ hdb
  apply PySem.W.callWith_K (h₀ := X.base) I.ok.mod.kin keep _ st sa
  apply thn args
  rintro us s1 ⟨vs, H1, I1, rv, q⟩
  exact ⟨I1.kIn, go_g F room gu bn (px σ) I1 rv q⟩
end
section
variable {gd : Bool} {Z : CXT} {P : Program} {w : World} {K : PySem.W.Frag} {mg : Str → Option Value} {base : Heap} {k : Nat} {f : Addr}
/-- a def that is made without defaults -/
theorem fn_g {name qual : Str} {params : Arguments} {body : List Stmt} {scope : Scope} {dV kV doc pm cdv ct oc : Value} {an od : Option Addr} {osl : Array (Option Value)} {N ps : List Str} {sp : Sp} (at_ : K.lookup f = some ⟨oc, od, .func (PySem.W.fnOf name qual params body scope dV kV doc pm an cdv ct), osl⟩)
    (cd : PySem.W.codeIn K cdv qual = true) (S : FnScope N ps scope) (many : ∀ {vs H Q E}, sp vs H Q E → vs.length = ps.length)
    (hbody : ∀ (A : Around) (out : List PySem.Env) (s : Shared) (H : Hp) (vs : List V) (Q : VK) (E : XK), Room k (A.deeper (envOfC qual scope s.heap.objs.size f cdv)) → (gd = true → (A.deeper (envOfC qual scope s.heap.objs.size f cdv)).guards = some []) → sp vs H Q E →
      ∃ t, PSs (cxOf Z P w K mg base N qual scope f cdv A out s H E) body t ∧ t { nx := fun _ H' => Q .non H', rt := Q } (L2.start N vs) H) :
    FnG gd P w K mg base Z (k + 1) f (PySem.W.fnOf name qual params body scope dV kV doc pm an cdv ct) ps sp := by
  refine ⟨many, ?_⟩
  intro A out s H us vs Q E room gu e0 bd rv want
  have old : ∀ b o, base.get? b = some o → s.heap.get? b = some o := fun b o z => (e0.bs b o z).1
  have kin := e0.mod.kin.keeps old
  have nol := e0.mod.nolimit.keeps old
  have kinds : ∀ y ∈ ps.zip us, scope.names.lookup y.1 = some .local ∨ (scope.names.lookup y.1 = some .cell ∧ ((cellsFrom (s.heap.objs.size + 1) scope.names []).lookup y.1).isSome = true) := by
    rintro ⟨n, v⟩ hy
    exact (S.par n (List.of_mem_zip hy).1).imp id fun q => ⟨q, PySem.W.cellsFrom_some _ _ _ (.inl q)⟩
  apply codeAny_call_function room.depth (kin _ _ at_) rfl S.co S.gen rfl (PySem.W.codeRec_of kin cd)
  apply bd
  apply wpAny_newFunctionEnv_cells S.kind kinds
  rintro env rfl s1 x
  constructor
  · exact nol.keeps x.toInCall.keep
  apply codeAny_func
  obtain ⟨t, run, q0⟩ := hbody A out s H vs Q E (room.deeper _) (fun z => gu z) want
  have J0 : Inv (cxOf Z P w K mg base N qual scope f cdv A out s H E) [] (L2.start N vs) H s1 := inv_start S room.hd e0 (many want) rv x
  refine wpAny_mono (run.run [] s1 (L2.start N vs) H _ J0 q0) ?_ (fun _ _ z => z)
  rintro (_ | _ | _ | u) s2 q
  · obtain ⟨σ2, H2, J, q2⟩ := q
    exact ⟨.non, H2, J.os, J.bare, J.base, J.hok, rfl, q2⟩
  · obtain ⟨_, _, _, z⟩ := q
    exact z.elim
  · obtain ⟨_, _, _, z⟩ := q
    exact z.elim
  · obtain ⟨v, σ2, H2, J, rv2, q2⟩ := q
    exact ⟨v, H2, J.os, J.bare, J.base, J.hok, rv2, q2⟩
end
end PP

set_option Elab.async false
set_option linter.all false
set_option maxRecDepth 100000
set_option maxHeartbeats 2000000
/-! PP14b: the law's own call, by such a promise. -/
namespace PP
open PySem PySem.Spec PyProof.Rows L2

/-- what is tracked as the law is called: the tables of the code objects, and the script where the head knows nothing of it -/
def atCall (K : PySem.W.Frag) (ts : List Addr) (a : Addr) (o : Obj) (xs : List V) : Hp := fun b => if b ∈ ts then some (.tbl #[]) else if b = a ∧ (K.lookup a).isNone = true then some (.frz o (.lst xs)) else none
theorem atCall_some {K : PySem.W.Frag} {ts : List Addr} {a b : Addr} {o : Obj} {xs : List V} {u : HO} (h : atCall K ts a o xs b = some u) : (b ∈ ts ∧ u = .tbl #[]) ∨ (b = a ∧ K.lookup a = none ∧ u = .frz o (.lst xs)) := by
  unfold atCall at h
  split at h
  · exact .inl ⟨‹_›, (Option.some.inj h).symm⟩
  · split at h
    · rename_i z
      exact .inr ⟨z.1, by simpa using z.2, (Option.some.inj h).symm⟩
    · cases h
abbrev tabO : Obj := { cls := .none, data := .fields #[] }
abbrev scrO (vs : List Value) : Obj := { cls := .type "list", data := .seq vs.toArray }
theorem law_g {gd : Bool} {P : Program} {w : World} {K : PySem.W.Frag} {mg mb : Str → Option Value} {Z : CXT} {k : Nat} {fa a : Addr} {cs : List (Addr × Addr)} {fd : FuncData} {x : Str} {sp : Sp} {s : Shared} {vs : List Value} {ns : List Int}
    (kin : K.In s.heap) (main : s.heap.Ns mainGlobals mg) (blt : s.heap.Ns builtinsNs mb) (bltB : ∀ y : Str, y ≠ "__name__" → mb y = bootBuiltins y) (lim : s.heap.NoLimit) (gens : s.gens = #[])
    (tab : ∀ q ∈ cs, s.heap.get? q.2 = some tabO) (new : ∀ q ∈ cs, K.lookup q.2 = none) (code : ∀ q ∈ cs, PySem.W.CodeHd s.heap q.1 q.2)
    (bmod : ∃ (bm : Addr) (ob : Obj), mg "__builtins__" = some (.ref bm) ∧ bm ≠ builtinsNs ∧ s.heap.get? bm = some ob ∧ ob.cls = .type "module" ∧ ob.dict = some builtinsNs ∧ ob.data = .plain)
    (ha : s.heap.get? a = some (scrO vs)) (inz : IntsAre vs ns) (small : ns.length ≤ sizeLine) (room : Room k callerA)
    (F : ∀ base : Heap, K.In base → base.Ns mainGlobals mg → (∀ q ∈ cs, LamX.TabB base mg q.1 q.2) → FnG gd P w K mg base Z k fa fd [x] sp) (bind : ∀ (s : Shared) (u : Value), BindsTo s fd ⟨[u], []⟩ [(x, u)])
    (want : ∀ H : Hp, (∀ q ∈ cs, H q.2 = some (.tbl #[])) → SqL K H a (ns.map V.int) → sp [.ref a] H (fun v _ => v = .bl true) fun _ _ _ => False) (noexc : ∀ H e s', Z [] H s (fun _ _ _ => False) e s' → False) :
    codeAny (model P w) callerA (.call (.ref fa) ⟨[.ref a], []⟩) (fun r s' => r = .ok (.ret (.bool true)) ∧ OldK s.heap s'.heap ∧ s'.os = s.os ∧ AllBare s'.gens) s := by
  have rv := vals_ints inz
  have tT : ∀ b ∈ cs.map (·.2), s.heap.get? b = some tabO := by
    intro b m
    obtain ⟨q, hq, rfl⟩ := List.mem_map.mp m
    exact tab q hq
  have tM : ∀ q ∈ cs, q.2 ∈ cs.map (·.2) := fun q hq => List.mem_map.mpr ⟨q, hq, rfl⟩
  have aT : a ∉ cs.map (·.2) := fun m => by
    have e := (tT a m).symm.trans ha
    have e2 := congrArg Obj.data (Option.some.inj e)
    cases e2
  generalize hH0 : atCall K (cs.map (·.2)) a (scrO vs) (ns.map V.int) = H
  have look : ∀ {b u}, H b = some u → (b ∈ cs.map (·.2) ∧ u = .tbl #[]) ∨ (b = a ∧ K.lookup a = none ∧ u = .frz (scrO vs) (.lst (ns.map V.int))) := fun {b u} z => atCall_some (by rw [hH0]; exact z)
  have free : ∀ {b ob}, s.heap.get? b = some ob → ob ≠ tabO → ob ≠ scrO vs → H b = none := fun {b ob} e h1 h2 => by
    cases q : H b with
    | none => rfl
    | some u =>
      rcases look q with ⟨m, _⟩ | ⟨rfl, _, _⟩
      · exact (h1 (Option.some.inj (e.symm.trans (tT b m)))).elim
      · exact (h2 (Option.some.inj (e.symm.trans ha))).elim
  have stay : ∀ {b ob}, s.heap.get? b = some ob → ob ≠ tabO → ob ≠ scrO vs → (hidT s.heap H).get? b = some ob := fun e h1 h2 => hidT_get e (free e h1 h2)
  have nsS : ∀ {b : Addr} {m : Str → Option Value}, s.heap.Ns b m → (hidT s.heap H).Ns b m := fun {b m} z => by
    obtain ⟨ob, es, ep, e, d, r⟩ := z
    refine ⟨ob, es, ep, stay e ?_ ?_, d, r⟩
    · rintro rfl
      cases d
    · rintro rfl
      cases d
  have kinB : K.In (hidT s.heap H) := fun b ob e => hidT_get (kin b ob e) (by
    cases q : H b with
    | none => rfl
    | some u =>
      rcases look q with ⟨m, _⟩ | ⟨rfl, z, _⟩
      · obtain ⟨qq, hqq, rfl⟩ := List.mem_map.mp m
        rw [new qq hqq] at e
        cases e
      · rw [z] at e
        cases e)
  have M : L2.Mod K mg (hidT s.heap H) := by
    obtain ⟨mc, l1, l2⟩ := lim
    exact ⟨kinB, nsS main, ⟨mb, nsS blt, bltB⟩, mc, nsS l1, l2⟩
  have gN : ∀ q ∈ cs, mainGlobals ≠ q.2 := fun q hq z => by
    obtain ⟨ob, es, ep, e, d, _⟩ := main
    rw [z, tab q hq] at e
    cases e
    cases d
  have TB : ∀ q ∈ cs, LamX.TabB (hidT s.heap H) mg q.1 q.2 := fun q hq => by
    refine ⟨?_, ?_, gN q hq⟩
    · obtain ⟨ob, us, fl, tf, fg, tg, inF, tx, tt, e, r1, r2⟩ := code q hq
      refine ⟨ob, us, fl, tf, fg, tg, inF, tx, tt, stay e ?_ ?_, r1, r2⟩
      · rintro rfl
        cases r1
      · rintro rfl
        injection r1 with r
        exact absurd r (by decide)
    · obtain ⟨bm, ob, b1, b2, b3, b4, b5, b6⟩ := bmod
      refine ⟨bm, ob, b1, b2, ?_, ?_, stay b3 ?_ ?_, b4, b5, b6⟩
      · rintro rfl
        obtain ⟨og, es, ep, e, d, _⟩ := main
        rw [b3] at e
        cases e
        rw [b6] at d
        cases d
      · rintro rfl
        rw [tab q hq] at b3
        cases b3
        cases b6
      · rintro rfl
        cases b6
      · rintro rfl
        cases b6
  have hok : HOk P w H s.heap := fun b u z => by
    rcases look z with ⟨m, rfl⟩ | ⟨rfl, _, rfl⟩
    · exact tT b m
    · exact ⟨ha, by rw [List.length_map]; exact small, vs, _, rv, ha⟩
  have onT : ∀ q ∈ cs, H q.2 = some (.tbl #[]) := fun q hq => by
    rw [← hH0]
    exact if_pos (tM q hq)
  have onS : SqL K H a (ns.map V.int) := by
    cases hk : K.lookup a with
    | none =>
      refine .inl (.inr ⟨scrO vs, ?_⟩)
      rw [← hH0]
      unfold atCall
      rw [if_neg aT, if_pos ⟨rfl, by rw [hk]; rfl⟩]
    | some ob =>
      have e := kin a ob hk
      rw [ha] at e
      cases e
      exact .inr ⟨_, vs.toArray, _, hk, rfl, rfl, rfl, by rw [List.size_toArray, inz.length]; exact small, by simpa using rv⟩
  have e0 : Env0 P w K mg (hidT s.heap H) callerA [] s H := ⟨rfl, M, fun b ob e => of_hidT e, Nat.le_of_eq (hidT_size _ _), trivial, fun b hb => absurd (show b ∈ ([] : List Addr) from hb) (by simp), hok, .of_eq gens⟩
  have done := (F _ kinB (nsS main) TB).go room (fun _ => rfl) e0 (us := [.ref a]) (vs := [.ref a]) (bind s (.ref a)) (.cons (show RelV (V.ref a) (Value.ref a) from rfl) .nil) (want H onT onS)
  refine codeAny_mono done ?_
  rintro (e | (_ | _ | _ | u)) s' q
  · exact (noexc H e s' q).elim
  · exact q.elim
  · exact q.elim
  · exact q.elim
  obtain ⟨v, H', os, bare, un, hok', r', q'⟩ := q
  obtain rfl : v = .bl true := q'
  obtain rfl : u = Value.bool true := r'
  have more : ∀ q ∈ cs, ∃ m : Array Value, s'.heap.get? q.2 = some { cls := .none, data := .fields m } := fun q hq => by
    obtain ⟨m, z⟩ := un.tbls q.2 #[] (onT q hq)
    exact ⟨_, hok' q.2 _ z⟩
  have same : ∀ b ob, b ∉ cs.map (·.2) → s.heap.get? b = some ob → s'.heap.get? b = some ob := fun b ob nb e => by
    cases hb : H b with
    | none => exact un.keep b ob e hb (fun z => absurd (show b ∈ ([] : List Addr) from z) (by simp)) (by simp)
    | some u =>
      rcases look hb with ⟨m, _⟩ | ⟨rfl, _, rfl⟩
      · exact (nb m).elim
      · have z := (hok' b _ (un.frzs b _ _ hb)).1
        rw [ha] at e
        cases e
        exact z
  refine ⟨rfl, ⟨fun b ob e => ?_, fun b ob e => ?_⟩, os, bare⟩
  · by_cases m : b ∈ cs.map (·.2)
    · obtain ⟨q, hq, rfl⟩ := List.mem_map.mp m
      obtain ⟨ps, hps⟩ := more q hq
      rw [tab q hq] at e
      cases e
      exact .inr (.inl ⟨((code q hq).tab (tab q hq)).isCodeTable, rfl, #[], ps, rfl, by rw [Array.empty_append]; exact hps⟩)
    · exact .inl (same b ob m e)
  · by_cases m : b ∈ cs.map (·.2)
    · obtain ⟨q, hq, rfl⟩ := List.mem_map.mp m
      obtain ⟨ps, hps⟩ := more q hq
      exact ⟨_, hps⟩
    · exact ⟨ob, same b ob m e⟩
/-- what is known of the law at the head's end -/
def LawG (gd : Bool) (l : PySem.W.OpenLaw) (w : World) (K : PySem.W.Frag) (Z : CXT) (k n : Nat) (x : Str) (mg : Str → Option Value) (fa : Addr) (h : Heap) : Prop :=
  ∃ (fd : FuncData) (cs : List (Addr × Addr)) (sp : Sp), ((∀ q ∈ cs, h.get? q.2 = some tabO) ∧ (∀ q ∈ cs, K.lookup q.2 = none) ∧ ∀ q ∈ cs, PySem.W.CodeHd h q.1 q.2) ∧ (∀ (s : Shared) (u : Value), BindsTo s fd ⟨[u], []⟩ [(x, u)]) ∧
    (∀ (H : Hp) (a : Addr) (ns : List Int), ns.length ≤ n → (∀ z ∈ ns, Builtin.Int.intBits z ≤ 1048576) → (∀ q ∈ cs, H q.2 = some (.tbl #[])) → SqL K H a (ns.map V.int) → sp [.ref a] H (fun v _ => v = .bl true) fun _ _ _ => False) ∧
    ∀ base : Heap, K.In base → base.Ns mainGlobals mg → (∀ q ∈ cs, LamX.TabB base mg q.1 q.2) → FnG gd l.prog w K mg base Z k fa fd [x] sp
theorem walk_g {gd : Bool} {l : PySem.W.OpenLaw} {n k : Nat} {pr : Program} {loose : List Str} {XP : (Str → Option Value) → Heap → Prop} {YP : World → Heap → Prop} {d : DefRec} {Z : World → CXT} {x : Str} (most : l.most = some n) (few : n ≤ sizeLine) (nodef : d.params.defaults = []) (room : Room k callerA)
    (F : ∀ (w : World) (mg : Str → Option Value) (fa : Addr) (h : Heap), YP w h → h.Ns mainGlobals mg → mg d.name = some (.ref fa) → ∃ K : PySem.W.Frag, K.In h ∧ LawG gd l w K (Z w) k n x mg fa h) (noexc : ∀ (w : World) (H : Hp) (s : Shared) (e : Value) (s' : Shared), Z w [] H s (fun _ _ _ => False) e s' → False) :
    PySem.W.WalkO pr loose XP YP l.row.toRowW d [] (fun f vs => PySem.call f vs) := by
  apply Att.attach_callB most nodef
  intro w s₀ s mg mb fa o pm cd doc a vs ns G Y ho hd hcd hmg hobj hints hlen hbits hg
  obtain ⟨K, kin, fd, cs, sp, ⟨tab, new, code⟩, bind, want, all⟩ := F w mg fa _ Y G.T.g hmg
  exact law_g kin G.T.g G.T.b G.T.builtins G.T.nolimit hg tab new code G.T.bmain hobj hints (Nat.le_trans hlen few) room all bind (fun H onT onS => want H a ns hlen hbits onT onS) fun H e s' => noexc w H s e s'
end PP

set_option Elab.async false
set_option linter.all false
set_option maxRecDepth 100000
/-! PP14: calls of defs; the static context; bodies. -/
namespace PP
open PySem PySem.Spec PyProof.Rows L2

/-- a def that may be called by its name -/
structure Cal (gd : Bool) (P : Program) (w : World) (K : PySem.W.Frag) (mg : Str → Option Value) (base : Heap) (k : Nat) (x : Str) (sp : Sp) : Prop where
  ex : ∃ (f : Addr) (fd : FuncData) (ps : List Str), FnG gd P w K mg base (L2.CX P w) k f fd ps sp ∧ mg x = some (.ref f) ∧ PySem.W.keepIn K (.ref f) = true ∧ Binds K fd ps []
def GoodC (T : Wd) (mg : Str → Option Value) (g : Gh) (H : Hp) (Q : VK) (E : XK) : R PV → Prop
  | .ok a c' => ∀ g' H' v, Pres g H g' H' → HR T g' c' H' → Rp T g' v a → Q v H'
  | .exc cl arg c' => ∀ g' H', Pres g H g' H' → HR T g' c' H' → ∀ cls d, ExcR T mg g' H' cl arg cls d → E cls d H'
  | .stuck => False
/-- what a def promises -/
def spK (T : Wd) (mg : Str → Option Value) (m : List PV → List PV → R PV) (n : Nat) : Sp := fun vs H Q E => vs.length = n ∧ ∃ g c ps, HR T g c H ∧ RpL T g vs ps ∧ GoodC T mg g H Q E (m ps c)
theorem callK_ln {FN : Type} {P : FN → FnP FN} {k : Nat} {f : FN} {xs c : List PV} (h : callK P k f xs c ≠ .stuck) : xs.length = (P f).np := by
  cases k with
  | zero => exact absurd rfl h
  | succ k =>
    rw [callK] at h
    split at h
    · assumption
    · exact absurd rfl h
theorem callK_len {FN : Type} {P : FN → FnP FN} {k : Nat} {f : FN} {xs c : List PV} {a : PV} {c' : List PV} (h : callK P k f xs c = .ok a c') : xs.length = (P f).np := by
  cases k with
  | zero => cases h
  | succ k =>
    rw [callK] at h
    split at h
    · assumption
    · cases h
section
variable {FN : Type} {P : FN → FnP FN} {X : Cx} {W : WX} {e : Expr} {es : List Expr} {ex : Env → List PV → R (List PV)} {pos p : Pos} {x : Str} {f : FN} {k : Nat} {gd : Bool}
theorem goodC_of {W : WX} {T : Wd} {mg : MG} {g : Gh} {H : Hp} {σ : L2.St} {Q : VK} {xs c : List PV} (h : GoodR T mg W g H σ (fun p g' _ H' => ∀ v, Rp T g' v p → Q v H') (callK P k f xs c)) : xs.length = (P f).np ∧ GoodC T mg g H Q (WE W σ) (callK P k f xs c) := by
  cases hx : callK P k f xs c with
  | ok a c' => rw [hx] at h; exact ⟨callK_len hx, fun g' H' v p q r => h g' H' p q v r⟩
  | exc cl a c' => rw [hx] at h; exact ⟨callK_ln (by rw [hx]; exact fun z => nomatch z), h⟩
  | stuck => rw [hx] at h; exact h.elim
theorem x_call (F : Cal gd X.prog X.w X.K X.mg X.base (3 * k) x (spK (wd X) X.mg (callK P k f) (P f).np)) (hr : Room (3 * k) X.A) (gu : gd = true → X.A.guards = some []) (tk : Takes X W) (hg : Gl X x) (hdb : (x == ("__debug__" : Str)) = false) (ha : XA X W (e :: es) ex) (hs : (e :: es).all notStar = true) :
    XE' X W (.Call (.Name x p) (e :: es) [] pos) (fun env c => (ex env c).bind fun xs c => callK P k f xs c) := by
  obtain ⟨fa, fd, ps, F, hm, hk, hb⟩ := F.ex
  have hs' := hs
  rw [List.all_cons, Bool.and_eq_true] at hs'
  refine pe_weak (pe_callG (E := WE W) F hr gu hg hm hk hb (fun σ => passAt tk σ) ha hdb (star_cons hs'.1) (star_any hs'.2)) fun σ H Q h => ?_
  refine (tR.one (f := fun xs c => callK P k f xs c) h).mono fun xs g1 c1 H1 ⟨h1, _, k1⟩ vs rv => ?_
  obtain ⟨hl, gc⟩ := goodC_of k1
  exact ⟨by rw [rv.length]; exact hl, g1, c1, xs, h1, rv, gc⟩
theorem x_call0 (F : Cal gd X.prog X.w X.K X.mg X.base (3 * k) x (spK (wd X) X.mg (callK P k f) (P f).np)) (hr : Room (3 * k) X.A) (gu : gd = true → X.A.guards = some []) (tk : Takes X W) (hg : Gl X x) (hdb : (x == ("__debug__" : Str)) = false) :
    XE' X W (.Call (.Name x p) [] [] pos) (fun env c => callK P k f [] c) := by
  obtain ⟨fa, fd, ps, F, hm, hk, hb⟩ := F.ex
  refine ⟨fun pins s σ H Q I h => ?_⟩
  obtain ⟨g, env, c, B, er, hr1, gd⟩ := h
  obtain ⟨hl, gc⟩ := goodC_of gd
  refine wpAny_Call_Name_kw (ld_glob I hg hm ?_ hdb)
  exact PySem.W.callWith_K0 I.kIn hk (go_g (us := []) (vs := []) (E := WE W) F hr gu hb (passAt tk σ) I .nil ⟨hl, g, c, [], hr1, .nil, gc⟩)
end
theorem lookF_mem {FN : Type} : ∀ {fs : List (Str × FN)} {x : Str} {f : FN}, lookF fs x = some f → (x, f) ∈ fs
  | [], _, _, h => by cases h
  | (y, g) :: r, x, f, h => by
    rw [lookF] at h
    split at h
    · rename_i e
      cases h
      rw [e]
      exact List.mem_cons_self
    · exact List.mem_cons_of_mem _ (lookF_mem h)
section
variable {FN : Type} {P : FN → FnP FN} {X : Cx} {W : WX} {e : Expr} {es : List Expr} {ex : Env → List PV → R (List PV)} {pos p : Pos} {x : Str} {k : Nat} {gd : Bool}
/-- a call of a def that a local name holds -/
theorem x_callv {fs : List (Str × FN)} {i : Nat} (F : ∀ q ∈ fs, Cal gd X.prog X.w X.K X.mg X.base (3 * k) q.1 (spK (wd X) X.mg (callK P k q.2) (P q.2).np)) (hr : Room (3 * k) X.A) (gu : gd = true → X.A.guards = some []) (tk : Takes X W) (hv : L2.PE X (.Name x p) (tVar i)) (ha : XA X W (e :: es) ex) (hs : (e :: es).all notStar = true) :
    XE' X W (.Call (.Name x p) (e :: es) [] pos) (fun env c => match (varv env i).bind (fnOf fs) with
      | some f => (ex env c).bind fun xs c => callK P k f xs c
      | none => .stuck) := by
  have hs' := hs
  rw [List.all_cons, Bool.and_eq_true] at hs'
  refine ⟨fun pins s σ H Q I h => ?_⟩
  obtain ⟨g, env, c, B, er, hr1, gd'⟩ := h
  cases hq : (varv env i).bind (fnOf fs) with
  | none =>
    simp only [hq] at gd'
    exact gd'.elim
  | some f =>
    simp only [hq] at gd'
    obtain ⟨v, e1, e2⟩ := Option.bind_eq_some_iff.mp hq
    have hv' : ∃ y, v = .fnv y := by
      cases v with
      | fnv y => exact ⟨y, rfl⟩
      | _ => simp [fnOf] at e2
    obtain ⟨y, rfl⟩ := hv'
    have hmem : (y, f) ∈ fs := lookF_mem (show lookF fs y = some f from e2)
    unfold varv at e1
    split at e1 <;> cases e1
    rename_i hsl
    obtain ⟨w, h1, h2⟩ := er.at_ i _ hsl
    obtain ⟨fa, fd, ps, FF, hm, hk, hb⟩ := (F _ hmem).ex
    have hw : w = .ref fa := by
      cases h2 with
      | fnv hmg =>
        have z := hmg.symm.trans hm
        cases z
        rfl
    subst hw
    refine wpAny_Call_Name_kw (thn (hv.run pins s σ H (fun v H1 => v = .ref fa ∧ H1 = H) I ⟨.ref fa, h1, rfl, rfl⟩) fun u s1 ⟨v, H1, I1, r1, q1⟩ => ?_)
    obtain ⟨rfl, rfl⟩ := q1
    cases r1
    have h' : tR (wd X) X.mg W (fun env c => (ex env c).bind fun xs c => callK P k f xs c) (fun p g' _ H' => ∀ v, Rp (wd X) g' v p → Q v H') σ _ := ⟨g, env, c, B, er, hr1, gd'⟩
    refine PySem.W.callWith_K (h₀ := X.base) I.ok.mod.kin hk (thn (ha.run pos pins s1 σ _ (fun vs H2 => spK (wd X) X.mg (callK P k f) (P f).np vs H2 Q (WE W σ)) I1 ((tR.one (f := fun xs c => callK P k f xs c) h').mono fun xs g1 c1 H1 ⟨h1, _, k1⟩ vs rv => ?_)) fun us s2 ⟨vs, H2, I2, r, q⟩ => ⟨I2.kIn, ?_⟩) (star_cons hs'.1) (star_any hs'.2)
    · obtain ⟨hl, gc⟩ := goodC_of k1
      exact ⟨by rw [rv.length]; exact hl, g1, c1, xs, h1, rv, gc⟩
    · exact go_g FF hr gu hb (passAt tk σ) I2 r q
end
/-- a def's promise from its body -/
theorem fn_pure {FN : Type} {P : FN → FnP FN} {prog : Program} {w : World} {K : PySem.W.Frag} {mg : MG} {base : Heap} {x qual : Str} {params : Arguments} {body : List Stmt} {scope : Scope} {fa : Addr} {fd : FuncData} {N ps : List Str} {k : Nat} {f : FN} {gd : Bool} (F : FunD K x qual params body scope [] [] fa fd) (S : FnScope N ps scope)
    (hnp : ps.length = (P f).np) (hnl : N.length = (P f).nl)
    (hbody : ∀ (cdv oc : Value) (od : Option Addr) (osl : Array (Option Value)) (A : Around) (outer : List PySem.Env) (s : Shared) (H : Hp) (E : XK), K.lookup fa = some ⟨oc, od, .func fd, osl⟩ → fd.code = cdv → fd.qualname = qual → Room (3 * k + 2) (A.deeper (envOfC qual scope s.heap.objs.size fa cdv)) → (gd = true → (A.deeper (envOfC qual scope s.heap.objs.size fa cdv)).guards = some []) →
      XSs (cxOf (L2.CX prog w) prog w K mg base N qual scope fa cdv A outer s H E) (fun cls d _ H' => E cls d H') body (fun env c => execSs (callK P k) (P f).body env c)) :
    FnG gd prog w K mg base (L2.CX prog w) (3 * (k + 1)) fa fd ps (spK ⟨prog, w, K, mg⟩ mg (callK P (k + 1) f) (P f).np) := by
  obtain ⟨oc, od, dV, kV, doc, pm, an, cdv, ct, osl, rfl, lk, hcd, _, _⟩ := F.ex
  refine fn_g (k := 3 * k + 2) lk hcd S (fun {vs H Q E} h => by rw [h.1, hnp]) fun A outer s H vs Q E hr gu h => ?_
  refine ⟨_, hbody cdv oc od osl A outer s H E lk rfl rfl hr gu, ?_⟩
  obtain ⟨hl, g, c, qs, h1, rv, gc⟩ := h
  rw [callK] at gc
  have hql : qs.length = (P f).np := by rw [← rv.length]; exact hl
  rw [if_pos hql] at gc
  have hle : ps.length ≤ N.length := by have := congrArg List.length S.pre; rw [List.length_take] at this; omega
  refine ⟨g, H, g, startP (P f).np (P f).nl qs, c, ?_, h1, Pres.refl, ?_⟩
  · unfold startP L2.start
    refine ⟨?_, fun i s hs => ?_, fun i j p q a hi _ _ _ => ?_⟩
    · simp only [List.length_append, List.length_map, List.length_replicate]
      omega
    · rw [List.getElem?_append] at hs
      split at hs
      · rename_i hlt
        rw [List.getElem?_map] at hs
        obtain ⟨p, hp, rfl⟩ := Option.map_eq_some_iff.mp hs
        obtain ⟨v, hv, rp⟩ := rv.get hp
        have hlt2 : i < vs.length := (List.getElem?_eq_some_iff.mp hv).1
        exact ⟨v, by rw [List.getElem?_append_left (by simpa using hlt2), List.getElem?_map, hv]; rfl, rp⟩
      · have q := List.mem_of_getElem? hs
        have q2 := List.eq_of_mem_replicate q
        subst q2
        trivial
    · rw [List.getElem?_append] at hi
      split at hi
      · rw [List.getElem?_map] at hi
        obtain ⟨p, hp, e⟩ := Option.map_eq_some_iff.mp hi
        cases e
      · have q2 := List.eq_of_mem_replicate (List.mem_of_getElem? hi)
        cases q2
  · show GoodS ⟨prog, w, K, mg⟩ mg (fun cls d _ H' => E cls d H') g H g _ (execSs (callK P k) (P f).body (startP (P f).np (P f).nl qs) c)
    cases hx : execSs (callK P k) (P f).body (startP (P f).np (P f).nl qs) c with
    | nx env' c' => rw [hx] at gc; exact fun g' H' σ' _ a b _ => gc g' H' .non b a .non
    | rt v c' => rw [hx] at gc; exact fun g' H' x a b _ r => gc g' H' x b a r
    | exc cl a env' c' => rw [hx] at gc; exact fun g' H' σ' _ a b _ cls d k => gc g' H' b a cls d k
    | stuck => rw [hx] at gc; exact gc.elim

/-! ### the static context -/
structure SC (FN : Type) where
  N : List Str
  names : List (Str × NameKind)
  fnc : Str → Bool
  fn : Str → Option FN
  blt : Str → Bool
  con : Str → Option PV
  told : Str → Option (List (Str × Option Str) × Str)
  exc : Str → Bool
  oex : Str → Bool
  lam : Bool
  dct : Str → Option (List (Str × PV))
  top : Bool
  grd : Bool
/-- a class of exceptions of the program's own, that is made with a text -/
structure ExcOk (X : Cx) (x : Str) : Prop where
  ex : ∃ (C : Addr) (bmB : List Value) (B newId initId : String), ExcBaseFacts B newId initId bmB ∧ PySem.W.excIn X.K C bmB newId = true ∧ X.mg x = some (.ref C) ∧ PySem.W.keepIn X.K (.ref C) = true ∧ Raises X (.ref C) ∧ ∀ y D, y ∈ excNames → X.mg y = some (.ref D) → PySem.W.exmOne X.K (.ref C) (.ref D) = some (subX x y)
/-- a class of exceptions of the program's own, whose __init__ keeps a number -/
structure OexOk (X : Cx) (x : Str) : Prop where
  ex : OexF X.prog X.w X.K X.mg X.base x
/-- the lambdas of this def -/
structure LamOk (X : Cx) : Prop where
  ex : ∃ c P, X.env.code = .ref c ∧ LamX.TabB X.base X.mg c P ∧ (P, X.env.qual ++ "<lambda>") ∈ tsOf X.K ∧ ∀ p ∈ tsOf X.K, p.1 = P → p.2 = X.env.qual ++ "<lambda>"
/-- a def that calls what it gets, and tells what was raised -/
structure ToldOk (X : Cx) (x : Str) (hs : List (Str × Option Str)) (v : Str) : Prop where
  ex : ∃ (g : Addr) (a : Str) (pg : Arguments) (bg : List Stmt) (sg : Scope) (dV kV doc pm cdv ct oc : Value) (an od : Option Addr) (osl : Array (Option Value)) (Ng : List Str),
    X.mg x = some (.ref g) ∧ PySem.W.keepIn X.K (.ref g) = true ∧ X.K.lookup g = some ⟨oc, od, .func (PySem.W.fnOf x x pg bg sg dV kV doc pm an cdv ct), osl⟩ ∧ PySem.W.codeIn X.K cdv x = true ∧
    L2.Binds X.K (PySem.W.fnOf x x pg bg sg dV kV doc pm an cdv ct) [a] [] ∧ FnScope Ng [a] sg ∧ toldB hs v a Ng sg bg = true
structure SX {FN : Type} (P : FN → FnP FN) (k : Nat) (S : SC FN) (X : Cx) (W : WX) : Prop where
  N : X.N = S.N
  sc : X.env.scope.names = S.names
  kind : X.env.scope.kind = .function
  fnc : ∀ x, S.fnc x = true → X.fn x = true
  nd : X.N.Nodup
  calm : X.calm = true
  room : Room (3 * k) X.A
  tk : Takes X W
  own : PassesOwn (model X.prog X.w) X.A X.env X.xe
  fns : ∀ x f, S.fn x = some f → Cal S.grd X.prog X.w X.K X.mg X.base (3 * k) x (spK (wd X) X.mg (callK P k f) (P f).np)
  blt : ∀ x, S.blt x = true → X.mg x = none
  con : ∀ x p, S.con x = some p → ∃ u v, X.mg x = some u ∧ RelV v u ∧ ∀ g, Rp (wd X) g v p
  exc : ∀ x, S.exc x = true → ExcOk X x
  oex : ∀ x, S.oex x = true → OexOk X x ∧ Room (3 * k + 2) X.A
  told : ∀ x hs v, S.told x = some (hs, v) → ToldOk X x hs v ∧ ∀ q ∈ hs, q.1 ∈ excNames ∧ (∃ D, X.mg q.1 = some (.ref D)) ∧ (limQ q.2 = true → X.mg "str" = none)
  lam : S.lam = true → LamOk X ∧ Room (3 * k + 2) X.A ∧ S.grd = false
  grd : S.grd = true → X.A.guards = some []
  dct : ∀ x kvs, S.dct x = some kvs → DctAt X x kvs
  fr : S.top = true → X.stack = X.env :: X.outer ∧ X.env.frame = some X.env.locals
def SC.blk {FN : Type} (S : SC FN) (scope : Scope) : SC FN := { S with names := scope.names.map fun (n, k) => if (k == NameKind.free && S.names.lookup n == some .cell) then (n, NameKind.cell) else (n, k), top := false, fnc := fun x => scope.names.lookup x == some .cell }
section
variable {FN : Type} {P : FN → FnP FN} {k : Nat} {S : SC FN} {X : Cx} {W : WX} {x : Str} {i : Nat}
theorem SX.blk (h : SX P k S X W) {scope : Scope} (hk : scope.kind = .function) (s : Shared) (H : Hp) (C : Addr) (cl : List (Str × Addr)) (fp : List Addr) : SX P k (S.blk scope) (X.blk s H scope (compEnvC scope cl C X.env) fp) WF where
  N := h.N
  sc := by
    show (relabel scope X.env).names = _
    unfold relabel SC.blk
    simp only
    apply List.map_congr_left
    intro y _
    obtain ⟨n, kd⟩ := y
    have e1 : X.env.kindOf n = S.names.lookup n := by unfold Env.kindOf; rw [h.sc]
    simp only [h.kind, e1]
    cases hc : (kd == NameKind.free) <;> simp
  kind := hk
  fnc := fun x hx => hx
  nd := h.nd
  calm := h.calm
  room := h.room
  tk := LamX.takes0
  own := PassesOwn.never
  fns := h.fns
  blt := h.blt
  con := h.con
  exc := fun x hx => let ⟨C, bmB, B, n, i, a, b, c, d, r⟩ := (h.exc x hx).ex; ⟨C, bmB, B, n, i, a, b, c, d, r⟩
  oex := fun x hx => ⟨⟨(h.oex x hx).1.ex⟩, (h.oex x hx).2⟩
  told := fun x hs v hx => ⟨⟨(h.told x hs v hx).1.ex⟩, (h.told x hs v hx).2⟩
  lam := fun hl => ⟨⟨(h.lam hl).1.ex⟩, (h.lam hl).2⟩
  fr := fun z => nomatch z
  grd := h.grd
  dct := fun x kvs hx => ⟨(h.dct x kvs hx).ex⟩
def nameOk (x : Str) : Bool := !(x == ("__debug__" : Str)) && !(x == ("__classdict__" : Str)) && !decide (x = "__name__")
def SC.loc {FN : Type} (S : SC FN) (i : Nat) (x : Str) : Bool := decide (S.N[i]? = some x) && (decide (S.names.lookup x = some .local) || decide (S.names.lookup x = some .cell) || decide (S.names.lookup x = some .free)) && nameOk x
def SC.gl {FN : Type} (S : SC FN) (x : Str) : Bool := decide (S.names.lookup x = some .globalImplicit) && nameOk x
def SC.bo {FN : Type} (S : SC FN) (x : Str) : Bool := S.gl x && S.blt x
/-- a name that may be stored to -/
def SC.sto {FN : Type} (S : SC FN) (i : Nat) (x : Str) : Bool := decide (S.N[i]? = some x) && (decide (S.names.lookup x = some .local) || (decide (S.names.lookup x = some .cell) && S.fnc x))
theorem nameOk_d (h : nameOk x = true) : (x == ("__debug__" : Str)) = false ∧ (x == ("__classdict__" : Str)) = false ∧ x ≠ "__name__" := by
  unfold nameOk at h
  simp only [Bool.and_eq_true, Bool.not_eq_true', decide_eq_false_iff_not] at h
  exact ⟨h.1.1, h.1.2, h.2⟩
theorem SX.var (h : SX P k S X W) {pos : Pos} (hl : S.loc i x = true) : L2.PE X (.Name x pos) (tVar i) := by
  unfold SC.loc at hl
  simp only [Bool.and_eq_true, Bool.or_eq_true, decide_eq_true_eq] at hl
  obtain ⟨⟨h1, h2⟩, h3⟩ := hl
  obtain ⟨n1, n2, _⟩ := nameOk_d h3
  refine pe_var (by rw [h.N]; exact h1) ?_ n1 n2
  unfold Vis
  rw [h.sc]
  rcases h2 with (q | q) | q
  · exact .inl q
  · exact .inr (.inl q)
  · exact .inr (.inr q)
theorem SX.gl (h : SX P k S X W) (hl : S.gl x = true) : Gl X x ∧ (x == ("__debug__" : Str)) = false ∧ x ≠ "__name__" := by
  unfold SC.gl at hl
  simp only [Bool.and_eq_true, decide_eq_true_eq] at hl
  obtain ⟨n1, n2, n3⟩ := nameOk_d hl.2
  refine ⟨?_, n1, n3⟩
  unfold Gl Env.kindOf
  rw [h.sc]; exact hl.1
theorem SX.bo (h : SX P k S X W) (hl : S.bo x = true) : BOk X x := by
  unfold SC.bo at hl
  rw [Bool.and_eq_true] at hl
  obtain ⟨g1, g2, g3⟩ := h.gl hl.1
  exact ⟨g1, h.blt x hl.2, g3, g2⟩
theorem SX.sto (h : SX P k S X W) {pos : Pos} (hl : S.sto i x = true) : L2.PG X (.Name x pos) (tG (wd X) (.name i)) := by
  unfold SC.sto at hl
  simp only [Bool.and_eq_true, Bool.or_eq_true, decide_eq_true_eq] at hl
  obtain ⟨h1, h2⟩ := hl
  refine xg_name h.nd (by rw [h.N]; exact h1) ?_ ?_
  · unfold L2.Loc
    rw [h.sc]
    rcases h2 with q | q
    · exact .inl q
    · exact .inr q.1
  · rw [h.sc]
    rcases h2 with q | q
    · exact .inr q
    · exact .inl (h.fnc x q.2)
theorem SX.units (h : SX P k S X W) : X.A.units + 70 < cLine := by have := h.room.un; omega
end
end PP

set_option Elab.async false
set_option linter.all false
set_option maxRecDepth 100000
/-! PP15: the checker of expressions: the looks at the tree. -/
namespace PP
open PySem PySem.Spec PyProof.Rows L2

def asBin : Expr → Option (Expr × Operator × Expr)
  | .BinOp a o b _ => some (a, o, b)
  | _ => none
theorem asBin_eq {z : Expr} {a : Expr} {o : Operator} {b : Expr} (h : asBin z = some (a, o, b)) : ∃ pos, z = .BinOp a o b pos := by
  cases z <;> simp [asBin] at h
  all_goals
    obtain ⟨rfl, rfl, rfl⟩ := h
    exact ⟨_, rfl⟩
def asUn : Expr → Option (UnaryOp × Expr)
  | .UnaryOp o a _ => some (o, a)
  | _ => none
theorem asUn_eq {z : Expr} {o : UnaryOp} {a : Expr} (h : asUn z = some (o, a)) : ∃ pos, z = .UnaryOp o a pos := by
  cases z <;> simp [asUn] at h
  all_goals
    obtain ⟨rfl, rfl⟩ := h
    exact ⟨_, rfl⟩
def asBool : Expr → Option (BoolOp × (List Expr))
  | .BoolOp o es _ => some (o, es)
  | _ => none
theorem asBool_eq {z : Expr} {o : BoolOp} {es : List Expr} (h : asBool z = some (o, es)) : ∃ pos, z = .BoolOp o es pos := by
  cases z <;> simp [asBool] at h
  all_goals
    obtain ⟨rfl, rfl⟩ := h
    exact ⟨_, rfl⟩
def asIf : Expr → Option (Expr × Expr × Expr)
  | .IfExp a b c _ => some (a, b, c)
  | _ => none
theorem asIf_eq {z : Expr} {a : Expr} {b : Expr} {c : Expr} (h : asIf z = some (a, b, c)) : ∃ pos, z = .IfExp a b c pos := by
  cases z <;> simp [asIf] at h
  all_goals
    obtain ⟨rfl, rfl, rfl⟩ := h
    exact ⟨_, rfl⟩
def asCmp : Expr → Option (Expr × (List CmpOp) × (List Expr))
  | .Compare a o b _ => some (a, o, b)
  | _ => none
theorem asCmp_eq {z : Expr} {a : Expr} {o : List CmpOp} {b : List Expr} (h : asCmp z = some (a, o, b)) : ∃ pos, z = .Compare a o b pos := by
  cases z <;> simp [asCmp] at h
  all_goals
    obtain ⟨rfl, rfl, rfl⟩ := h
    exact ⟨_, rfl⟩
def asTup : Expr → Option ((List Expr))
  | .Tuple es _ _ => some (es)
  | _ => none
theorem asTup_eq {z : Expr} {es : List Expr} (h : asTup z = some (es)) : ∃ kk pos, z = .Tuple es kk pos := by
  cases z <;> simp [asTup] at h
  all_goals
    subst h
    exact ⟨_, _, rfl⟩
def asLst : Expr → Option ((List Expr))
  | .List es _ => some (es)
  | _ => none
theorem asLst_eq {z : Expr} {es : List Expr} (h : asLst z = some (es)) : ∃ pos, z = .List es pos := by
  cases z <;> simp [asLst] at h
  all_goals
    subst h
    exact ⟨_, rfl⟩
def asSub : Expr → Option (Expr × Expr)
  | .Subscript a b _ => some (a, b)
  | _ => none
theorem asSub_eq {z : Expr} {a : Expr} {b : Expr} (h : asSub z = some (a, b)) : ∃ pos, z = .Subscript a b pos := by
  cases z <;> simp [asSub] at h
  all_goals
    obtain ⟨rfl, rfl⟩ := h
    exact ⟨_, rfl⟩
def asSlice : Expr → Option ((Option Expr) × (Option Expr) × (Option Expr))
  | .Slice a b c _ => some (a, b, c)
  | _ => none
theorem asSlice_eq {z : Expr} {a : Option Expr} {b : Option Expr} {c : Option Expr} (h : asSlice z = some (a, b, c)) : ∃ pos, z = .Slice a b c pos := by
  cases z <;> simp [asSlice] at h
  all_goals
    obtain ⟨rfl, rfl, rfl⟩ := h
    exact ⟨_, rfl⟩
def asName : Expr → Option (Str)
  | .Name x _ => some (x)
  | _ => none
theorem asName_eq {z : Expr} {x : Str} (h : asName z = some (x)) : ∃ pos, z = .Name x pos := by
  cases z <;> simp [asName] at h
  all_goals
    subst h
    exact ⟨_, rfl⟩
def asCon : Expr → Option (Const)
  | .Constant x _ _ => some (x)
  | _ => none
theorem asCon_eq {z : Expr} {x : Const} (h : asCon z = some (x)) : ∃ kk pos, z = .Constant x kk pos := by
  cases z <;> simp [asCon] at h
  all_goals
    subst h
    exact ⟨_, _, rfl⟩
def asCall : Expr → Option (Expr × (List Expr) × (List Keyword))
  | .Call x es kw _ => some (x, es, kw)
  | _ => none
theorem asCall_eq {z : Expr} {x : Expr} {es : List Expr} {kw : List Keyword} (h : asCall z = some (x, es, kw)) : ∃ pos, z = .Call x es kw pos := by
  cases z <;> simp [asCall] at h
  all_goals
    obtain ⟨rfl, rfl, rfl⟩ := h
    exact ⟨_, rfl⟩
def asAttr : Expr → Option (Expr × Str)
  | .Attribute a x _ => some (a, x)
  | _ => none
theorem asAttr_eq {z : Expr} {a : Expr} {x : Str} (h : asAttr z = some (a, x)) : ∃ pos, z = .Attribute a x pos := by
  cases z <;> simp [asAttr] at h
  all_goals
    obtain ⟨rfl, rfl⟩ := h
    exact ⟨_, rfl⟩
def asComp : Expr → Option (Expr × (List Comprehension) × Scope)
  | .ListComp e gs sc _ => some (e, gs, sc)
  | _ => none
theorem asComp_eq {z : Expr} {e : Expr} {gs : List Comprehension} {sc : Scope} (h : asComp z = some (e, gs, sc)) : ∃ pos, z = .ListComp e gs sc pos := by
  cases z <;> simp [asComp] at h
  all_goals
    obtain ⟨rfl, rfl, rfl⟩ := h
    exact ⟨_, rfl⟩
def asDict : Expr → Option ((List (Option Expr)) × (List Expr))
  | .Dict ks vs _ => some (ks, vs)
  | _ => none
theorem asDict_eq {z : Expr} {ks : List (Option Expr)} {vs : List Expr} (h : asDict z = some (ks, vs)) : ∃ pos, z = .Dict ks vs pos := by
  cases z <;> simp [asDict] at h
  all_goals
    obtain ⟨rfl, rfl⟩ := h
    exact ⟨_, rfl⟩
inductive Md where | vl | br | ow | ts
  deriving DecidableEq
def plainT : Expr → Bool
  | .UnaryOp .Not _ _ => false
  | .BoolOp _ _ _ => false
  | .IfExp _ _ _ _ => false
  | .Compare _ _ _ _ => false
  | _ => true
def isBO : Expr → Bool
  | .BoolOp _ _ _ => true
  | _ => false
theorem plainT_he {e : Expr} {env : PySem.Env} (h : plainT e = true) : ∀ whole, isTrue e env whole = (do let v ← whole; standAt e.pos; holding [v] (truthy v)) := by
  intro whole
  cases e <;> first | rfl | (cases h; done) | skip
  rename_i op a pos
  cases op <;> first | rfl | cases h
theorem plainT_bo {e : Expr} (h : plainT e = true) : isBO e = false := by
  cases e <;> first | rfl | cases h
def XM (X : Cx) (W : WX) (m : Md) (e : Expr) (ev : Ev) : Prop := match m with
  | .vl => XE' X W e ev
  | .br => XB X W e ev
  | .ow => XO X W e (ownG ev)
  | .ts => XT X W e (fun env c => truthR (ev env c)) ∧ (isBO e = true → L2.PW X e (tT (wd X) X.mg W fun env c => truthR (ev env c)))
section
variable {X : Cx} {W : WX} {e a b d : Expr} {ev ea eb ed : Ev} {m : Md}
theorem XM.val (hv : XE' X W e ev) (hp : plainT e = true) (hm : m ≠ .ow) : XM X W m e ev := by
  cases m with
  | vl => exact hv
  | br => exact hv.bor
  | ow => exact absurd rfl hm
  | ts => exact ⟨xt_val hv.bor (plainT_he hp), fun z => by rw [plainT_bo hp] at z; cases z⟩
theorem XM.bor (hv : XB X W e ev) (hp : plainT e = true) (hm : m = .br ∨ m = .ts) : XM X W m e ev := by
  rcases hm with rfl | rfl
  · exact hv
  · exact ⟨xt_val hv (plainT_he hp), fun z => by rw [plainT_bo hp] at z; cases z⟩
theorem XM.both (ho : XO X W e (ownG ev)) (hv : XE' X W e ev) (hp : plainT e = true) : XM X W m e ev := by
  cases m with
  | ow => exact ho
  | vl => exact hv
  | br => exact hv.bor
  | ts => exact ⟨xt_val hv.bor (plainT_he hp), fun z => by rw [plainT_bo hp] at z; cases z⟩
theorem XM.lst (ho : XO X W e ev) (hp : plainT e = true) : XM X W m e ev := XM.both ho.g ho.frz hp
theorem XM.cmp (hv : XE' X W e ev) (ht : XT X W e (fun env c => truthR (ev env c))) (hp : isBO e = false) (hm : m ≠ .ow) : XM X W m e ev := by
  cases m with
  | vl => exact hv
  | br => exact hv.bor
  | ow => exact absurd rfl hm
  | ts => exact ⟨ht, fun z => by rw [hp] at z; cases z⟩
theorem XE'.as {ev' : Ev} (h : XE' X W e ev) (q : ev = ev') : XE' X W e ev' := q ▸ h
theorem XT.as {t t' : Env → List PV → R Bool} (h : XT X W e t) (q : t = t') : XT X W e t' := q ▸ h
theorem ownG_pure2 {f : PV → PV → Option PV} : ownG (fun env c => (ea env c).bind fun x c => (eb env c).bind fun y c => pureR (f x y) c) = fun env c => (ea env c).bind fun x c => (eb env c).bind fun y c => pureR (ownO (f x y)) c := by
  funext env c
  show ((ea env c).bind fun x c => (eb env c).bind fun y c => pureR (f x y) c).bind (fun z c => pureR (ownO (some z)) c) = _
  rw [R.bind_assoc]
  congr 1
  funext x c
  rw [R.bind_assoc]
  congr 1
  funext y c
  cases f x y <;> rfl
theorem truthR_not {ev : Ev} : (fun (env : Env) (c : List PV) => (truthR (ev env c)).bind fun b c => R.ok (!b) c) = fun env c => truthR ((truthR (ev env c)).bind fun b c => R.ok (PV.bl (!b)) c) := by
  funext env c
  cases truthR (ev env c) <;> rfl
theorem b2_eq {bl : Blt} : b2 bl ea eb = fun env c => ((ea env c).bind fun x c => ((eb env c).bind fun y c => (R.ok [] c : R (List PV)).bind fun xs c => R.ok (y :: xs) c).bind fun xs c => R.ok (x :: xs) c).bind fun xs c => pureR (bltop bl xs) c := by
  funext env c
  unfold b2
  cases ea env c with
  | ok x c1 =>
    simp only [R.bind_ok]
    cases eb env c1 <;> rfl
  | _ => rfl
end
end PP

set_option Elab.async false
set_option linter.all false
set_option maxRecDepth 100000
/-! PP16: the checker of expressions. -/
namespace PP
open PySem PySem.Spec PyProof.Rows L2

mutual
def pvEq : PV → PV → Bool
  | .non, .non => true
  | .bl a, .bl b => a == b
  | .int i, .int j => decide (i = j)
  | .str x, .str y => decide (x = y)
  | .tup xs, .tup ys => pvEqs xs ys
  | _, _ => false
def pvEqs : List PV → List PV → Bool
  | [], [] => true
  | x :: xs, y :: ys => pvEq x y && pvEqs xs ys
  | _, _ => false
end
mutual
theorem pvEq_eq : ∀ (x y : PV), pvEq x y = true → x = y
  | .non, y, h => by cases y <;> simp [pvEq] at h; rfl
  | .bl a, y, h => by cases y <;> simp [pvEq] at h; rw [h]
  | .int a, y, h => by cases y <;> simp [pvEq] at h; rw [h]
  | .str a, y, h => by cases y <;> simp [pvEq] at h; rw [h]
  | .tup xs, y, h => by
    cases y <;> simp [pvEq] at h
    rw [pvEqs_eq xs _ h]
  | .lst _, y, h => by cases y <;> simp [pvEq] at h
  | .dic _, y, h => by cases y <;> simp [pvEq] at h
  | .dki _ _, y, h => by cases y <;> simp [pvEq] at h
  | .cup, y, h => by cases y <;> simp [pvEq] at h
  | .scr _, y, h => by cases y <;> simp [pvEq] at h
  | .rg _ _, y, h => by cases y <;> simp [pvEq] at h
  | .fnv _, y, h => by cases y <;> simp [pvEq] at h
theorem pvEqs_eq : ∀ (xs ys : List PV), pvEqs xs ys = true → xs = ys
  | [], ys, h => by cases ys <;> simp [pvEqs] at h; rfl
  | x :: xs, ys, h => by
    cases ys <;> simp [pvEqs] at h
    rw [pvEq_eq x _ h.1, pvEqs_eq xs _ h.2]
end
def conIs (c : Const) (v : PV) : Bool := match c, v with
  | .none, .non => true
  | .bool a, .bl b => a == b
  | .int i, .int j => decide (i = j)
  | .str x, .str y => decide (x = y)
  | _, _ => false
section
variable {FN : Type} [DecidableEq FN]
def ckCon (S : SC FN) (v : PV) (e : Expr) : Bool := match asCon e with
  | some c => conIs c v
  | none => match asName e with
    | some x => S.gl x && (match S.con x with
      | some p => pvEq p v
      | none => false)
    | none => false
def ckVar (S : SC FN) (i : Nat) (e : Expr) : Bool := match asName e with
  | some x => S.loc i x
  | none => false
mutual
def ckTg : Tg → SC FN → Expr → Bool
  | .name i, S, e => (match asName e with
    | some x => S.sto i x
    | none => false)
  | .tup ts, S, e => (match asTup e with
    | some es => ckTgs ts S es
    | none => false)
def ckTgs : List Tg → SC FN → List Expr → Bool
  | [], _, [] => true
  | t :: ts, S, e :: es => notStar e && ckTg t S e && ckTgs ts S es
  | _, _, _ => false
end
inductive BV where | fn (id : String) | ty (T : String)
/-- the built-ins that are called plainly -/
def bltInfo : Blt → Option (Str × BV)
  | .len => some ("len", .fn "len")
  | .tuple => some ("tuple", .ty "tuple")
  | .list => some ("list", .ty "list")
  | .dict => some ("dict", .ty "dict")
  | .dictI => some ("dict", .ty "dict")
  | .abs => some ("abs", .fn "abs")
  | .int => some ("int", .ty "int")
  | .min2 => some ("min", .fn "min")
  | .max2 => some ("max", .fn "max")
  | .sum => some ("sum", .fn "sum")
  | .all => some ("all", .fn "all")
  | .any => some ("any", .fn "any")
  | .sorted => some ("sorted", .fn "sorted")
  | .sortedD => some ("sorted", .fn "sorted")
  | .max3 => some ("max", .fn "max")
  | .maxL => some ("max", .fn "max")
  | .minL => some ("min", .fn "min")
  | .repr => some ("repr", .fn "repr")
  | .reprD => some ("repr", .fn "repr")
  | .listD => some ("list", .ty "list")
  | .dictM => some ("dict", .ty "dict")
  | .minT => some ("min", .fn "min")
  | .rgO => some ("range", .ty "range")
  | _ => none
/-- built-ins around another: outer name, inner name, how many arguments -/
def bltTwo : Blt → Option (Str × Str × Nat)
  | .listRange1 => some ("list", "range", 1)
  | .listRange2 => some ("list", "range", 2)
  | .tupRange1 => some ("tuple", "range", 1)
  | .tupRange2 => some ("tuple", "range", 2)
  | .lenSet => some ("len", "set", 1)
  | .sortedSet => some ("sorted", "set", 1)
  | .lenSetN => some ("len", "set", 1)
  | .sortedSetN => some ("sorted", "set", 1)
  | _ => none
/-- the step -1 -/
def isM1 : Expr → Bool
  | .UnaryOp .USub (.Constant (.int 1) _ _) _ => true
  | _ => false
theorem isM1_eq {e : Expr} (h : isM1 e = true) : ∃ k p1 p2, e = .UnaryOp .USub (.Constant (.int 1) k p1) p2 := by
  unfold isM1 at h
  split at h
  · exact ⟨_, _, _, rfl⟩
  · cases h
def bltD : Blt → Nat
  | .rev => 0
  | .dnew => 1
  | .dnewI => 1
  | .done => 2
  | .valsD => 3
  | .sumL => 4
  | _ => 9
def isGet2 : Mth → Bool
  | .get2 => true
  | _ => false
/-- sum(a, []) -/
def asSum : Expr → Option (Str × Expr)
  | .Call (.Name x _) [a, .List [] _] [] _ => some (x, a)
  | _ => none
theorem asSum_eq {e a : Expr} {x : Str} (h : asSum e = some (x, a)) : ∃ p lp pos, e = .Call (.Name x p) [a, .List [] lp] [] pos := by
  unfold asSum at h
  split at h
  · cases h
    exact ⟨_, _, _, rfl⟩
  · cases h
def asRev : Expr → Option Expr
  | .Subscript a (.Slice none none (some st) _) _ => if isM1 st then some a else none
  | _ => none
theorem asRev_eq {e a : Expr} (h : asRev e = some a) : ∃ k p1 p2 p3 pos, e = .Subscript a (.Slice none none (some (.UnaryOp .USub (.Constant (.int 1) k p1) p2)) p3) pos := by
  unfold asRev at h
  split at h
  · split at h
    · cases h
      rename_i hm
      obtain ⟨k, p1, p2, rfl⟩ := isM1_eq hm
      exact ⟨_, _, _, _, _, rfl⟩
    · cases h
  · cases h
def isRD : Blt → Bool
  | .reprD => true
  | _ => false
def ownBlt : Blt → Bool
  | .list => true
  | .dict => true
  | .dictI => true
  | .sortedSet => true
  | .sortedSetN => true
  | .sorted => true
  | .listRange1 => true
  | .listRange2 => true
  | .sortedD => true
  | .listD => true
  | .dictM => true
  | _ => false
/-- a plain call by a name -/
def asCallN (e : Expr) : Option (Str × List Expr) := match asCall e with
  | some (f, es, []) => (asName f).map fun x => (x, es)
  | _ => none
theorem asCallN_eq {e : Expr} {x : Str} {es : List Expr} (h : asCallN e = some (x, es)) : ∃ p pos, e = .Call (.Name x p) es [] pos := by
  unfold asCallN at h
  split at h
  · rename_i f es' hq
    obtain ⟨pos, rfl⟩ := asCall_eq hq
    obtain ⟨y, hy, e2⟩ := Option.map_eq_some_iff.mp h
    cases e2
    obtain ⟨p, rfl⟩ := asName_eq hy
    exact ⟨p, pos, rfl⟩
  · cases h
/-- a method of any expression, with one argument, on one line -/
def asMth1 : Expr → Option (Expr × Str × Expr)
  | .Call (.Attribute o m apos) [e] [] cpos => if apos.endLine == cpos.line then some (o, m, e) else none
  | _ => none
theorem asMth1_eq {z o e : Expr} {m : Str} (h : asMth1 z = some (o, m, e)) : ∃ apos cpos, z = .Call (.Attribute o m apos) [e] [] cpos ∧ (apos.endLine == cpos.line) = true := by
  unfold asMth1 at h
  split at h
  · split at h <;> cases h
    exact ⟨_, _, rfl, by assumption⟩
  · cases h
/-- a method of any expression, without arguments, on one line -/
def asMth0 : Expr → Option (Expr × Str)
  | .Call (.Attribute o m apos) [] [] cpos => if apos.endLine == cpos.line then some (o, m) else none
  | _ => none
theorem asMth0_eq {z o : Expr} {m : Str} (h : asMth0 z = some (o, m)) : ∃ apos cpos, z = .Call (.Attribute o m apos) [] [] cpos ∧ (apos.endLine == cpos.line) = true := by
  unfold asMth0 at h
  split at h
  · split at h <;> cases h
    exact ⟨_, _, rfl, by assumption⟩
  · cases h
/-- a method of any expression, with two arguments, on one line -/
def asMth2 : Expr → Option (Expr × Str × Expr × Expr)
  | .Call (.Attribute o m apos) [e, f] [] cpos => if apos.endLine == cpos.line then some (o, m, e, f) else none
  | _ => none
theorem asMth2_eq {z o e f : Expr} {m : Str} (h : asMth2 z = some (o, m, e, f)) : ∃ apos cpos, z = .Call (.Attribute o m apos) [e, f] [] cpos ∧ (apos.endLine == cpos.line) = true := by
  unfold asMth2 at h
  split at h
  · split at h <;> cases h
    exact ⟨_, _, rfl, by assumption⟩
  · cases h
/-- a call around something that is no plain call -/
def asCall1 : Expr → Option (Str × Expr)
  | .Call (.Name x _) [e] [] _ => some (x, e)
  | _ => none
theorem asCall1_eq {z e : Expr} {x : Str} (h : asCall1 z = some (x, e)) : ∃ p pos, z = .Call (.Name x p) [e] [] pos := by
  unfold asCall1 at h
  split at h <;> cases h
  exact ⟨_, _, rfl⟩
def asSpl1 : Expr → Option (Expr × Expr)
  | .Dict [none, none] [a, b] _ => some (a, b)
  | _ => none
theorem asSpl1_eq {z a b : Expr} (h : asSpl1 z = some (a, b)) : ∃ pos, z = .Dict [none, none] [a, b] pos := by
  unfold asSpl1 at h
  split at h <;> cases h
  exact ⟨_, rfl⟩
def asSpl2 : Expr → Option (Expr × Expr × Expr)
  | .Dict [none, some k] [a, v] _ => some (a, k, v)
  | _ => none
theorem asSpl2_eq {z a k v : Expr} (h : asSpl2 z = some (a, k, v)) : ∃ pos, z = .Dict [none, some k] [a, v] pos := by
  unfold asSpl2 at h
  split at h <;> cases h
  exact ⟨_, rfl⟩
def asSpl3 : Expr → Option (Expr × Expr)
  | .Dict [some k] [v] _ => some (k, v)
  | _ => none
theorem asSpl3_eq {z k v : Expr} (h : asSpl3 z = some (k, v)) : ∃ pos, z = .Dict [some k] [v] pos := by
  unfold asSpl3 at h
  split at h <;> cases h
  exact ⟨_, rfl⟩
def isNew : Expr → Bool
  | .Dict [] [] _ => true
  | _ => false
theorem isNew_eq {z : Expr} (h : isNew z = true) : ∃ pos, z = .Dict [] [] pos := by
  unfold isNew at h
  split at h
  · exact ⟨_, rfl⟩
  · cases h
def noCall0 : Expr → Bool
  | .Call _ [] _ _ => false
  | _ => true
theorem noCall0_base {o : Expr} {m : Str} {env : PySem.Env} {w : Sem Value} (h : noCall0 o = true) : attributeBase o m env w = w := by
  cases o <;> first | rfl | skip
  rename_i f es kw pos
  cases es with
  | nil => cases h
  | cons _ _ => cases f <;> rfl
def mthN : Mth → Option Str
  | .count => some "count"
  | .index => some "index"
  | .get1 => some "get"
  | _ => none
/-- a key of a display -/
def asKey : Option Expr → Option Str
  | some (.Constant (.str k) _ _) => some k
  | _ => none
theorem asKey_eq {z : Option Expr} {k : Str} (h : asKey z = some k) : ∃ j p, z = some (.Constant (.str k) j p) := by
  unfold asKey at h
  split at h <;> cases h
  exact ⟨_, _, rfl⟩
def scopeOf (names : List (Str × NameKind)) : Scope := ⟨.function, names, false, false, []⟩
def ownOf (S : SC FN) (vs : List Nat) : List (Str × Nat) := vs.filterMap fun i => (S.N[i]?).map fun x => (x, i)
def notSet : Expr → Bool
  | .Set _ _ _ => false
  | _ => true
/-- x(lambda: body) -/
def asTold : Expr → Option ((Str × Arguments) × (Expr × Scope))
  | .Call (.Name x _) [.Lambda params body scope _] [] _ => some ((x, params), (body, scope))
  | _ => none
theorem asTold_eq {z body : Expr} {x : Str} {params : Arguments} {scope : Scope} (h : asTold z = some ((x, params), (body, scope))) : ∃ p lp pos, z = .Call (.Name x p) [.Lambda params body scope lp] [] pos := by
  unfold asTold at h
  split at h <;> cases h
  exact ⟨_, _, _, rfl⟩
def noPar : Arguments → Bool
  | ⟨[], [], none, [], [], none, []⟩ => true
  | _ => false
theorem noPar_eq {a : Arguments} (h : noPar a = true) : a = ⟨[], [], none, [], [], none, []⟩ := by
  unfold noPar at h
  split at h
  · rfl
  · cases h
/-- within a lambda -/
def SC.inL (S : SC FN) (sc : Scope) : SC FN := { S with names := sc.names, fnc := fun _ => false, lam := false, oex := fun _ => false, top := false }
def kvEq : List (Str × PV) → List (Str × PV) → Bool
  | [], [] => true
  | (k, v) :: r, (k', v') :: r' => decide (k = k') && pvEq v v' && kvEq r r'
  | _, _ => false
theorem kvEq_eq : ∀ {a b : List (Str × PV)}, kvEq a b = true → a = b
  | [], [], _ => rfl
  | [], _ :: _, h => by cases h
  | _ :: _, [], h => by cases h
  | (k, v) :: r, (k', v') :: r', h => by
    rw [kvEq, Bool.and_eq_true, Bool.and_eq_true] at h
    obtain ⟨⟨h1, h2⟩, h3⟩ := h
    rw [of_decide_eq_true h1, pvEq_eq v v' h2, kvEq_eq h3]
def dctB (S : SC FN) (x : Str) (kvs : List (Str × PV)) : Bool := S.gl x && (match S.dct x with
  | some l => kvEq l kvs
  | none => false)
mutual
def ck : Ex FN → SC FN → Md → Expr → Bool
  | .bad, _, _, _ => true
  | .con v, S, m, e => decide (m ≠ .ow) && ckCon S v e
  | .var i, S, m, e => decide (m ≠ .ow) && ckVar S i e
  | .bor i, S, m, e => (decide (m = .br) || decide (m = .ts)) && ckVar S i e
  | .bin o a b, S, m, e => (match asBin e with
    | some (a', o', b') => decide (bopOf o = o') && ck a S .br a' && ck b S .br b'
    | none => false)
  | .told hs v a, S, m, e => decide (m ≠ .ow) && S.lam && (match asTold e with
    | some ((x, params), (body, sc)) => S.gl x && decide (S.told x = some (hs, v)) && noPar params && LamX.lamSB (scopeOf S.names) sc && ck a (S.inL sc) .vl body
    | none => false)
  | .pickC kvs a, S, m, e => decide (m ≠ .ow) && (match asSub e with
    | some (d, b') => (match asName d with
      | some x => (asSlice b').isNone && dctB S x kvs && ck a S .vl b'
      | none => false)
    | none => false)
  | .inC neg kvs a, S, m, e => decide (m ≠ .ow) && (match asCmp e with
    | some (a', [o'], [b']) => (match asName b' with
      | some x => decide (opIn neg = o') && dctB S x kvs && ck a S .vl a'
      | none => false)
    | _ => false)
  | .neg a, S, m, e => decide (m ≠ .ow) && (match asUn e with
    | some (o, a') => decide (o = .USub) && ck a S .br a'
    | none => false)
  | .nt a, S, m, e => decide (m ≠ .ow) && (match asUn e with
    | some (o, a') => decide (o = .Not) && ck a S (if m = .ts then .ts else .br) a'
    | none => false)
  | .and a b, S, m, e => decide (m ≠ .ow) && (match asBool e with
    | some (.And, [a', b']) => ck a S (if m = .ts then .ts else .vl) a' && ck b S (if m = .ts then .ts else .vl) b'
    | some (.And, a' :: b' :: c' :: r) => ck a S (if m = .ts then .ts else .vl) a' && ck b S (if m = .ts then .ts else .vl) (.BoolOp .And (b' :: c' :: r) e.pos)
    | _ => false)
  | .or a b, S, m, e => decide (m ≠ .ow) && (match asBool e with
    | some (.Or, [a', b']) => ck a S (if m = .ts then .ts else .vl) a' && ck b S (if m = .ts then .ts else .vl) b'
    | some (.Or, a' :: b' :: c' :: r) => ck a S (if m = .ts then .ts else .vl) a' && ck b S (if m = .ts then .ts else .vl) (.BoolOp .Or (b' :: c' :: r) e.pos)
    | _ => false)
  | .ite t a b, S, m, e => (decide (m = .vl) || decide (m = .br)) && (match asIf e with
    | some (t', a', b') => ck t S .ts t' && ck a S .vl a' && ck b S .vl b'
    | none => false)
  | .cmp o a b, S, m, e => decide (m ≠ .ow) && (match asCmp e with
    | some (a', [o'], [b']) => decide (copOf o = o') && ck a S .br a' && ck b S .br b' && notSet b'
    | _ => false)
  | .chain a b d, S, m, e => decide (m ≠ .ow) && (match asCmp e with
    | some (a', [.LtE, .LtE], [b', d']) => ck a S .br a' && ck b S .br b' && ck d S .br d' && notSet d'
    | _ => false)
  | .tup es, S, m, e => decide (m ≠ .ow) && (match asTup e with
    | some es' => ckL es S .vl es'
    | none => false)
  | .lst es, S, m, e => (match asLst e with
    | some es' => ckL es S .vl es'
    | none => false)
  | .ix a b, S, m, e => decide (m ≠ .ow) && (match asSub e with
    | some (a', b') => (asSlice b').isNone && ck a S .br a' && ck b S .br b'
    | none => false)
  | .sl a lo hi, S, m, e => (match asSub e with
    | some (a', b') => (match asSlice b' with
      | some (lo', hi', none) => ck a S .br a' && ckO lo S lo' && ckO hi S hi'
      | _ => false)
    | none => false)
  | .call f es, S, m, e => decide (m ≠ .ow) && (match asCallN e with
    | some (x, es') => decide (S.fn x = some f) && S.gl x && ckL es S .vl es'
    | none => false)
  | .fnm x, S, m, e => decide (m ≠ .ow) && (match asName e with
    | some y => decide (y = x) && S.gl x && (S.fn x).isSome
    | none => false)
  | .callv fs i es, S, m, e => decide (m ≠ .ow) && (match asCallN e with
    | some (x, es') => S.loc i x && fs.all (fun q => decide (S.fn q.1 = some q.2)) && !es'.isEmpty && ckL es S .vl es'
    | none => false)
  | .blt b es, S, m, e => (match bltInfo b with
    | some (nm, _) => (match asCallN e with
      | some (x, es') => decide (nm = x) && S.bo x && !es'.isEmpty && ckL es S .br es' && (ownBlt b || decide (m ≠ .ow)) && (!isRD b || S.grd)
      | none => false)
    | none => (match bltTwo b with
      | some (nm, nm2, n) => (match asCallN e with
        | some (x, [e2]) => (match asCallN e2 with
          | some (y, es') => decide (nm = x) && decide (nm2 = y) && S.bo x && S.bo y && decide (es'.length = n) && ckL es S .br es' && decide (es.length = n) && (ownBlt b || decide (m ≠ .ow))
          | none => false)
        | _ => false)
      | none => if bltD b = 0 then decide (m ≠ .ow) && (match asRev e with
          | some a' => ckL es S .br [a']
          | none => false)
        else if bltD b = 1 then es.isEmpty && isNew e
        else if bltD b = 2 then (match asSpl3 e with
          | some (k, v) => ckL es S .vl [k, v]
          | none => false)
        else if bltD b = 3 then (match asCall1 e with
          | some (x, e2) => (match asMth0 e2 with
            | some (o, y) => decide (x = "list") && S.bo x && decide (y = "values") && noCall0 o && ckL es S .br [o]
            | none => false)
          | none => false)
        else if bltD b = 4 then (match asSum e with
          | some (x, a') => decide (x = "sum") && S.bo x && ckL es S .br [a']
          | none => false)
        else false))
  | .mth mt a es, S, m, e => decide (m ≠ .ow) && (match mthN mt with
    | some nm => (match asMth1 e with
      | some (o, x, e') => decide (nm = x) && noCall0 o && notStar e' && ck a S .br o && ckL es S .vl [e']
      | none => false)
    | none => isGet2 mt && (match asMth2 e with
        | some (o, x, e', f') => decide (x = "get") && noCall0 o && notStar e' && notStar f' && ck a S .br o && ckL es S .vl [e', f']
        | none => false))
  | .dcat a b, S, m, e => (match asSpl1 e with
    | some (a', b') => ck a S .vl a' && ck b S .vl b'
    | none => false)
  | .dadd a k v, S, m, e => (match asSpl2 e with
    | some (a', k', v') => ck a S .vl a' && ck k S .vl k' && ck v S .vl v'
    | none => false)
  | .pick ks es a, S, m, e => decide (m ≠ .ow) && (match asSub e with
    | some (d, b') => (match asDict d with
      | some (keys, vals) => (asSlice b').isNone && decide (keys.length = vals.length) && !keys.isEmpty && decide (keys.length ≤ 15) && decide (ks.length ≤ 15) && decide ks.Nodup && keys.all (·.isSome) && ckP es ks S keys vals && ck a S .vl b'
      | none => false)
    | none => false)
  | .isin a t, S, m, e => decide (m ≠ .ow) && (match asCallN e with
    | some (x, [a', t']) => (match asName t' with
      | some y => decide (x = "isinstance") && decide (y = tyN t) && S.bo x && S.bo y && notStar a' && ck a S .br a'
      | none => false)
    | _ => false)
  | .comp vs el t it cond, S, m, e => (match asComp e with
    | some (el', [⟨tg, iter, ifs, 0⟩], sc) => decide ((ownOf S vs).map (·.2) = vs) && blkC S.N (scopeOf S.names) sc (ownOf S vs) && t.vars.all (fun i => decide (i ∈ vs)) && ckTg t (S.blk sc) tg && ckI it S tg iter && notSet iter && ckIf cond (S.blk sc) ifs && ck el (S.blk sc) .vl el'
    | _ => false)
  | .comp2 vs vs1 el t it cond t1 it1 cond1, S, m, e => (match asComp e with
    | some (el', [⟨tg, iter, ifs, 0⟩, ⟨tg1, iter1, ifs1, 0⟩], sc) => decide ((ownOf S vs).map (·.2) = vs) && blkC S.N (scopeOf S.names) sc (ownOf S vs) && t.vars.all (fun i => decide (i ∈ vs)) && t1.vars.all (fun i => decide (i ∈ vs1)) && vs1.all (fun i => decide (i ∈ vs)) &&
        ckTg t (S.blk sc) tg && ckI it S tg iter && notSet iter && ckIf cond (S.blk sc) ifs && ckTg t1 (S.blk sc) tg1 && ckI it1 (S.blk sc) tg1 iter1 && notSet iter1 && ckIf cond1 (S.blk sc) ifs1 && ck el (S.blk sc) .vl el'
    | _ => false)
def ckL : List (Ex FN) → SC FN → Md → List Expr → Bool
  | [], _, _, [] => true
  | x :: xs, S, m, e :: es => notStar e && ck x S m e && ckL xs S m es
  | _, _, _, _ => false
def ckP : List (Ex FN) → List Str → SC FN → List (Option Expr) → List Expr → Bool
  | [], [], _, [], [] => true
  | x :: xs, k :: ks, S, key :: keys, v :: vals => decide (asKey key = some k) && ck x S .vl v && ckP xs ks S keys vals
  | _, _, _, _, _ => false
def ckO : Option (Ex FN) → SC FN → Option Expr → Bool
  | none, _, none => true
  | some x, S, some e => ck x S .br e
  | _, _, _ => false
def ckIf : Option (Ex FN) → SC FN → List Expr → Bool
  | none, _, [] => true
  | some x, S, [e] => ck x S .ts e
  | _, _, _ => false
def ckI : Ie FN → SC FN → Expr → Expr → Bool
  | .seq x, S, _, e => ck x S .vl e
  | .range1 a, S, _, e => (match asCallN e with
    | some (x, [a']) => decide (x = "range") && S.bo x && notStar a' && ck a S .br a'
    | _ => false)
  | .range2 a b, S, _, e => (match asCallN e with
    | some (x, [a', b']) => decide (x = "range") && S.bo x && notStar a' && notStar b' && ck a S .br a' && ck b S .br b'
    | _ => false)
  | .zip a b, S, tg, e => (asTup tg).isSome && (match asCallN e with
    | some (x, [a', b']) => decide (x = "zip") && S.bo x && notStar a' && notStar b' && ck a S .vl a' && ck b S .vl b'
    | _ => false)
  | .enum a, S, tg, e => (asTup tg).isSome && (match asCallN e with
    | some (x, [a']) => decide (x = "enumerate") && S.bo x && notStar a' && ck a S .vl a'
    | _ => false)
end
end
end PP

set_option Elab.async false
set_option linter.all false
set_option maxRecDepth 100000
/-! PP17: the checker of expressions is right. -/
namespace PP
open PySem PySem.Spec PyProof.Rows L2

theorem plainIx_of {b : Expr} (h : (asSlice b).isNone = true) : PlainIx b := by
  cases b <;> first | (intro o i; rfl) | (simp [asSlice] at h)
theorem noSl_of {b : Expr} (h : (asSlice b).isNone = true) : NoSl b := by
  cases b <;> first | (intro o i; rfl) | (simp [asSlice] at h)
theorem noMark {op : CmpOp} {b : Expr} (h : notSet b = true) : behindInMarks op b = false := by
  cases b <;> first | rfl | cases h
theorem notSet_fold {e : Expr} (h : notSet e = true) (env : PySem.Env) : ∀ x, foldedSetIterable e env x = pure x := by
  intro x
  cases e <;> first | rfl | cases h
theorem bool_and {a b : Bool} (h : (a && b) = true) : a = true ∧ b = true := by simpa using h
section
variable {FN : Type} [DecidableEq FN] {P : FN → FnP FN} {k : Nat}
theorem ckVar_ok {S : SC FN} {X : Cx} {W : WX} {i : Nat} {e : Expr} (hx : SX P k S X W) (h : ckVar S i e = true) : L2.PE X e (tVar i) ∧ ∃ x pos, e = .Name x pos := by
  unfold ckVar at h
  cases hq : asName e with
  | none => rw [hq] at h; cases h
  | some x =>
    rw [hq] at h
    obtain ⟨pos, rfl⟩ := asName_eq hq
    exact ⟨hx.var h, x, pos, rfl⟩
theorem ckCon_ok {S : SC FN} {X : Cx} {W : WX} {v : PV} {e : Expr} (hx : SX P k S X W) (h : ckCon S v e = true) : XE' X W e (fun _ c => .ok v c) ∧ plainT e = true := by
  unfold ckCon at h
  cases hq : asCon e with
  | some cn =>
    rw [hq] at h
    obtain ⟨kk, pos, rfl⟩ := asCon_eq hq
    refine ⟨?_, rfl⟩
    cases cn <;> cases v <;> simp [conIs] at h
    · exact x_non
    · subst h; exact x_bl
    · subst h; exact x_int
    · subst h; exact x_str
  | none =>
    rw [hq] at h
    cases hq2 : asName e with
    | none => rw [hq2] at h; cases h
    | some x =>
      rw [hq2] at h
      obtain ⟨pos, rfl⟩ := asName_eq hq2
      refine ⟨?_, rfl⟩
      simp only at h
      obtain ⟨h1, h2⟩ := bool_and h
      cases hc : S.con x with
      | none => rw [hc] at h2; cases h2
      | some p =>
        rw [hc] at h2
        have e1 := pvEq_eq _ _ h2
        subst e1
        obtain ⟨u, w, hm, rv, rp⟩ := hx.con x p hc
        obtain ⟨g1, g2, g3⟩ := hx.gl h1
        exact x_con (pe_glob g1 hm rv g2) rp
mutual
theorem ckTg_ok : ∀ (t : Tg) {S : SC FN} {X : Cx} {W : WX} {e : Expr}, SX P k S X W → ckTg t S e = true → L2.PG X e (tG (wd X) t)
  | .name i, S, X, W, e, hx, h => by
    rw [ckTg] at h
    cases hq : asName e with
    | none => rw [hq] at h; cases h
    | some x =>
      rw [hq] at h
      obtain ⟨pos, rfl⟩ := asName_eq hq
      exact hx.sto h
  | .tup ts, S, X, W, e, hx, h => by
    rw [ckTg] at h
    cases hq : asTup e with
    | none => rw [hq] at h; cases h
    | some es =>
      rw [hq] at h
      obtain ⟨kk, pos, rfl⟩ := asTup_eq hq
      obtain ⟨h1, h2, h3⟩ := ckTgs_ok ts hx h
      exact xg_tup hx.calm h1 h2 h3
theorem ckTgs_ok : ∀ (ts : List Tg) {S : SC FN} {X : Cx} {W : WX} {es : List Expr}, SX P k S X W → ckTgs ts S es = true → L2.PGs X es (tGs (wd X) ts) ∧ es.all notStar = true ∧ ts.length = es.length
  | [], S, X, W, [], hx, h => ⟨xgs_nil, rfl, rfl⟩
  | [], S, X, W, _ :: _, hx, h => by simp [ckTgs] at h
  | _ :: _, S, X, W, [], hx, h => by simp [ckTgs] at h
  | t :: ts, S, X, W, e :: es, hx, h => by
    rw [ckTgs] at h
    obtain ⟨h12, h3⟩ := bool_and h
    obtain ⟨h1, h2⟩ := bool_and h12
    obtain ⟨q1, q2, q3⟩ := ckTgs_ok ts hx h3
    exact ⟨xgs_cons (ckTg_ok t hx h2) q1 h1, by rw [List.all_cons, h1, q2]; rfl, by rw [List.length_cons, List.length_cons, q3]⟩
end
theorem done_eq {ek ev : Ev} : (fun (env : Env) (c : List PV) => (ek env c).bind fun y c => (ev env c).bind fun u c => pureR (bltop .done [y, u]) c) = fun env c => ((ek env c).bind fun x c => ((ev env c).bind fun y c => (R.ok [] c : R (List PV)).bind fun xs c => R.ok (y :: xs) c).bind fun xs c => R.ok (x :: xs) c).bind fun xs c => pureR (bltop .done xs) c := by
  funext env c
  simp only [R.bind_assoc, R.bind_ok]
theorem get1_eq {ea ev : Ev} : get1R ea ev = mth1 .get1 ea ev := by
  funext env c
  unfold get1R mth1
  simp only [R.bind_assoc, R.bind_ok]
theorem get2_eq {ea ev ed : Ev} : get2R ea ev ed = fun env c => (ea env c).bind fun x c => guardR (recv .get2 x) (((ev env c).bind fun x c => ((ed env c).bind fun y c => (R.ok [] c : R (List PV)).bind fun xs c => R.ok (y :: xs) c).bind fun xs c => R.ok (x :: xs) c).bind fun xs c => pureR (mthop .get2 x xs) c) := by
  funext env c
  unfold get2R
  simp only [R.bind_assoc, R.bind_ok]
/-- a plain built-in -/
theorem blt_rule {X : Cx} (hc : X.calm = true) (hu : X.A.units + 70 < cLine) {b : Blt} {nm : Str} {v : BV} (gu : isRD b = true → X.A.guards = some []) (h : bltInfo b = some (nm, v)) : match v with
    | .fn id => bootBuiltins nm = some (.builtin id) ∧ (ownBlt b = false → CallR X (.builtin id) (rC (wd X) (bltop b))) ∧ (ownBlt b = true → CallR X (.builtin id) (rCO (wd X) (bltop b)))
    | .ty T => bootBuiltins nm = some (.type T) ∧ (ownBlt b = false → CallR X (.type T) (rC (wd X) (bltop b))) ∧ (ownBlt b = true → CallR X (.type T) (rCO (wd X) (bltop b))) := by
  cases b <;> cases h
  · exact ⟨by decide +kernel, fun _ => b_len, fun z => (Bool.noConfusion z)⟩
  · exact ⟨by decide +kernel, fun _ => b_tuple, fun z => nomatch z⟩
  · exact ⟨by decide +kernel, fun z => (Bool.noConfusion z), fun _ => b_listO⟩
  · exact ⟨by decide +kernel, fun z => (Bool.noConfusion z), fun _ => b_dictO hc hu⟩
  · exact ⟨by decide +kernel, fun _ => b_abs, fun z => (Bool.noConfusion z)⟩
  · exact ⟨by decide +kernel, fun _ => b_int, fun z => nomatch z⟩
  · exact ⟨by decide +kernel, fun _ => b_min2 hc, fun z => (Bool.noConfusion z)⟩
  · exact ⟨by decide +kernel, fun _ => b_max2 hc, fun z => (Bool.noConfusion z)⟩
  · exact ⟨by decide +kernel, fun _ => b_sum hc, fun z => (Bool.noConfusion z)⟩
  · exact ⟨by decide +kernel, fun _ => b_all hc, fun z => (Bool.noConfusion z)⟩
  · exact ⟨by decide +kernel, fun _ => b_any hc, fun z => (Bool.noConfusion z)⟩
  · exact ⟨by decide +kernel, fun z => (Bool.noConfusion z), fun _ => b_sortedB hc hu⟩
  · exact ⟨by decide +kernel, fun _ => b_maxL hc, fun z => (Bool.noConfusion z)⟩
  · exact ⟨by decide +kernel, fun _ => b_minL hc, fun z => (Bool.noConfusion z)⟩
  · exact ⟨by decide +kernel, fun _ => b_max3 hc, fun z => (Bool.noConfusion z)⟩
  · exact ⟨by decide +kernel, fun z => (Bool.noConfusion z), fun _ => b_sortedD hc hu⟩
  · exact ⟨by decide +kernel, fun z => (Bool.noConfusion z), fun _ => b_dictI hc⟩
  · exact ⟨by decide +kernel, fun _ => b_repr, fun z => (Bool.noConfusion z)⟩
  · exact ⟨by decide +kernel, fun z => (Bool.noConfusion z), fun _ => b_listD hc⟩
  · exact ⟨by decide +kernel, fun z => (Bool.noConfusion z), fun _ => b_dictM hc hu⟩
  · exact ⟨by decide +kernel, fun _ => b_minT hc hu, fun z => (Bool.noConfusion z)⟩
  · exact ⟨by decide +kernel, fun _ => b_reprD (gu rfl) hu, fun z => (Bool.noConfusion z)⟩
  · exact ⟨by decide +kernel, fun _ => b_rgO, fun z => (Bool.noConfusion z)⟩
theorem blk_ok {S : SC FN} {X : Cx} {W : WX} (hx : SX P k S X W) {sc : Scope} {own : List (Str × Nat)} (h : blkC S.N (scopeOf S.names) sc own = true) : BlkOk X.N X.env.scope sc own := by
  have q := blkOk_by h
  refine ⟨q.kind, q.uniq, by rw [hx.N]; exact q.ix, ?_, by rw [hx.N]; exact q.own⟩
  rw [hx.sc]
  exact q.free
theorem dec_of {p : Prop} [Decidable p] (h : decide p = true) : p := of_decide_eq_true h
theorem SX.inL {S : SC FN} {X : Cx} {W : WX} (h : SX P k S X W) (nog : S.grd = false) {scope : Scope} (L : LamX.LamS X.env.scope scope) (A : Around) (outer : List PySem.Env) (s : Shared) (H : Hp) (E : XK) (f c' : Addr) (hr : Room (3 * k) (A.deeper (LamX.lamEnv X scope s.heap.objs.size f c'))) :
    SX P k (S.inL scope) (LamX.lamCx X A outer s H E scope f c') (fun cls d _ H' => E cls d H') where
  N := h.N
  sc := rfl
  kind := L.kind
  fnc := fun _ z => nomatch z
  nd := h.nd
  calm := rfl
  room := hr
  tk := takes_of rfl rfl rfl rfl
  own := passes_of (X := LamX.lamCx X A outer s H E scope f c') rfl
  fns := h.fns
  blt := h.blt
  con := h.con
  exc := fun x hx => let ⟨C, bmB, B, n, i, a, b, c, d, r⟩ := (h.exc x hx).ex; ⟨C, bmB, B, n, i, a, b, c, d, r⟩
  oex := fun _ z => nomatch z
  told := fun x hs v hx => ⟨⟨(h.told x hs v hx).1.ex⟩, (h.told x hs v hx).2⟩
  lam := fun z => nomatch z
  grd := fun z => nomatch nog.symm.trans z
  fr := fun z => nomatch z
  dct := fun x kvs hx => ⟨(h.dct x kvs hx).ex⟩
theorem dct_ok {S : SC FN} {X : Cx} {W : WX} (hx : SX P k S X W) {x : Str} {kvs : List (Str × PV)} (h : dctB S x kvs = true) : S.gl x = true ∧ DctAt X x kvs := by
  unfold dctB at h
  obtain ⟨h1, h2⟩ := bool_and h
  cases hq : S.dct x with
  | none => rw [hq] at h2; cases h2
  | some l =>
    rw [hq] at h2
    have e1 := kvEq_eq h2
    subst e1
    exact ⟨h1, hx.dct x l hq⟩
/-- all but the tables stay: what is known is known still -/
theorem pres_lam {T : Wd} {g : Gh} {H H1 : Hp} {c : List PV} {B : Addr → Prop} {env : Env} {σ : L2.St} (er : EnvR T g H B env σ) (hr : HR T g c H) (e : LamX.ExtN H H1) (t : LamX.Tabs (tsOf T.K) H1) : Pres g H g H1 ∧ HR T g c H1 := by
  refine ⟨⟨Ext.refl, fun a o h _ nt => e a o h nt, fun _ _ h => .inl h, fun _ h => .inl h, fun a o h nt => ⟨o, e a o h nt, nt⟩⟩, fun a o h => e a o (hr.sub a o h) fun ps z => hr.ntb a ps (by rw [h, z]), hr.ntb, t, hr.cup0, fun a h => ?_⟩
  obtain ⟨f, ne0, vs, q, r⟩ := hr.cup1 a h
  exact ⟨f, ne0, vs, e a _ q (fun ps z => by cases z), r⟩
theorem wTold_of {K : PySem.W.Frag} {mg : MG} {R : Str → Hp → Prop} {cl : Str} {cls : Value} (hy : ∀ y D, y ∈ excNames → mg y = some (.ref D) → PySem.W.exmOne K cls (.ref D) = some (subX cl y)) : ∀ {hs : List (Str × Option Str)} {d : Option Addr} {σ : L2.St} {H : Hp} {s : Str}, (∀ q ∈ hs, q.1 ∈ excNames ∧ ∃ D, mg q.1 = some (.ref D)) → takeX hs cl = some s → tellX K R s cls d H →
    wTold K R (HLof mg hs) cls d σ H
  | [], _, _, _, _, _, h, _ => by cases h
  | (y, v) :: r, d, σ, H, s, hh, h, hR => by
    obtain ⟨e1, D, e2⟩ := hh _ List.mem_cons_self
    have eL : HLof mg ((y, v) :: r) = (.ref D, v) :: HLof mg r := by
      unfold HLof
      rw [List.map_cons, show mg y = some (.ref D) from e2]
      rfl
    rw [eL]
    unfold takeX at h
    refine ⟨subX cl y, hy y D e1 e2, fun hb => ?_, fun hb => ?_⟩
    · rw [if_pos hb] at h
      subst h
      exact hR
    · rw [if_neg (by rw [hb]; decide)] at h
      exact wTold_of hy (fun q hq => hh q (List.mem_cons_of_mem _ hq)) h hR
theorem exc_str {T : Wd} {mg : MG} {W : WX} {g : Gh} {H : Hp} {σ : L2.St} {K : PV → Gh → List PV → Hp → Prop} {hs : List (Str × Option Str)} {v cl : Str} {arg : PV} {c : List PV} (h : GoodR T mg W g H σ K (toldR hs v (.exc cl arg c))) :
    ∃ s z, takeX hs cl = some s ∧ fillX arg s = some z ∧ ∀ g' H', Pres g H g' H' → HR T g' c H' → K z g' c H' := by
  obtain ⟨z, ez, kz⟩ := GoodR.pure h
  obtain ⟨s, es, hz⟩ := Option.bind_eq_some_iff.mp ez
  exact ⟨s, z, es, hz, kz⟩
/-- what is filled in is what the clause tells -/
theorem tell_of {T : Wd} {mg : MG} {g : Gh} {H : Hp} {cl : Str} {arg : PV} {cls : Value} {d : Option Addr} {s : Str} {z : PV} {R : Str → Hp → Prop} (ex : ExcR T mg g H cl arg cls d) (hz : fillX arg s = some z) (hR : ∀ t, z = .str t → R t H) : tellX T.K R s cls d H := by
  unfold fillX at hz
  unfold tellX
  cases hc : cutMark s with
  | none =>
    rw [hc] at hz
    exact hR s (Option.some.inj hz).symm
  | some p =>
    rw [hc] at hz
    simp only at hz ⊢
    cases arg with
    | int n =>
      simp only at hz
      split at hz
      · rename_i hl
        rw [Bool.and_eq_true] at hl
        obtain ⟨_, _, _, C, dd, v, ec, hX, hf, ed, eH, rv⟩ := ex
        obtain rfl : v = .int n := by cases rv; rfl
        exact ⟨C, dd, n, ec, hX, hf, ed, eH, hl.1, of_decide_eq_true hl.2, hR _ (Option.some.inj hz).symm⟩
      · cases hz
    | _ => cases hz
theorem x_told {S : SC FN} {X : Cx} {W : WX} (hx : SX P k S X W) {x v : Str} {params : Arguments} {body : Expr} {scope : Scope} {p lp pos : Pos} {hs : List (Str × Option Str)} {ev : Ev} (hl : S.lam = true) (hg : S.gl x = true) (ht : S.told x = some (hs, v)) (hp : noPar params = true) (L : LamX.LamS X.env.scope scope)
    (hb : ∀ (A : Around) (outer : List PySem.Env) (s : Shared) (H : Hp) (E : XK) (f c' : Addr), Room (3 * k) (A.deeper (LamX.lamEnv X scope s.heap.objs.size f c')) → XE' (LamX.lamCx X A outer s H E scope f c') (fun cls d _ H' => E cls d H') body ev) :
    XE' X W (.Call (.Name x p) [.Lambda params body scope lp] [] pos) (fun env c => toldR hs v (ev env c)) := by
  obtain ⟨⟨⟨g, a, pg, bg, sg, dV, kV, doc, pm, cdv, ct, oc, an, od, osl, Ng, hm, hk, lk, hcg, hbn, Sg, hB⟩⟩, hy⟩ := hx.told x hs v ht
  obtain ⟨⟨⟨cd, Pt, hcode, TB, hmT, hu⟩⟩, hr, _⟩ := hx.lam hl
  obtain ⟨g1, g2, g3⟩ := hx.gl hg
  have hpar := noPar_eq hp
  subst hpar
  obtain ⟨va, hd1, hd2⟩ := visB_of hB
  have hNg : Ng[0]? = some a := by
    have e1 := Sg.pre
    cases Ng with
    | nil => simp at e1
    | cons n r => simp at e1; rw [e1]; rfl
  have G := fun q => gives_x (Ng := Ng) (x := x) (g := g) (cdg := cdv) (q := q) hB Sg.nd (fun q hq => (hy q hq).2.1) (fun q hq => (hy q hq).2.2)
  refine pe_weak (LamX.pe_lamcall (T := tsOf X.K) (TT := TTx X.K (HLof X.mg hs) v) (k := 3 * k) (t := fun E => tE (wd X) X.mg (fun cls d _ H' => E cls d H') ev) g1 hm hk lk hcg hbn Sg hNg (.inl va) (G _) TB hcode hmT hu hr L rfl (fun _ _ _ _ _ => rfl) hb g2 hd1 hd2) fun σ H Q h => ?_
  obtain ⟨g0, env, c, B, er, hr0, gd⟩ := h
  refine ⟨hr0.tabs, fun H1 e1 t1 => ?_⟩
  obtain ⟨pr, hr1⟩ := pres_lam er hr0 e1 t1
  have gd1 : GoodR (wd X) X.mg W g0 H1 σ (fun p g' _ H' => ∀ v, Rp (wd X) g' v p → Q v H') (toldR hs v (ev env c)) := GoodR.pres (x := toldR hs v (ev env c)) gd pr
  refine ⟨g0, env, c, B, er.pres pr, hr1, ?_⟩
  cases hev : ev env c with
  | ok z c' =>
    rw [hev] at gd1
    intro g' H' p' h' w _
    exact gd1 g' H' p' h' (.str v) (.str v)
  | exc cl arg c' =>
    rw [hev] at gd1
    obtain ⟨s, z, es, ez, ks⟩ := exc_str gd1
    intro g' H' p' h' cls d ex
    exact wTold_of ex.2.2.1 (fun q hq => ⟨(hy q hq).1, (hy q hq).2.1⟩) es (tell_of ex ez fun t et => by subst et; exact ks g' H' p' h' (.str t) (.str t))
  | stuck => rw [hev] at gd1; exact gd1.elim
mutual
theorem ck_ok : ∀ (ex : Ex FN) {S : SC FN} {X : Cx} {W : WX} {m : Md} {e : Expr}, SX P k S X W → ck ex S m e = true → XM X W m e (evalE (callK P k) ex)
  | .bad, S, X, W, m, e, hx, h => by
    have hb : ∀ {α : Type} {σ : L2.St} {H : Hp} {K : α → Gh → List PV → Hp → Prop}, tR (wd X) X.mg W (fun _ _ => (R.stuck : R α)) K σ H → False := fun ⟨_, _, _, _, _, _, gd⟩ => gd
    cases m with
    | vl => exact ⟨fun _ _ _ _ _ _ q => (hb q).elim⟩
    | br => exact ⟨fun _ _ _ _ _ _ q => (hb q).elim⟩
    | ow => exact ⟨fun _ _ _ _ _ _ q => (hb q).elim⟩
    | ts => exact ⟨⟨fun _ _ _ _ _ _ q => (hb q).elim⟩, fun _ => ⟨fun _ _ _ _ _ _ _ q => (hb q).elim⟩⟩
  | .con v, S, X, W, m, e, hx, h => by
    rw [ck] at h
    obtain ⟨h1, h2⟩ := bool_and h
    obtain ⟨q1, q2⟩ := ckCon_ok hx h2
    exact XM.val q1 q2 (dec_of h1)
  | .var i, S, X, W, m, e, hx, h => by
    rw [ck] at h
    obtain ⟨h1, h2⟩ := bool_and h
    obtain ⟨q1, x, pos, rfl⟩ := ckVar_ok hx h2
    exact XM.val (x_var q1) rfl (dec_of h1)
  | .bor i, S, X, W, m, e, hx, h => by
    rw [ck] at h
    obtain ⟨h1, h2⟩ := bool_and h
    obtain ⟨q1, x, pos, rfl⟩ := ckVar_ok hx h2
    exact XM.bor (x_bor q1) rfl (by simpa using h1)
  | .bin o a b, S, X, W, m, e, hx, h => by
    rw [ck] at h
    cases hq : asBin e with
    | none => rw [hq] at h; cases h
    | some q =>
      obtain ⟨a', o', b'⟩ := q
      rw [hq] at h
      obtain ⟨pos, rfl⟩ := asBin_eq hq
      obtain ⟨h12, h3⟩ := bool_and h
      obtain ⟨h1, h2⟩ := bool_and h12
      have e1 := dec_of h1
      subst e1
      have ha := ck_ok a hx h2
      have hb := ck_ok b hx h3
      exact XM.both ((x_binO o ha hb).as ownG_pure2.symm) (x_bin o ha hb) rfl
  | .told hs v a, S, X, W, m, e, hx, h => by
    rw [ck] at h
    have hh := bool_and h; clear h; obtain ⟨h0, h⟩ := hh
    obtain ⟨h0, hl⟩ := bool_and h0
    cases hq : asTold e with
    | none => rw [hq] at h; cases h
    | some q =>
      obtain ⟨⟨x, params⟩, ⟨body, sc⟩⟩ := q
      rw [hq] at h
      obtain ⟨p, lp, pos, rfl⟩ := asTold_eq hq
      obtain ⟨h, h5⟩ := bool_and h
      obtain ⟨h, h4⟩ := bool_and h
      obtain ⟨h, h3⟩ := bool_and h
      obtain ⟨h1, h2⟩ := bool_and h
      have L0 := LamX.lamS_by h4
      have L : LamX.LamS X.env.scope sc := ⟨L0.kind, L0.co, L0.gen, L0.own, fun y hy e => by rw [hx.sc]; exact L0.free y hy e⟩
      exact XM.val (x_told hx hl h1 (dec_of h2) h3 L (fun A outer s H E f c' hr => ck_ok a (hx.inL (hx.lam hl).2.2 L A outer s H E f c' hr) h5)) rfl (dec_of h0)
  | .pickC kvs a, S, X, W, m, e, hx, h => by
    rw [ck] at h
    have hh := bool_and h; clear h; obtain ⟨h0, h⟩ := hh
    cases hq : asSub e with
    | none => rw [hq] at h; cases h
    | some q =>
      obtain ⟨d, b'⟩ := q
      rw [hq] at h
      obtain ⟨pos, rfl⟩ := asSub_eq hq
      cases hd : asName d with
      | none => simp only [hd] at h; cases h
      | some x =>
        simp only [hd] at h
        obtain ⟨p, rfl⟩ := asName_eq hd
        obtain ⟨h, h3⟩ := bool_and h
        obtain ⟨h1, h2⟩ := bool_and h
        obtain ⟨g0, D⟩ := dct_ok hx h2
        obtain ⟨g1, g2, g3⟩ := hx.gl g0
        exact XM.val (x_pickC D g1 g2 (ck_ok a hx h3) (plainIx_of h1)) rfl (dec_of h0)
  | .inC neg kvs a, S, X, W, m, e, hx, h => by
    rw [ck] at h
    have hh := bool_and h; clear h; obtain ⟨h0, h⟩ := hh
    split at h
    · rename_i a' o' b' hq
      obtain ⟨pos, rfl⟩ := asCmp_eq hq
      cases hd : asName b' with
      | none => simp only [hd] at h; cases h
      | some x =>
        simp only [hd] at h
        obtain ⟨p, rfl⟩ := asName_eq hd
        obtain ⟨h, h3⟩ := bool_and h
        obtain ⟨h1, h2⟩ := bool_and h
        have e1 := dec_of h1
        subst e1
        obtain ⟨g0, D⟩ := dct_ok hx h2
        obtain ⟨g1, g2, g3⟩ := hx.gl g0
        exact XM.cmp (x_inC D g1 g2 (ck_ok a hx h3)) (xt_inC D g1 g2 (ck_ok a hx h3)) rfl (dec_of h0)
    · cases h
  | .neg a, S, X, W, m, e, hx, h => by
    rw [ck] at h
    have hh := bool_and h; clear h; obtain ⟨h0, h⟩ := hh
    cases hq : asUn e with
    | none => rw [hq] at h; cases h
    | some q =>
      obtain ⟨o, a'⟩ := q
      rw [hq] at h
      obtain ⟨pos, rfl⟩ := asUn_eq hq
      obtain ⟨h1, h2⟩ := bool_and h
      obtain rfl : o = .USub := dec_of h1
      exact XM.val (x_neg (ck_ok a hx h2)) rfl (dec_of h0)
  | .nt a, S, X, W, m, e, hx, h => by
    rw [ck] at h
    have hh := bool_and h; clear h; obtain ⟨h0, h⟩ := hh
    cases hq : asUn e with
    | none => rw [hq] at h; cases h
    | some q =>
      obtain ⟨o, a'⟩ := q
      rw [hq] at h
      obtain ⟨pos, rfl⟩ := asUn_eq hq
      obtain ⟨h1, h2⟩ := bool_and h
      obtain rfl : o = .Not := dec_of h1
      cases m with
      | ow => exact absurd h0 (by decide)
      | ts =>
        have q := ck_ok a hx h2
        exact ⟨(xt_not q.1).as truthR_not, fun z => nomatch z⟩
      | vl => exact x_nt (ck_ok a hx h2)
      | br => exact (x_nt (ck_ok a hx h2)).bor
  | .and a b, S, X, W, m, e, hx, h => by
    rw [ck] at h
    have hh := bool_and h; clear h; obtain ⟨h0, h⟩ := hh
    cases hq : asBool e with
    | none => rw [hq] at h; cases h
    | some q =>
      obtain ⟨o, es⟩ := q
      rw [hq] at h
      obtain ⟨pos, rfl⟩ := asBool_eq hq
      cases o with
      | Or => cases h
      | And =>
        match es, h with
        | [a', b'], h =>
          obtain ⟨h1, h2⟩ := bool_and h
          cases m with
          | ow => exact absurd h0 (by decide)
          | ts =>
            have q := xt_and (pos := pos) (rest := []) (ck_ok a hx h1).1 (xt_and1 (ck_ok b hx h2).1)
            exact ⟨q.pt, fun _ => q⟩
          | vl => exact x_and (ck_ok a hx h1) (x_one (ck_ok b hx h2))
          | br => exact (x_and (pos := pos) (rest := []) (ck_ok a hx h1) (x_one (ck_ok b hx h2))).bor
        | a' :: b' :: c' :: r, h =>
          obtain ⟨h1, h2⟩ := bool_and h
          cases m with
          | ow => exact absurd h0 (by decide)
          | ts =>
            have q := xt_and (pos := pos) (rest := c' :: r) (ck_ok a hx h1).1 ((ck_ok b hx h2).2 rfl)
            exact ⟨q.pt, fun _ => q⟩
          | vl => exact x_and (ck_ok a hx h1) (ck_ok b hx h2)
          | br => exact (x_and (pos := pos) (rest := c' :: r) (ck_ok a hx h1) (ck_ok b hx h2)).bor
  | .or a b, S, X, W, m, e, hx, h => by
    rw [ck] at h
    have hh := bool_and h; clear h; obtain ⟨h0, h⟩ := hh
    cases hq : asBool e with
    | none => rw [hq] at h; cases h
    | some q =>
      obtain ⟨o, es⟩ := q
      rw [hq] at h
      obtain ⟨pos, rfl⟩ := asBool_eq hq
      cases o with
      | And => cases h
      | Or =>
        match es, h with
        | [a', b'], h =>
          obtain ⟨h1, h2⟩ := bool_and h
          cases m with
          | ow => exact absurd h0 (by decide)
          | ts =>
            have q := xt_or (pos := pos) (rest := []) (ck_ok a hx h1).1 (xt_or1 (ck_ok b hx h2).1)
            exact ⟨q.pt, fun _ => q⟩
          | vl => exact x_or (ck_ok a hx h1) (x_one (ck_ok b hx h2))
          | br => exact (x_or (pos := pos) (rest := []) (ck_ok a hx h1) (x_one (ck_ok b hx h2))).bor
        | a' :: b' :: c' :: r, h =>
          obtain ⟨h1, h2⟩ := bool_and h
          cases m with
          | ow => exact absurd h0 (by decide)
          | ts =>
            have q := xt_or (pos := pos) (rest := c' :: r) (ck_ok a hx h1).1 ((ck_ok b hx h2).2 rfl)
            exact ⟨q.pt, fun _ => q⟩
          | vl => exact x_or (ck_ok a hx h1) (ck_ok b hx h2)
          | br => exact (x_or (pos := pos) (rest := c' :: r) (ck_ok a hx h1) (ck_ok b hx h2)).bor
  | .ite t a b, S, X, W, m, e, hx, h => by
    rw [ck] at h
    have hh := bool_and h; clear h; obtain ⟨h0, h⟩ := hh
    cases hq : asIf e with
    | none => rw [hq] at h; cases h
    | some q =>
      obtain ⟨t', a', b'⟩ := q
      rw [hq] at h
      obtain ⟨pos, rfl⟩ := asIf_eq hq
      obtain ⟨h12, h3⟩ := bool_and h
      obtain ⟨h1, h2⟩ := bool_and h12
      have q := x_ite (pos := pos) (ck_ok t hx h1).1 (ck_ok a hx h2) (ck_ok b hx h3)
      cases m with
      | ow => exact absurd h0 (by decide)
      | ts => exact absurd h0 (by decide)
      | vl => exact q
      | br => exact q.bor
  | .cmp o a b, S, X, W, m, e, hx, h => by
    rw [ck] at h
    have hh := bool_and h; clear h; obtain ⟨h0, h⟩ := hh
    cases hq : asCmp e with
    | none => rw [hq] at h; cases h
    | some q =>
      obtain ⟨a', os, bs⟩ := q
      rw [hq] at h
      obtain ⟨pos, rfl⟩ := asCmp_eq hq
      match os, bs, h with
      | [o'], [b'], h =>
        obtain ⟨h123, h4⟩ := bool_and h
        obtain ⟨h12, h3⟩ := bool_and h123
        obtain ⟨h1, h2⟩ := bool_and h12
        obtain rfl : copOf o = o' := dec_of h1
        exact XM.cmp (x_cmp hx.units o (ck_ok a hx h2) (ck_ok b hx h3) (noMark h4)) (xt_cmp hx.units o (ck_ok a hx h2) (ck_ok b hx h3) (noMark h4)) rfl (dec_of h0)
      | [], _, h => cases h
      | _ :: _ :: _, _, h => exact absurd h (by simp)
      | [_], [], h => cases h
      | [_], _ :: _ :: _, h => cases h
  | .chain a b d, S, X, W, m, e, hx, h => by
    rw [ck] at h
    have hh := bool_and h; clear h; obtain ⟨h0, h⟩ := hh
    cases hq : asCmp e with
    | none => rw [hq] at h; cases h
    | some q =>
      obtain ⟨a', os, bs⟩ := q
      rw [hq] at h
      obtain ⟨pos, rfl⟩ := asCmp_eq hq
      split at h
      · rename_i heq
        cases heq
        obtain ⟨h123, h4⟩ := bool_and h
        obtain ⟨h12, h3⟩ := bool_and h123
        obtain ⟨h1, h2⟩ := bool_and h12
        exact XM.cmp (x_chain hx.units (ck_ok a hx h1) (ck_ok b hx h2) (ck_ok d hx h3) (noMark h4)) (xt_chain hx.units (ck_ok a hx h1) (ck_ok b hx h2) (ck_ok d hx h3) (noMark h4)) rfl (dec_of h0)
      · cases h
  | .tup es, S, X, W, m, e, hx, h => by
    rw [ck] at h
    have hh := bool_and h; clear h; obtain ⟨h0, h⟩ := hh
    cases hq : asTup e with
    | none => rw [hq] at h; cases h
    | some q =>
      rw [hq] at h
      obtain ⟨kk, pos, rfl⟩ := asTup_eq hq
      exact XM.val (x_tup (ckL_ok es hx h).1) rfl (dec_of h0)
  | .lst es, S, X, W, m, e, hx, h => by
    rw [ck] at h
    cases hq : asLst e with
    | none => rw [hq] at h; cases h
    | some q =>
      rw [hq] at h
      obtain ⟨pos, rfl⟩ := asLst_eq hq
      exact XM.lst (x_lstO (ckL_ok es hx h).1) rfl
  | .ix a b, S, X, W, m, e, hx, h => by
    rw [ck] at h
    have hh := bool_and h; clear h; obtain ⟨h0, h⟩ := hh
    cases hq : asSub e with
    | none => rw [hq] at h; cases h
    | some q =>
      obtain ⟨a', b'⟩ := q
      rw [hq] at h
      obtain ⟨pos, rfl⟩ := asSub_eq hq
      obtain ⟨h12, h3⟩ := bool_and h
      obtain ⟨h1, h2⟩ := bool_and h12
      exact XM.val (x_ix hx.units (ck_ok a hx h2) (ck_ok b hx h3) (plainIx_of h1)) rfl (dec_of h0)
  | .sl a lo hi, S, X, W, m, e, hx, h => by
    rw [ck] at h
    cases hq : asSub e with
    | none => rw [hq] at h; cases h
    | some q =>
      obtain ⟨a', b'⟩ := q
      rw [hq] at h
      obtain ⟨pos, rfl⟩ := asSub_eq hq
      cases hq2 : asSlice b' with
      | none => simp only [hq2] at h; cases h
      | some q2 =>
        obtain ⟨lo', hi', st⟩ := q2
        simp only [hq2] at h
        obtain ⟨pos2, rfl⟩ := asSlice_eq hq2
        cases st with
        | some _ => cases h
        | none =>
          obtain ⟨h12, h3⟩ := bool_and h
          obtain ⟨h1, h2⟩ := bool_and h12
          exact XM.both (x_slO (ck_ok a hx h1) (ckO_ok lo hx h2) (ckO_ok hi hx h3)) (x_sl (ck_ok a hx h1) (ckO_ok lo hx h2) (ckO_ok hi hx h3)) rfl
  | .call f es, S, X, W, m, e, hx, h => by
    rw [ck] at h
    have hh := bool_and h; clear h; obtain ⟨h0, h⟩ := hh
    cases hq : asCallN e with
    | none => rw [hq] at h; cases h
    | some q =>
      obtain ⟨x, es'⟩ := q
      rw [hq] at h
      obtain ⟨p, pos, rfl⟩ := asCallN_eq hq
      obtain ⟨h12, h3⟩ := bool_and h
      obtain ⟨h1, h2⟩ := bool_and h12
      obtain ⟨g1, g2, g3⟩ := hx.gl h2
      obtain ⟨l1, l2⟩ := ckL_ok es hx h3
      have F := hx.fns x f (dec_of h1)
      cases es' with
      | nil =>
        cases es with
        | nil => exact XM.val (x_call0 F hx.room hx.grd hx.tk g1 g2) rfl (dec_of h0)
        | cons _ _ => simp [ckL] at h3
      | cons e1 r => exact XM.val (x_call F hx.room hx.grd hx.tk g1 g2 l1 l2) rfl (dec_of h0)
  | .fnm x, S, X, W, m, e, hx, h => by
    rw [ck] at h
    have hh := bool_and h; clear h; obtain ⟨h0, h⟩ := hh
    cases hq : asName e with
    | none => rw [hq] at h; cases h
    | some y =>
      rw [hq] at h
      obtain ⟨pos, rfl⟩ := asName_eq hq
      obtain ⟨h12, h3⟩ := bool_and h
      obtain ⟨h1, h2⟩ := bool_and h12
      have e1 : y = x := dec_of h1
      subst e1
      obtain ⟨f, hf⟩ := Option.isSome_iff_exists.mp h3
      obtain ⟨fa, fd, ps, _, hm, _, _⟩ := (hx.fns y f hf).ex
      obtain ⟨g1, g2, g3⟩ := hx.gl h2
      exact XM.val (x_con (v := .ref fa) (pe_glob g1 hm rfl g2) fun _ => .fnv hm) rfl (dec_of h0)
  | .callv fs i es, S, X, W, m, e, hx, h => by
    rw [ck] at h
    have hh := bool_and h; clear h; obtain ⟨h0, h⟩ := hh
    cases hq : asCallN e with
    | none => rw [hq] at h; cases h
    | some q =>
      obtain ⟨x, es'⟩ := q
      rw [hq] at h
      obtain ⟨p, pos, rfl⟩ := asCallN_eq hq
      obtain ⟨h123, h4⟩ := bool_and h
      obtain ⟨h12, h3⟩ := bool_and h123
      obtain ⟨h1, h2⟩ := bool_and h12
      obtain ⟨l1, l2⟩ := ckL_ok es hx h4
      have F : ∀ q ∈ fs, Cal S.grd X.prog X.w X.K X.mg X.base (3 * k) q.1 (spK (wd X) X.mg (callK P k q.2) (P q.2).np) := fun q hq => hx.fns q.1 q.2 (dec_of (List.all_eq_true.mp h2 q hq))
      cases es' with
      | nil => cases h3
      | cons e1 r =>
        exact XM.val (x_callv F hx.room hx.grd hx.tk (hx.var h1) l1 l2) rfl (dec_of h0)
  | .blt b es, S, X, W, m, e, hx, h => by
    rw [ck] at h
    cases hi : bltInfo b with
    | some q =>
      obtain ⟨nm, v⟩ := q
      rw [hi] at h
      cases hq : asCallN e with
      | none => rw [hq] at h; cases h
      | some q =>
        obtain ⟨x, es'⟩ := q
        rw [hq] at h
        obtain ⟨p, pos, rfl⟩ := asCallN_eq hq
        obtain ⟨h, h6⟩ := bool_and h
        obtain ⟨h1234, h5⟩ := bool_and h
        obtain ⟨h123, h4⟩ := bool_and h1234
        obtain ⟨h12, h3⟩ := bool_and h123
        obtain ⟨h1, h2⟩ := bool_and h12
        obtain rfl : nm = x := dec_of h1
        have bo := hx.bo h2
        obtain ⟨l1, l2⟩ := ckL_ok es hx h4
        cases es' with
        | nil => cases h3
        | cons e1 r =>
          have R := blt_rule hx.calm hx.units (fun z => hx.grd (by simpa [z] using h6)) hi
          cases v with
          | fn id =>
            cases hb : ownBlt b with
            | true => exact XM.lst (x_callBO (R.2.2 hb) bo R.1 l1 l2) rfl
            | false =>
              have hm : m ≠ .ow := by rw [hb] at h5; simpa using h5
              exact XM.val (x_callB (R.2.1 hb) bo R.1 l1 l2) rfl hm
          | ty T =>
            cases hb : ownBlt b with
            | true => exact XM.lst (x_callTyO (R.2.2 hb) bo R.1 l1 l2) rfl
            | false =>
              have hm : m ≠ .ow := by rw [hb] at h5; simpa using h5
              exact XM.val (x_callTy (R.2.1 hb) bo R.1 l1 l2) rfl hm
    | none =>
      rw [hi] at h
      cases hi2 : bltTwo b with
      | none =>
        rw [hi2] at h
        simp only at h
        cases b with
        | rev =>
          rw [if_pos (show bltD .rev = 0 from rfl)] at h
          obtain ⟨h2, h3⟩ := bool_and h
          cases hq : asRev e with
          | none => simp only [hq] at h3; cases h3
          | some a' =>
            simp only [hq] at h3
            obtain ⟨_, _, _, _, _, rfl⟩ := asRev_eq hq
            match es, h3 with
            | [x1], h6 =>
              rw [ckL, ckL] at h6
              obtain ⟨h6, _⟩ := bool_and h6
              obtain ⟨n1, c1⟩ := bool_and h6
              exact XM.val (x_rev (ck_ok x1 hx c1)) rfl (dec_of h2)
            | [], h6 => simp [ckL] at h6
            | _ :: _ :: _, h6 => simp [ckL] at h6
        | dnew =>
          rw [if_neg (show ¬ bltD .dnew = 0 by decide), if_pos (show bltD .dnew = 1 from rfl)] at h
          obtain ⟨h1, h2⟩ := bool_and h
          obtain ⟨pos, rfl⟩ := isNew_eq h2
          match es, h1 with
          | [], _ => exact XM.lst x_dnew rfl
          | _ :: _, h1 => cases h1
        | dnewI =>
          rw [if_neg (show ¬ bltD .dnewI = 0 by decide), if_pos (show bltD .dnewI = 1 from rfl)] at h
          obtain ⟨h1, h2⟩ := bool_and h
          obtain ⟨pos, rfl⟩ := isNew_eq h2
          match es, h1 with
          | [], _ => exact XM.lst x_dnewI rfl
          | _ :: _, h1 => cases h1
        | done =>
          rw [if_neg (show ¬ bltD .done = 0 by decide), if_neg (show ¬ bltD .done = 1 by decide), if_pos (show bltD .done = 2 from rfl)] at h
          cases hq : asSpl3 e with
          | none => simp only [hq] at h; cases h
          | some q =>
            obtain ⟨k', v'⟩ := q
            simp only [hq] at h
            obtain ⟨pos, rfl⟩ := asSpl3_eq hq
            match es, h with
            | [x1, x2], h6 =>
              rw [ckL, ckL, ckL] at h6
              obtain ⟨h6, h62⟩ := bool_and h6
              obtain ⟨n1, c1⟩ := bool_and h6
              obtain ⟨h62, _⟩ := bool_and h62
              obtain ⟨n2, c2⟩ := bool_and h62
              exact XM.lst ((x_done hx.units (ck_ok x1 hx c1) (ck_ok x2 hx c2)).as done_eq) rfl
            | [], h6 => simp [ckL] at h6
            | [_], h6 => simp [ckL] at h6
            | _ :: _ :: _ :: _, h6 => simp [ckL] at h6
        | valsD =>
          rw [if_neg (show ¬ bltD .valsD = 0 by decide), if_neg (show ¬ bltD .valsD = 1 by decide), if_neg (show ¬ bltD .valsD = 2 by decide), if_pos (show bltD .valsD = 3 from rfl)] at h
          cases hq : asCall1 e with
          | none => simp only [hq] at h; cases h
          | some q =>
            obtain ⟨x, e2⟩ := q
            simp only [hq] at h
            obtain ⟨p, pos, rfl⟩ := asCall1_eq hq
            cases hq2 : asMth0 e2 with
            | none => simp only [hq2] at h; cases h
            | some q2 =>
              obtain ⟨o, y⟩ := q2
              simp only [hq2] at h
              obtain ⟨apos, cpos, rfl, hline⟩ := asMth0_eq hq2
              obtain ⟨h, h5⟩ := bool_and h
              obtain ⟨h, h4⟩ := bool_and h
              obtain ⟨h, h3⟩ := bool_and h
              obtain ⟨h1, h2⟩ := bool_and h
              obtain rfl : x = "list" := dec_of h1
              obtain rfl : y = "values" := dec_of h3
              match es, h5 with
              | [x1], h6 =>
                rw [ckL, ckL] at h6
                obtain ⟨h6, _⟩ := bool_and h6
                obtain ⟨n1, c1⟩ := bool_and h6
                exact XM.lst (x_valsD hx.calm (hx.bo h2) (ck_ok x1 hx c1) (noCall0_base h4) hline) rfl
              | [], h6 => simp [ckL] at h6
              | _ :: _ :: _, h6 => simp [ckL] at h6
        | sumL =>
          rw [if_neg (show ¬ bltD .sumL = 0 by decide), if_neg (show ¬ bltD .sumL = 1 by decide), if_neg (show ¬ bltD .sumL = 2 by decide), if_neg (show ¬ bltD .sumL = 3 by decide), if_pos (show bltD .sumL = 4 from rfl)] at h
          cases hq : asSum e with
          | none => simp only [hq] at h; cases h
          | some q =>
            obtain ⟨x, a'⟩ := q
            simp only [hq] at h
            obtain ⟨p, lp, pos, rfl⟩ := asSum_eq hq
            obtain ⟨h, h3⟩ := bool_and h
            obtain ⟨h1, h2⟩ := bool_and h
            obtain rfl : x = "sum" := dec_of h1
            match es, h3 with
            | [x1], h6 =>
              rw [ckL, ckL] at h6
              obtain ⟨h6, _⟩ := bool_and h6
              obtain ⟨n1, c1⟩ := bool_and h6
              exact XM.lst (x_sumL hx.calm (hx.bo h2) (ck_ok x1 hx c1) n1) rfl
            | [], h6 => simp [ckL] at h6
            | _ :: _ :: _, h6 => simp [ckL] at h6
        | _ => first | (cases hi; done) | (cases hi2; done) | (simp [bltD] at h; done)
      | some q =>
        obtain ⟨nm, nm2, n⟩ := q
        rw [hi2] at h
        simp only at h
        cases hq : asCallN e with
        | none => rw [hq] at h; cases h
        | some q =>
          obtain ⟨x, es1⟩ := q
          rw [hq] at h
          match es1, h with
          | [e2], h =>
            obtain ⟨p, pos, rfl⟩ := asCallN_eq hq
            cases hq2 : asCallN e2 with
            | none => simp only [hq2] at h; cases h
            | some q2 =>
              obtain ⟨y, es'⟩ := q2
              simp only [hq2] at h
              obtain ⟨p2, pos2, rfl⟩ := asCallN_eq hq2
              obtain ⟨h1, h8⟩ := bool_and h
              obtain ⟨h1, h7⟩ := bool_and h1
              obtain ⟨h1, h6⟩ := bool_and h1
              obtain ⟨h1, h5⟩ := bool_and h1
              obtain ⟨h1, h4⟩ := bool_and h1
              obtain ⟨h1, h3⟩ := bool_and h1
              obtain ⟨h1, h2⟩ := bool_and h1
              obtain rfl : nm = x := dec_of h1
              obtain rfl : nm2 = y := dec_of h2
              have bo := hx.bo h3
              have bo2 := hx.bo h4
              have l5 := dec_of h5
              have l7 := dec_of h7
              cases b with
              | listRange1 =>
                cases hi2
                match es, es', l7, l5, h6 with
                | [x1], [a'], _, _, h6 =>
                  rw [ckL, ckL] at h6
                  obtain ⟨h6, _⟩ := bool_and h6
                  obtain ⟨n1, c1⟩ := bool_and h6
                  exact XM.lst (x_listRg1 hx.calm bo bo2 (ck_ok x1 hx c1) n1) rfl
              | listRange2 =>
                cases hi2
                match es, es', l7, l5, h6 with
                | [x1, x2], [a', b'], _, _, h6 =>
                  rw [ckL, ckL, ckL] at h6
                  obtain ⟨h6, h62⟩ := bool_and h6
                  obtain ⟨n1, c1⟩ := bool_and h6
                  obtain ⟨h62, _⟩ := bool_and h62
                  obtain ⟨n2, c2⟩ := bool_and h62
                  exact XM.lst ((x_listRg2 hx.calm bo bo2 (ck_ok x1 hx c1) (ck_ok x2 hx c2) n1 n2).as b2_eq) rfl
              | tupRange1 =>
                cases hi2
                match es, es', l7, l5, h6 with
                | [x1], [a'], _, _, h6 =>
                  rw [ckL, ckL] at h6
                  obtain ⟨h6, _⟩ := bool_and h6
                  obtain ⟨n1, c1⟩ := bool_and h6
                  exact XM.val (x_tupRg1 hx.calm bo bo2 (ck_ok x1 hx c1) n1) rfl (by simpa [ownBlt] using h8)
              | tupRange2 =>
                cases hi2
                match es, es', l7, l5, h6 with
                | [x1, x2], [a', b'], _, _, h6 =>
                  rw [ckL, ckL, ckL] at h6
                  obtain ⟨h6, h62⟩ := bool_and h6
                  obtain ⟨n1, c1⟩ := bool_and h6
                  obtain ⟨h62, _⟩ := bool_and h62
                  obtain ⟨n2, c2⟩ := bool_and h62
                  exact XM.val ((x_tupRg2 hx.calm bo bo2 (ck_ok x1 hx c1) (ck_ok x2 hx c2) n1 n2).as b2_eq) rfl (by simpa [ownBlt] using h8)
              | lenSet =>
                cases hi2
                match es, es', l7, l5, h6 with
                | [x1], [a'], _, _, h6 =>
                  rw [ckL, ckL] at h6
                  obtain ⟨h6, _⟩ := bool_and h6
                  obtain ⟨n1, c1⟩ := bool_and h6
                  exact XM.val (x_lenSet hx.calm bo bo2 (ck_ok x1 hx c1) n1) rfl (by simpa [ownBlt] using h8)
              | sortedSet =>
                cases hi2
                match es, es', l7, l5, h6 with
                | [x1], [a'], _, _, h6 =>
                  rw [ckL, ckL] at h6
                  obtain ⟨h6, _⟩ := bool_and h6
                  obtain ⟨n1, c1⟩ := bool_and h6
                  exact XM.lst (x_sortedSet hx.calm (by have := hx.units; omega) bo bo2 (ck_ok x1 hx c1) n1) rfl
              | lenSetN =>
                cases hi2
                match es, es', l7, l5, h6 with
                | [x1], [a'], _, _, h6 =>
                  rw [ckL, ckL] at h6
                  obtain ⟨h6, _⟩ := bool_and h6
                  obtain ⟨n1, c1⟩ := bool_and h6
                  exact XM.val (x_lenSetN hx.calm (by have := hx.units; omega) bo bo2 (ck_ok x1 hx c1) n1) rfl (by simpa [ownBlt] using h8)
              | sortedSetN =>
                cases hi2
                match es, es', l7, l5, h6 with
                | [x1], [a'], _, _, h6 =>
                  rw [ckL, ckL] at h6
                  obtain ⟨h6, _⟩ := bool_and h6
                  obtain ⟨n1, c1⟩ := bool_and h6
                  exact XM.lst (x_sortedSetN hx.calm (by have := hx.units; omega) bo bo2 (ck_ok x1 hx c1) n1) rfl
              | _ => cases hi2
          | [], h => cases h
          | _ :: _ :: _, h => cases h
  | .mth mt a es, S, X, W, m, e, hx, h => by
    rw [ck] at h
    have hh := bool_and h; clear h; obtain ⟨h0, h⟩ := hh
    cases hn : mthN mt with
    | none =>
      rw [hn] at h
      have hh := bool_and h; clear h; obtain ⟨hg, h⟩ := hh
      cases mt with
      | get2 =>
        cases hq : asMth2 e with
        | none => simp only [hq] at h; cases h
        | some q =>
          obtain ⟨o, x, e', f'⟩ := q
          simp only [hq] at h
          obtain ⟨apos, cpos, rfl, hline⟩ := asMth2_eq hq
          obtain ⟨h, h6⟩ := bool_and h
          obtain ⟨h, h5⟩ := bool_and h
          obtain ⟨h, h4⟩ := bool_and h
          obtain ⟨h, h3⟩ := bool_and h
          obtain ⟨h1, h2⟩ := bool_and h
          obtain rfl : x = "get" := dec_of h1
          match es, h6 with
          | [x1, x2], h6 =>
            rw [ckL, ckL, ckL] at h6
            obtain ⟨h6, h62⟩ := bool_and h6
            obtain ⟨n1, c1⟩ := bool_and h6
            obtain ⟨h62, _⟩ := bool_and h62
            obtain ⟨n2, c2⟩ := bool_and h62
            exact XM.val ((x_get2 hx.units (ck_ok a hx h5) (ck_ok x1 hx c1) (ck_ok x2 hx c2) n1 n2 (noCall0_base h2) hline).as get2_eq) rfl (dec_of h0)
          | [], h6 => simp [ckL] at h6
          | [_], h6 => simp [ckL] at h6
          | _ :: _ :: _ :: _, h6 => simp [ckL] at h6
      | _ => cases hg
    | some nm =>
      rw [hn] at h
      cases hq : asMth1 e with
      | none => simp only [hq] at h; cases h
      | some q =>
        obtain ⟨o, x, e'⟩ := q
        simp only [hq] at h
        obtain ⟨apos, cpos, rfl, hline⟩ := asMth1_eq hq
        obtain ⟨h, h5⟩ := bool_and h
        obtain ⟨h, h4⟩ := bool_and h
        obtain ⟨h, h3⟩ := bool_and h
        obtain ⟨h1, h2⟩ := bool_and h
        obtain rfl : nm = x := dec_of h1
        match es, h5 with
        | [x1], h6 =>
          rw [ckL, ckL] at h6
          obtain ⟨h6, _⟩ := bool_and h6
          obtain ⟨n1, c1⟩ := bool_and h6
          cases mt <;> first | (cases hn; done) | skip
          · cases hn
            exact XM.val (x_count hx.units (ck_ok a hx h4) (ck_ok x1 hx c1) n1 (noCall0_base h2) hline) rfl (dec_of h0)
          · cases hn
            exact XM.val (x_index hx.units (ck_ok a hx h4) (ck_ok x1 hx c1) n1 (noCall0_base h2) hline) rfl (dec_of h0)
          · cases hn
            exact XM.val ((x_get1 hx.units (ck_ok a hx h4) (ck_ok x1 hx c1) n1 (noCall0_base h2) hline).as get1_eq) rfl (dec_of h0)
        | [], h6 => simp [ckL] at h6
        | _ :: _ :: _, h6 => simp [ckL] at h6
  | .dcat a b, S, X, W, m, e, hx, h => by
    rw [ck] at h
    cases hq : asSpl1 e with
    | none => rw [hq] at h; cases h
    | some q =>
      obtain ⟨a', b'⟩ := q
      rw [hq] at h
      obtain ⟨pos, rfl⟩ := asSpl1_eq hq
      obtain ⟨h1, h2⟩ := bool_and h
      exact XM.lst (x_dcat hx.units (ck_ok a hx h1) (ck_ok b hx h2)) rfl
  | .dadd a k v, S, X, W, m, e, hx, h => by
    rw [ck] at h
    cases hq : asSpl2 e with
    | none => rw [hq] at h; cases h
    | some q =>
      obtain ⟨a', k', v'⟩ := q
      rw [hq] at h
      obtain ⟨pos, rfl⟩ := asSpl2_eq hq
      obtain ⟨h, h3⟩ := bool_and h
      obtain ⟨h1, h2⟩ := bool_and h
      exact XM.lst (x_dadd hx.units (ck_ok a hx h1) (ck_ok k hx h2) (ck_ok v hx h3)) rfl
  | .pick ks es a, S, X, W, m, e, hx, h => by
    rw [ck] at h
    have hh := bool_and h; clear h; obtain ⟨h0, h⟩ := hh
    cases hq : asSub e with
    | none => rw [hq] at h; cases h
    | some q =>
      obtain ⟨d, b'⟩ := q
      rw [hq] at h
      obtain ⟨pos, rfl⟩ := asSub_eq hq
      cases hd : asDict d with
      | none => simp only [hd] at h; cases h
      | some q =>
        obtain ⟨keys, vals⟩ := q
        simp only [hd] at h
        obtain ⟨dp, rfl⟩ := asDict_eq hd
        obtain ⟨h, h9⟩ := bool_and h
        obtain ⟨h, h8⟩ := bool_and h
        obtain ⟨h, h7⟩ := bool_and h
        obtain ⟨h, h6⟩ := bool_and h
        obtain ⟨h, h5⟩ := bool_and h
        obtain ⟨h, h4⟩ := bool_and h
        obtain ⟨h, h3⟩ := bool_and h
        obtain ⟨h1, h2⟩ := bool_and h
        exact XM.val (x_pick (by have := hx.units; omega) (ckP_ok es hx h8) (ck_ok a hx h9) (noSl_of h1) h7 (dec_of h2) (fun z => by rw [z] at h3; cases h3) (dec_of h4) (dec_of h5) (dec_of h6)) rfl (dec_of h0)
  | .isin a t, S, X, W, m, e, hx, h => by
    rw [ck] at h
    have hh := bool_and h; clear h; obtain ⟨h0, h⟩ := hh
    cases hq : asCallN e with
    | none => rw [hq] at h; cases h
    | some q =>
      obtain ⟨x, es1⟩ := q
      rw [hq] at h
      match es1, h with
      | [a', t'], h =>
        obtain ⟨p, pos, rfl⟩ := asCallN_eq hq
        cases hq2 : asName t' with
        | none => simp only [hq2] at h; cases h
        | some y =>
          simp only [hq2] at h
          obtain ⟨p2, rfl⟩ := asName_eq hq2
          obtain ⟨h1, h6⟩ := bool_and h
          obtain ⟨h1, h5⟩ := bool_and h1
          obtain ⟨h1, h4⟩ := bool_and h1
          obtain ⟨h1, h3⟩ := bool_and h1
          obtain ⟨h1, h2⟩ := bool_and h1
          obtain rfl : x = "isinstance" := dec_of h1
          obtain rfl : y = tyN t := dec_of h2
          exact XM.val (x_isin t (hx.bo h3) (hx.bo h4) (ck_ok a hx h6) h5) rfl (dec_of h0)
      | [], h => cases h
      | [_], h => cases h
      | _ :: _ :: _ :: _, h => cases h
  | .comp vs el t it cond, S, X, W, m, e, hx, h => by
    rw [ck] at h
    cases hq : asComp e with
    | none => rw [hq] at h; cases h
    | some q =>
      obtain ⟨el', gs, sc⟩ := q
      rw [hq] at h
      obtain ⟨pos, rfl⟩ := asComp_eq hq
      split at h
      · rename_i heq
        cases heq
        obtain ⟨h, h8⟩ := bool_and h
        obtain ⟨h, h7⟩ := bool_and h
        obtain ⟨h, h6⟩ := bool_and h
        obtain ⟨h, h5⟩ := bool_and h
        obtain ⟨h, h4⟩ := bool_and h
        obtain ⟨h, h3⟩ := bool_and h
        obtain ⟨h1, h2⟩ := bool_and h
        have e1 := dec_of h1
        have B := blk_ok hx h2
        have e3 : ∀ i ∈ t.vars, i ∈ (ownOf S vs).map (·.2) := fun i hi => by rw [e1]; exact dec_of (List.all_eq_true.mp h3 i hi)
        have q := x_comp (pos := pos) hx.calm hx.nd (ckI_ok it hx h5) B e3 (fun s H C cl fp => ckTg_ok t (hx.blk B.kind s H C cl fp) h4) (fun s H C cl fp => ckIf_ok cond (hx.blk B.kind s H C cl fp) h7) (fun s H C cl fp => ck_ok el (hx.blk B.kind s H C cl fp) h8) (notSet_fold h6 _)
        rw [e1] at q
        exact XM.lst q rfl
      · cases h
  | .comp2 vs vs1 el t it cond t1 it1 cond1, S, X, W, m, e, hx, h => by
    rw [ck] at h
    cases hq : asComp e with
    | none => rw [hq] at h; cases h
    | some q =>
      obtain ⟨el', gs, sc⟩ := q
      rw [hq] at h
      obtain ⟨pos, rfl⟩ := asComp_eq hq
      split at h
      · rename_i heq
        cases heq
        obtain ⟨h, k8⟩ := bool_and h
        obtain ⟨h, k7⟩ := bool_and h
        obtain ⟨h, k6⟩ := bool_and h
        obtain ⟨h, k5⟩ := bool_and h
        obtain ⟨h, k4⟩ := bool_and h
        obtain ⟨h, h7⟩ := bool_and h
        obtain ⟨h, h6⟩ := bool_and h
        obtain ⟨h, h5⟩ := bool_and h
        obtain ⟨h, h4⟩ := bool_and h
        obtain ⟨h, k2⟩ := bool_and h
        obtain ⟨h, k1⟩ := bool_and h
        obtain ⟨h, h3⟩ := bool_and h
        obtain ⟨h1, h2⟩ := bool_and h
        have e1 := dec_of h1
        have B := blk_ok hx h2
        have e3 : ∀ i ∈ t.vars, i ∈ (ownOf S vs).map (·.2) := fun i hi => by rw [e1]; exact dec_of (List.all_eq_true.mp h3 i hi)
        have e4 : ∀ i ∈ t1.vars, i ∈ vs1 := fun i hi => dec_of (List.all_eq_true.mp k1 i hi)
        have e5 : ∀ i ∈ vs1, i ∈ (ownOf S vs).map (·.2) := fun i hi => by rw [e1]; exact dec_of (List.all_eq_true.mp k2 i hi)
        have q := x_comp2 (pos := pos) hx.calm hx.nd (ckI_ok it hx h5) B e3 e4 e5 (fun s H C cl fp => ckTg_ok t (hx.blk B.kind s H C cl fp) h4) (fun s H C cl fp => ckIf_ok cond (hx.blk B.kind s H C cl fp) h7)
          (fun s H C cl fp => ckI_ok it1 (hx.blk B.kind s H C cl fp) k5) (fun s H C cl fp => ckTg_ok t1 (hx.blk B.kind s H C cl fp) k4) (fun s H C cl fp => ckIf_ok cond1 (hx.blk B.kind s H C cl fp) k7) (fun s H C cl fp => ck_ok el (hx.blk B.kind s H C cl fp) k8) (notSet_fold h6 _) (notSet_fold k6)
        rw [e1] at q
        exact XM.lst q rfl
      · cases h
theorem ckL_ok : ∀ (es : List (Ex FN)) {S : SC FN} {X : Cx} {W : WX} {m : Md} {el : List Expr}, SX P k S X W → ckL es S m el = true → (match m with
    | .vl => XA X W el (evalEs (callK P k) es)
    | .br => XAb X W el (evalEs (callK P k) es)
    | _ => True) ∧ el.all notStar = true
  | [], S, X, W, m, [], hx, h => ⟨by cases m <;> first | exact xa_nil | exact xab_nil | trivial, rfl⟩
  | [], S, X, W, m, _ :: _, hx, h => by simp [ckL] at h
  | _ :: _, S, X, W, m, [], hx, h => by simp [ckL] at h
  | x :: xs, S, X, W, m, e :: es, hx, h => by
    rw [ckL] at h
    obtain ⟨h, h3⟩ := bool_and h
    obtain ⟨h1, h2⟩ := bool_and h
    obtain ⟨q1, q2⟩ := ckL_ok xs hx h3
    have q := ck_ok x hx h2
    refine ⟨?_, by rw [List.all_cons, h1, q2]; rfl⟩
    cases m with
    | vl => exact xa_cons q q1 (star_cons h1)
    | br => exact xab_cons q q1 (star_cons h1)
    | ow => trivial
    | ts => trivial
theorem ckP_ok : ∀ (es : List (Ex FN)) {ks : List Str} {S : SC FN} {X : Cx} {W : WX} {keys : List (Option Expr)} {vals : List Expr} {dp : Pos}, SX P k S X W → ckP es ks S keys vals = true → XPr X W dp keys vals ks (evalEs (callK P k) es)
  | [], [], S, X, W, [], [], dp, hx, h => xpr_nil
  | [], [], S, X, W, _ :: _, _, dp, hx, h => by simp [ckP] at h
  | [], [], S, X, W, [], _ :: _, dp, hx, h => by simp [ckP] at h
  | [], _ :: _, S, X, W, _, _, dp, hx, h => by simp [ckP] at h
  | _ :: _, [], S, X, W, _, _, dp, hx, h => by simp [ckP] at h
  | _ :: _, _ :: _, S, X, W, [], _, dp, hx, h => by simp [ckP] at h
  | _ :: _, _ :: _, S, X, W, _ :: _, [], dp, hx, h => by simp [ckP] at h
  | x :: xs, k1 :: ks, S, X, W, key :: keys, v :: vals, dp, hx, h => by
    rw [ckP] at h
    obtain ⟨h, h3⟩ := bool_and h
    obtain ⟨h1, h2⟩ := bool_and h
    obtain ⟨j, p, rfl⟩ := asKey_eq (dec_of h1)
    exact xpr_cons (ck_ok x hx h2) (ckP_ok xs hx h3)
theorem ckO_ok : ∀ (o : Option (Ex FN)) {S : SC FN} {X : Cx} {W : WX} {e : Option Expr}, SX P k S X W → ckO o S e = true → XP X W e (evalO (callK P k) o)
  | none, S, X, W, none, hx, h => xp_none
  | none, S, X, W, some _, hx, h => by simp [ckO] at h
  | some _, S, X, W, none, hx, h => by simp [ckO] at h
  | some x, S, X, W, some e, hx, h => by
    rw [ckO] at h
    exact xp_some (ck_ok x hx h)
theorem ckIf_ok : ∀ (o : Option (Ex FN)) {S : SC FN} {X : Cx} {W : WX} {ifs : List Expr}, SX P k S X W → ckIf o S ifs = true → XTs X W ifs (condR (callK P k) o)
  | none, S, X, W, [], hx, h => xts_nil
  | none, S, X, W, _ :: _, hx, h => by simp [ckIf] at h
  | some _, S, X, W, [], hx, h => by simp [ckIf] at h
  | some _, S, X, W, _ :: _ :: _, hx, h => by simp [ckIf] at h
  | some x, S, X, W, [e], hx, h => by
    rw [ckIf] at h
    exact xts_one (ck_ok x hx h).1
theorem ckI_ok : ∀ (it : Ie FN) {S : SC FN} {X : Cx} {W : WX} {tg e : Expr}, SX P k S X W → ckI it S tg e = true → XI X W tg e (evalI (callK P k) it)
  | .seq x, S, X, W, tg, e, hx, h => by
    rw [ckI] at h
    exact xi_seq (ck_ok x hx h)
  | .range1 a, S, X, W, tg, e, hx, h => by
    rw [ckI] at h
    cases hq : asCallN e with
    | none => rw [hq] at h; cases h
    | some q =>
      obtain ⟨x, es1⟩ := q
      rw [hq] at h
      match es1, h with
      | [a'], h =>
        obtain ⟨p, pos, rfl⟩ := asCallN_eq hq
        obtain ⟨h, h4⟩ := bool_and h
        obtain ⟨h, h3⟩ := bool_and h
        obtain ⟨h1, h2⟩ := bool_and h
        obtain rfl : x = "range" := dec_of h1
        exact xi_range1 (hx.bo h2) (ck_ok a hx h4) h3
      | [], h => cases h
      | _ :: _ :: _, h => cases h
  | .range2 a b, S, X, W, tg, e, hx, h => by
    rw [ckI] at h
    cases hq : asCallN e with
    | none => rw [hq] at h; cases h
    | some q =>
      obtain ⟨x, es1⟩ := q
      rw [hq] at h
      match es1, h with
      | [a', b'], h =>
        obtain ⟨p, pos, rfl⟩ := asCallN_eq hq
        obtain ⟨h, h6⟩ := bool_and h
        obtain ⟨h, h5⟩ := bool_and h
        obtain ⟨h, h4⟩ := bool_and h
        obtain ⟨h, h3⟩ := bool_and h
        obtain ⟨h1, h2⟩ := bool_and h
        obtain rfl : x = "range" := dec_of h1
        exact xi_range2 (hx.bo h2) (ck_ok a hx h5) (ck_ok b hx h6) h3 h4
      | [], h => cases h
      | [_], h => cases h
      | _ :: _ :: _ :: _, h => cases h
  | .zip a b, S, X, W, tg, e, hx, h => by
    rw [ckI] at h
    have hh := bool_and h; clear h; obtain ⟨h0, h⟩ := hh
    obtain ⟨tl, ht⟩ := Option.isSome_iff_exists.mp h0
    obtain ⟨kk, tpos, rfl⟩ := asTup_eq ht
    cases hq : asCallN e with
    | none => rw [hq] at h; cases h
    | some q =>
      obtain ⟨x, es1⟩ := q
      rw [hq] at h
      match es1, h with
      | [a', b'], h =>
        obtain ⟨p, pos, rfl⟩ := asCallN_eq hq
        obtain ⟨h, h6⟩ := bool_and h
        obtain ⟨h, h5⟩ := bool_and h
        obtain ⟨h, h4⟩ := bool_and h
        obtain ⟨h, h3⟩ := bool_and h
        obtain ⟨h1, h2⟩ := bool_and h
        obtain rfl : x = "zip" := dec_of h1
        exact xi_zip (hx.bo h2) (ck_ok a hx h5) (ck_ok b hx h6) h3 h4
      | [], h => cases h
      | [_], h => cases h
      | _ :: _ :: _ :: _, h => cases h
  | .enum a, S, X, W, tg, e, hx, h => by
    rw [ckI] at h
    have hh := bool_and h; clear h; obtain ⟨h0, h⟩ := hh
    obtain ⟨tl, ht⟩ := Option.isSome_iff_exists.mp h0
    obtain ⟨kk, tpos, rfl⟩ := asTup_eq ht
    cases hq : asCallN e with
    | none => rw [hq] at h; cases h
    | some q =>
      obtain ⟨x, es1⟩ := q
      rw [hq] at h
      match es1, h with
      | [a'], h =>
        obtain ⟨p, pos, rfl⟩ := asCallN_eq hq
        obtain ⟨h, h4⟩ := bool_and h
        obtain ⟨h, h3⟩ := bool_and h
        obtain ⟨h1, h2⟩ := bool_and h
        obtain rfl : x = "enumerate" := dec_of h1
        exact xi_enum (hx.bo h2) (ck_ok a hx h4) h3
      | [], h => cases h
      | _ :: _ :: _, h => cases h
end
end
end PP

set_option Elab.async false
set_option linter.all false
set_option maxRecDepth 100000
/-! PP18: the checker of statements. -/
namespace PP
open PySem PySem.Spec PyProof.Rows L2

/-! ### which stores are swapped -/
def isLC : Expr → Bool
  | .ListComp _ _ _ _ => true
  | _ => false
def noSD : Expr → Bool
  | .SetComp _ _ _ _ => false
  | .DictComp _ _ _ _ _ => false
  | _ => true
section
variable {FN : Type} [DecidableEq FN] {P : FN → FnP FN} {k : Nat}
def swN (S : SC FN) (t : Str) (p : Pos) (e : Expr) : Bool := match e with
  | .ListComp _ _ sc pos => (S.names.lookup t == some NameKind.local) && p.line == pos.line && !(sc.names.any fun (n, k) => n == t && (k == .local || k == .cell))
  | _ => false
theorem bk_fn {X : Cx} (h : X.env.scope.kind = .function) : X.env.blockKind = .function := by
  unfold Env.blockKind
  rw [h]; rfl
theorem swN_ok {S : SC FN} {X : Cx} {W : WX} (hx : SX P k S X W) {t : Str} {p : Pos} {e : Expr} {line : Nat} (h : noSD e = true) : swapsWith e (some (.Name t p)) line X.env = pure (swN S t p e) := by
  cases e <;> first | rfl | (cases h; done) | skip
  rename_i el gs sc pos
  show (pure (X.env.blockKind == .function && X.env.kindOf t == some .local && p.line == pos.line && !(sc.names.any fun (n, k) => n == t && (k == .local || k == .cell))) : Sem Bool) = _
  unfold Env.kindOf
  rw [bk_fn hx.kind, hx.sc]
  rfl
theorem swT_ok {env : PySem.Env} {tg e : Expr} {line : Nat} (h : noSD e = true) (hn : (asName tg).isNone = true) : swapsWithSole [tg] e line env = pure false := by
  show swapsWith e (some tg) line env = pure false
  cases e <;> first | rfl | (cases h; done) | skip
  cases tg <;> first | rfl | (simp [asName] at hn)
theorem swE_ok {env : PySem.Env} {e : Expr} {line : Nat} (h : noSD e = true) (h2 : isLC e = false) : swapsWith e none line env = pure false := by
  cases e <;> first | rfl | (cases h; done) | (cases h2; done)
def namesL (S : SC FN) (line : Nat) (ts : List Expr) : List Str := ts.filterMap fun
    | .Name id pos => if S.names.lookup id == some .local && pos.line == line then some id else none
    | _ => none
/-- stores from the right: no, or these names (none: not told) -/
def swS (S : SC FN) (tg e : Expr) : Option (Option (List Str)) := match tg, e with
  | .Tuple ts _ _, .Tuple vs _ _ =>
    if !(ts.length == 2 || ts.length == 3) || vs.length != ts.length then some none
    else if vs.any fun | .Starred .. => true | _ => false then some none
    else if (namesL S ((ts.head?.map (·.pos.line)).getD 0) ts).length != ts.length || (namesL S ((ts.head?.map (·.pos.line)).getD 0) ts).eraseDups.length != (namesL S ((ts.head?.map (·.pos.line)).getD 0) ts).length then some none
    else if vs.all (foldedForSure 8) then some none
    else if vs.all (constantsAlone 8) then none
    else some (some (namesL S ((ts.head?.map (·.pos.line)).getD 0) ts))
  | .List _ _, .Tuple _ _ _ => none
  | _, _ => some none
theorem namesL_eq {S : SC FN} {X : Cx} {W : WX} (hx : SX P k S X W) {line : Nat} : ∀ (ts : List Expr), (ts.filterMap fun
    | .Name id pos => if X.env.kindOf id == some .local && pos.line == line then some id else none
    | _ => none) = namesL S line ts := by
  intro ts
  unfold namesL Env.kindOf
  rw [hx.sc]
theorem swS_ok {S : SC FN} {X : Cx} {W : WX} (hx : SX P k S X W) {tg e : Expr} {o : Option (List Str)} (h : swS S tg e = some o) : swappedStores [tg] e X.env = pure o := by
  unfold swS at h
  split at h
  · rename_i ts kk p vs kk2 p2
    unfold swappedStores
    simp only [bk_fn hx.kind]
    split at h
    · cases h
      rename_i hc
      simp only [bne_self_eq_false, Bool.or_false, hc, if_true]
    · rename_i hc
      simp only [bne_self_eq_false, Bool.or_false]
      rw [if_neg hc]
      split at h
      · cases h
        rename_i hc2
        exact if_pos hc2
      · rename_i hc2
        refine (if_neg hc2).trans ?_
        have key : ∀ L : List Str, L = namesL S ((ts.head?.map (·.pos.line)).getD 0) ts → (if (L.length != ts.length || L.eraseDups.length != L.length) = true then pure none else if vs.all (foldedForSure 8) = true then pure none else if vs.all (constantsAlone 8) = true then (do unsupported "assign.tuple-of-constant-expressions:order-of-the-stores"; pure (some L)) else pure (some L) : Sem (Option (List Str))) = pure o := by
          rintro L rfl
          split at h
          · cases h
            rename_i hc3
            rw [if_pos hc3]
          · rename_i hc3
            rw [if_neg hc3]
            split at h
            · cases h
              rename_i hc4
              rw [if_pos hc4]
            · rename_i hc4
              rw [if_neg hc4]
              split at h
              · cases h
              · cases h
                rename_i hc5
                rw [if_neg hc5]
        exact key _ (namesL_eq hx ts)
  · cases h
  · cases h
    rename_i h1 h2
    cases tg <;> cases e <;> first | rfl | (exact absurd rfl (h1 _ _ _ _ _ _ rfl)) | (exact (h1 _ _ _ _ _ _ rfl rfl).elim) | (exact (h2 _ _ _ _ _ rfl rfl).elim)
/-! ### looks at statements -/
/-- d[y], d[z] -/
def asSwp : Expr → Option (Str × Str × Str × Str)
  | .Tuple [.Subscript (.Name x _) (.Name y _) _, .Subscript (.Name x2 _) (.Name z _) _] _ _ => some (x, y, x2, z)
  | _ => none
theorem asSwp_eq {e : Expr} {x y x2 z : Str} (h : asSwp e = some (x, y, x2, z)) : ∃ p q3 q5 q2 q4 q6 kt pt, e = .Tuple [.Subscript (.Name x p) (.Name y q3) q5, .Subscript (.Name x2 q2) (.Name z q4) q6] kt pt := by
  unfold asSwp at h
  split at h <;> cases h
  exact ⟨_, _, _, _, _, _, _, _, rfl⟩
def asAsg : Stmt → Option (Expr × Expr)
  | .Assign [tg] e _ => some (tg, e)
  | _ => none
theorem asAsg_eq {st : Stmt} {tg e : Expr} (h : asAsg st = some (tg, e)) : ∃ pos, st = .Assign [tg] e pos := by
  unfold asAsg at h
  split at h <;> cases h
  exact ⟨_, rfl⟩
def asExp : Stmt → Option Expr
  | .Expr e _ => some e
  | _ => none
theorem asExp_eq {st : Stmt} {e : Expr} (h : asExp st = some e) : ∃ pos, st = .Expr e pos := by
  unfold asExp at h
  split at h <;> cases h
  exact ⟨_, rfl⟩
def asRet : Stmt → Option Expr
  | .Return (some e) _ => some e
  | _ => none
theorem asRet_eq {st : Stmt} {e : Expr} (h : asRet st = some e) : ∃ pos, st = .Return (some e) pos := by
  unfold asRet at h
  split at h <;> cases h
  exact ⟨_, rfl⟩
def asIfS : Stmt → Option (Expr × List Stmt × List Stmt)
  | .If c a b _ => some (c, a, b)
  | _ => none
theorem asIfS_eq {st : Stmt} {c : Expr} {a b : List Stmt} (h : asIfS st = some (c, a, b)) : ∃ pos, st = .If c a b pos := by
  unfold asIfS at h
  split at h <;> cases h
  exact ⟨_, rfl⟩
def asFor : Stmt → Option (Expr × Expr × List Stmt)
  | .For tg it b [] _ => some (tg, it, b)
  | _ => none
theorem asFor_eq {st : Stmt} {c a : Expr} {b : List Stmt} (h : asFor st = some (c, a, b)) : ∃ pos, st = .For c a b [] pos := by
  unfold asFor at h
  split at h <;> cases h
  exact ⟨_, rfl⟩
def asWhl : Stmt → Option (Expr × List Stmt)
  | .While c b [] _ => some (c, b)
  | _ => none
theorem asWhl_eq {st : Stmt} {c : Expr} {b : List Stmt} (h : asWhl st = some (c, b)) : ∃ pos, st = .While c b [] pos := by
  unfold asWhl at h
  split at h <;> cases h
  exact ⟨_, rfl⟩
def asAddPop : Expr → Option (Str × Str × Expr)
  | .BinOp (.Name y _) .Add (.Tuple [.Call (.Attribute (.Name x _) m apos) [e] [] cpos] _ _) _ => if apos.endLine == cpos.line && decide (m = "pop") then some (y, x, e) else none
  | _ => none
theorem asAddPop_eq {z e : Expr} {x y : Str} (h : asAddPop z = some (y, x, e)) : ∃ pk2 p apos cpos tk tpos opos, z = .BinOp (.Name y pk2) .Add (.Tuple [.Call (.Attribute (.Name x p) "pop" apos) [e] [] cpos] tk tpos) opos ∧ (apos.endLine == cpos.line) = true := by
  unfold asAddPop at h
  split at h
  · split at h
    · rename_i hq
      cases h
      rw [Bool.and_eq_true] at hq
      obtain ⟨h1, h2⟩ := hq
      have h3 := of_decide_eq_true h2
      subst h3
      exact ⟨_, _, _, _, _, _, _, rfl, h1⟩
    · cases h
  · cases h
/-- a method of a name, on one line -/
def asMth : Expr → Option (Str × Str × List Expr)
  | .Call (.Attribute (.Name x _) m apos) es [] cpos => if apos.endLine == cpos.line then some (x, m, es) else none
  | _ => none
theorem asMth_eq {e : Expr} {x m : Str} {es : List Expr} (h : asMth e = some (x, m, es)) : ∃ p apos cpos, e = .Call (.Attribute (.Name x p) m apos) es [] cpos ∧ (apos.endLine == cpos.line) = true := by
  unfold asMth at h
  split at h
  · split at h <;> cases h
    exact ⟨_, _, _, rfl, by assumption⟩
  · cases h
def asNameP : Expr → Option (Str × Pos)
  | .Name x p => some (x, p)
  | _ => none
theorem asNameP_eq {e : Expr} {x : Str} {p : Pos} (h : asNameP e = some (x, p)) : e = .Name x p := by
  unfold asNameP at h
  split at h <;> cases h
  rfl
theorem asNameP_no {e : Expr} (h : asNameP e = none) : (asName e).isNone = true := by
  cases e <;> first | rfl | (simp [asNameP] at h)
def asPar : Expr → Expr → Option (Str × Str × Expr × Expr)
  | .Tuple [.Name x _, .Name y _] _ _, .Tuple [a, b] _ _ => some (x, y, a, b)
  | _, _ => none
theorem asPar_eq {tg e : Expr} {x y : Str} {a b : Expr} (h : asPar tg e = some (x, y, a, b)) : ∃ px py kt pt k2 pt2, tg = .Tuple [.Name x px, .Name y py] kt pt ∧ e = .Tuple [a, b] k2 pt2 := by
  unfold asPar at h
  split at h <;> cases h
  exact ⟨_, _, _, _, _, _, rfl, rfl⟩
def asPar3 : Expr → Expr → Option ((Str × Str × Str) × (Expr × Expr × Expr))
  | .Tuple [.Name x _, .Name y _, .Name z _] _ _, .Tuple [a, b, d] _ _ => some ((x, y, z), (a, b, d))
  | _, _ => none
theorem asPar3_eq {tg e : Expr} {x y z : Str} {a b d : Expr} (h : asPar3 tg e = some ((x, y, z), (a, b, d))) : ∃ px py pz kt pt k2 pt2, tg = .Tuple [.Name x px, .Name y py, .Name z pz] kt pt ∧ e = .Tuple [a, b, d] k2 pt2 := by
  unfold asPar3 at h
  split at h <;> cases h
  exact ⟨_, _, _, _, _, _, _, rfl, rfl⟩
def asSubT : Expr → Option (Str × Expr)
  | .Subscript (.Name x _) key _ => some (x, key)
  | _ => none
theorem asSubT_eq {e key : Expr} {x : Str} (h : asSubT e = some (x, key)) : ∃ p p2, e = .Subscript (.Name x p) key p2 := by
  unfold asSubT at h
  split at h <;> cases h
  exact ⟨_, _, rfl⟩
theorem noSlice {key : Expr} (h : (asSlice key).isNone = true) : ∀ lo hi st q, key ≠ .Slice lo hi st q := by
  rintro lo hi st q rfl
  simp [asSlice] at h
def asCupT : Expr → Option (Str × Int)
  | .Subscript (.Name x _) (.Constant (.int j) _ _) _ => some (x, j)
  | _ => none
theorem asCupT_eq {e : Expr} {x : Str} {j : Int} (h : asCupT e = some (x, j)) : ∃ p jj cp p2, e = .Subscript (.Name x p) (.Constant (.int j) jj cp) p2 := by
  unfold asCupT at h
  split at h <;> cases h
  exact ⟨_, _, _, _, rfl⟩
/-- raise X('..') -/
def asRse : Stmt → Option Str
  | .Raise (some (.Call (.Name x _) [.Constant (.str _) _ _] [] _)) none _ => some x
  | _ => none
theorem asRse_eq {st : Stmt} {x : Str} (h : asRse st = some x) : ∃ p m j q r pos, st = .Raise (some (.Call (.Name x p) [.Constant (.str m) j q] [] r)) none pos := by
  unfold asRse at h
  split at h <;> cases h
  exact ⟨_, _, _, _, _, _, rfl⟩
/-- raise X(e) -/
def asRsa : Stmt → Option (Str × Expr)
  | .Raise (some (.Call (.Name x _) [e] [] _)) none _ => some (x, e)
  | _ => none
theorem asRsa_eq {st : Stmt} {x : Str} {e : Expr} (h : asRsa st = some (x, e)) : ∃ p r pos, st = .Raise (some (.Call (.Name x p) [e] [] r)) none pos := by
  unfold asRsa at h
  split at h <;> cases h
  exact ⟨_, _, _, rfl⟩
/-- try: return e / except .. -/
def asTryR : Stmt → Option Expr
  | .Try [.Return (some e) _] (_ :: _) [] [] _ => some e
  | _ => none
theorem asTryR_eq {st : Stmt} {e : Expr} (h : asTryR st = some e) : ∃ p h0 hds pos, st = .Try [.Return (some e) p] (h0 :: hds) [] [] pos := by
  unfold asTryR at h
  split at h <;> cases h
  exact ⟨_, _, _, _, rfl⟩
/-- within a try -/
def SC.inT {FN : Type} (S : SC FN) : SC FN := { S with lam := false, top := false }
def isComp : Ex FN → Bool
  | .comp _ _ _ _ _ => true
  | .comp2 _ _ _ _ _ _ _ _ _ => true
  | _ => false
def mdOf (o : Bool) : Md := if o then .ow else .vl
mutual
def ckS : Sm FN → SC FN → Stmt → Bool
  | .bad, _, _ => true
  | .asg t e, S, st => (match asAsg st with
    | some (tg, e') => noSD e' && notStar tg && ckTg t S tg && ck e S .vl e' && (match asNameP tg with
      | some (x, p) => !swN S x p e' || isComp e
      | none => decide (swS S tg e' = some none))
    | none => false)
  | .own i e, S, st => (match asAsg st with
    | some (tg, e') => noSD e' && ck e S .ow e' && (match asNameP tg with
      | some (x, p) => S.sto i x && (!swN S x p e' || isComp e)
      | none => false)
    | none => false)
  | .par oi i a oj j b, S, st => (match asAsg st with
    | some (tg, e') => (match asPar tg e' with
      | some (x, y, a', b') => decide (swS S tg e' = some (some [x, y])) && decide (S.N[i]? = some x) && decide (S.N[j]? = some y) && decide (i ≠ j) && decide (S.names.lookup x = some .local) && decide (S.names.lookup y = some .local) &&
          notStar a' && notStar b' && ck a S (mdOf oi) a' && ck b S (mdOf oj) b'
      | none => false)
    | none => false)
  | .par3 i a j b l d, S, st => (match asAsg st with
    | some (tg, e') => (match asPar3 tg e' with
      | some ((x, y, z), (a', b', d')) => decide (swS S tg e' = some (some [x, y, z])) && (decide (S.N[i]? = some x) && decide (S.N[j]? = some y) && decide (S.N[l]? = some z)) && (decide (i ≠ j) && decide (i ≠ l) && decide (j ≠ l)) &&
          (decide (S.names.lookup x = some .local) && decide (S.names.lookup y = some .local) && decide (S.names.lookup z = some .local)) && (notStar a' && notStar b' && notStar d') && (ck a S .vl a' && ck b S .vl b' && ck d S .vl d')
      | none => false)
    | none => false)
  | .frz _, _, _ => false
  | .app i e, S, st => (match asExp st with
    | some e' => (match asMth e' with
      | some (x, m, [a']) => decide (m = "append") && S.loc i x && notStar a' && ck e S .vl a'
      | _ => false)
    | none => false)
  | .popS t i none, S, st => (match asAsg st with
    | some (tg, e') => (match asMth e' with
      | some (x, m, []) => decide (m = "pop") && S.loc i x && notStar tg && ckTg t S tg
      | _ => false)
    | none => false)
  | .popS t i (some e), S, st => (match asAsg st with
    | some (tg, e') => (match asMth e' with
      | some (x, m, [a']) => decide (m = "pop") && S.loc i x && notStar tg && ckTg t S tg && notStar a' && ck e S .vl a'
      | _ => false)
    | none => false)
  | .setD i k e, S, st => (match asAsg st with
    | some (tg, e') => (match asSubT tg with
      | some (x, key) => S.loc i x && noSD e' && (asSlice key).isNone && ck e S .vl e' && ck k S .vl key
      | none => false)
    | none => false)
  | .swpD i k l e, S, st => (match asAsg st with
    | some (tg, e') => (match asSwp tg with
      | some (x, y, x2, z) => S.loc i x && S.loc k y && S.loc i x2 && S.loc l z && noSD e' && decide (swS S tg e' = some none) && ck e S .vl e'
      | none => false)
    | none => false)
  | .setC i j e, S, st => (match asAsg st with
    | some (tg, e') => (match asCupT tg with
      | some (x, j') => decide (j' = (j : Int)) && S.loc i x && noSD e' && ck e S .vl e'
      | none => false)
    | none => false)
  | .ife t a b, S, st => (match asIfS st with
    | some (t', a', b') => ck t S .ts t' && ckSs a S a' && ckSs b S b'
    | none => false)
  | .fr t it b, S, st => (match asFor st with
    | some (tg, it', b') => ckTg t S tg && ckI it S tg it' && notSet it' && ckSs b S b'
    | none => false)
  | .whl t b, S, st => (match asWhl st with
    | some (t', b') => ck t S .ts t' && ckSs b S b'
    | none => false)
  | .ret e, S, st => (match asRet st with
    | some e' => ck e S .vl e'
    | none => false)
  | .retCup es, S, st => (match asRet st with
    | some e' => (match asLst e' with
      | some es' => ckL es S .vl es'
      | none => false)
    | none => false)
  | .addPop k i e, S, st => (match asAsg st with
    | some (tg, e') => (match asNameP tg with
      | some (y, _) => (match asAddPop e' with
        | some (y', x, a') => decide (y' = y) && S.loc k y && S.loc i x && S.sto k y && notStar a' && ck e S .vl a'
        | none => false)
      | none => false)
    | none => false)
  | .rse cl, S, st => (match asRse st with
    | some x => decide (x = cl) && S.gl x && S.exc x
    | none => false)
  | .rsa cl e, S, st => (match asRsa st with
    | some (x, e') => decide (x = cl) && S.gl x && S.oex x && notStar e' && ck e S .vl e'
    | none => false)
  | .tryR e, S, st => (match asTryR st with
    | some e' => S.top && ck e S.inT .vl e'
    | none => false)
  | .exp e, S, st => (match asExp st with
    | some e' => noSD e' && !isLC e' && ck e S .vl e'
    | none => false)
def ckSs : List (Sm FN) → SC FN → List Stmt → Bool
  | [], _, [] => true
  | .bad :: _, _, _ => true
  | .frz is :: r, S, sts => ckSs r S sts
  | s :: r, S, st :: sts => ckS s S st && ckSs r S sts
  | _, _, _ => false
end
end
end PP

set_option Elab.async false
set_option linter.all false
set_option maxRecDepth 100000
/-! PP19: the checker of statements is right. -/
namespace PP
open PySem PySem.Spec PyProof.Rows L2

section
variable {X : Cx} {W : WX} {ev : Ev}
theorem tO_of_own {σ : L2.St} {H : Hp} {Q : VK} (q : tO (wd X) X.mg W (ownG ev) σ H Q) : tO (wd X) X.mg W ev σ H Q := by
  obtain ⟨g, env, c, B, er, hr, gd⟩ := q
  refine ⟨g, env, c, B, er, hr, ?_⟩
  have gd : GoodR (wd X) X.mg W g H σ _ (ownG ev env c) := gd
  unfold ownG at gd
  cases hx : ev env c with
  | ok z c1 =>
    rw [hx] at gd
    obtain ⟨y, ey, ky⟩ := GoodR.pure (o := ownO (some z)) gd
    cases (ownO_some ey).1
    exact ky
  | exc cl arg c1 => rw [hx] at gd; exact gd
  | stuck => rw [hx] at gd; exact gd
theorem tO_of_val {σ : L2.St} {H : Hp} {Q : VK} (q : tE (wd X) X.mg W ev σ H Q) : tO (wd X) X.mg W ev σ H Q := by
  obtain ⟨g, env, c, B, er, hr, gd⟩ := q
  refine ⟨g, env, c, B, er, hr, ?_⟩
  cases hx : ev env c with
  | ok p c' =>
    rw [hx] at gd
    intro g' H' x hr' a na nf nc o
    obtain ⟨u, eu, r, nt⟩ := o.rp nf
    exact gd (g'.put a u) H' (x.freeze nf na) (hr'.freeze eu nf nc nt) (.ref a) r
  | exc cl arg c' => rw [hx] at gd; exact gd
  | stuck => rw [hx] at gd; exact gd
theorem slotR_false {x : R PV} {env : Env} {i : Nat} : ((slotR false x).st env fun s c => SR.nx (env.set i s) c) = x.st env fun v c => optS (bindT (.name i) v env) c := by
  cases x <;> rfl
end
section
variable {FN : Type} [DecidableEq FN] {P : FN → FnP FN} {k : Nat}
/-- name = [..], the name a local of this line -/
theorem comp_set {S : SC FN} {X : Cx} {W : WX} {vs : List Nat} {el : Ex FN} {t : Tg} {it : Ie FN} {cond : Option (Ex FN)} {m : Md} {e : Expr} (hx : SX P k S X W) (h : ck (.comp vs el t it cond) S m e = true) {i : Nat} {y : Str} {py spos : Pos} (hy : X.N[i]? = some y) (hyl : X.env.scope.names.lookup y = some .local)
    (hsw : swapsWith e (some (.Name y py)) spos.line X.env = pure true) : ∃ te, L2.PS X (.Assign [.Name y py] e spos) (tAsg te (gName i)) ∧ ∀ σ H Q, tO (wd X) X.mg W (evalE (callK P k) (.comp vs el t it cond)) σ H Q → te σ H Q := by
  rw [ck] at h
  cases hq : asComp e with
  | none => rw [hq] at h; cases h
  | some q =>
    obtain ⟨el', gs, sc⟩ := q
    rw [hq] at h
    obtain ⟨pos, rfl⟩ := asComp_eq hq
    split at h
    · rename_i heq
      cases heq
      obtain ⟨h, h8⟩ := bool_and h
      obtain ⟨h, h7⟩ := bool_and h
      obtain ⟨h, h6⟩ := bool_and h
      obtain ⟨h, h5⟩ := bool_and h
      obtain ⟨h, h4⟩ := bool_and h
      obtain ⟨h, h3⟩ := bool_and h
      obtain ⟨h1, h2⟩ := bool_and h
      have e1 := dec_of h1
      have B := blk_ok hx h2
      have e3 : ∀ i ∈ t.vars, i ∈ (ownOf S vs).map (·.2) := fun i hi => by rw [e1]; exact dec_of (List.all_eq_true.mp h3 i hi)
      refine ⟨_, ps_setLc hx.calm hx.nd hy hyl hsw (ckI_ok it hx h5) B (fun s H C cl fp => ckTg_ok t (hx.blk B.kind s H C cl fp) h4) (fun s H C cl fp => ckIf_ok cond (hx.blk B.kind s H C cl fp) h7) (fun s H C cl fp => (show XE' (X.blk s H sc (compEnvC sc cl C X.env) fp) WF el' (evalE (callK P k) el) from ck_ok el (hx.blk B.kind s H C cl fp) h8)) (notSet_fold h6 _), fun σ H Q q => tLc_read e3 ?_⟩
      rw [e1]; exact q
    · cases h
theorem comp2_set {S : SC FN} {X : Cx} {W : WX} {vs vs1 : List Nat} {el : Ex FN} {t t1 : Tg} {it it1 : Ie FN} {cond cond1 : Option (Ex FN)} {m : Md} {e : Expr} (hx : SX P k S X W) (h : ck (.comp2 vs vs1 el t it cond t1 it1 cond1) S m e = true) {i : Nat} {y : Str} {py spos : Pos} (hy : X.N[i]? = some y) (hyl : X.env.scope.names.lookup y = some .local)
    (hsw : swapsWith e (some (.Name y py)) spos.line X.env = pure true) : ∃ te, L2.PS X (.Assign [.Name y py] e spos) (tAsg te (gName i)) ∧ ∀ σ H Q, tO (wd X) X.mg W (evalE (callK P k) (.comp2 vs vs1 el t it cond t1 it1 cond1)) σ H Q → te σ H Q := by
  rw [ck] at h
  cases hq : asComp e with
  | none => rw [hq] at h; cases h
  | some q =>
    obtain ⟨el', gs, sc⟩ := q
    rw [hq] at h
    obtain ⟨pos, rfl⟩ := asComp_eq hq
    split at h
    · rename_i heq
      cases heq
      obtain ⟨h, k8⟩ := bool_and h
      obtain ⟨h, k7⟩ := bool_and h
      obtain ⟨h, k6⟩ := bool_and h
      obtain ⟨h, k5⟩ := bool_and h
      obtain ⟨h, k4⟩ := bool_and h
      obtain ⟨h, h7⟩ := bool_and h
      obtain ⟨h, h6⟩ := bool_and h
      obtain ⟨h, h5⟩ := bool_and h
      obtain ⟨h, h4⟩ := bool_and h
      obtain ⟨h, k2⟩ := bool_and h
      obtain ⟨h, k1⟩ := bool_and h
      obtain ⟨h, h3⟩ := bool_and h
      obtain ⟨h1, h2⟩ := bool_and h
      have e1 := dec_of h1
      have B := blk_ok hx h2
      have e3 : ∀ i ∈ t.vars, i ∈ (ownOf S vs).map (·.2) := fun i hi => by rw [e1]; exact dec_of (List.all_eq_true.mp h3 i hi)
      have e4 : ∀ i ∈ t1.vars, i ∈ vs1 := fun i hi => dec_of (List.all_eq_true.mp k1 i hi)
      have e5 : ∀ i ∈ vs1, i ∈ (ownOf S vs).map (·.2) := fun i hi => by rw [e1]; exact dec_of (List.all_eq_true.mp k2 i hi)
      refine ⟨_, ps_setLc2 hx.calm hx.nd hy hyl hsw (ckI_ok it hx h5) B e5 (fun s H C cl fp => ckTg_ok t (hx.blk B.kind s H C cl fp) h4) (fun s H C cl fp => ckIf_ok cond (hx.blk B.kind s H C cl fp) h7)
          (fun s H C cl fp => ckI_ok it1 (hx.blk B.kind s H C cl fp) k5) (fun s H C cl fp => ckTg_ok t1 (hx.blk B.kind s H C cl fp) k4) (fun s H C cl fp => ckIf_ok cond1 (hx.blk B.kind s H C cl fp) k7) (fun s H C cl fp => (show XE' (X.blk s H sc (compEnvC sc cl C X.env) fp) WF el' (evalE (callK P k) el) from ck_ok el (hx.blk B.kind s H C cl fp) k8)) (notSet_fold h6 _) (notSet_fold k6), fun σ H Q q => tLc2_read e3 e4 e5 ?_⟩
      rw [e1]; exact q
    · cases h
/-- name = e, in both ways -/
theorem slot_set {S : SC FN} {X : Cx} {W : WX} {ex : Ex FN} {o : Bool} {e : Expr} {i : Nat} {x : Str} {p pos : Pos} (hx : SX P k S X W) (hs : S.sto i x = true) (hn : noSD e = true) (he : ck ex S (mdOf o) e = true) (hw : (!swN S x p e || isComp ex) = true) :
    XS X W (.Assign [.Name x p] e pos) (fun env c => (slotR o (evalE (callK P k) ex env c)).st env fun s c => .nx (env.set i s) c) := by
  have hsto := hs
  unfold SC.sto at hs
  simp only [Bool.and_eq_true, Bool.or_eq_true, decide_eq_true_eq] at hs
  obtain ⟨h1, h2⟩ := hs
  have hy : X.N[i]? = some x := by rw [hx.N]; exact h1
  cases hsw : swN S x p e with
  | true =>
    rw [hsw] at hw
    have hq : swapsWith e (some (.Name x p)) pos.line X.env = pure true := by rw [swN_ok hx hn, hsw]
    have hl : X.env.scope.names.lookup x = some .local := by
      rw [hx.sc]
      unfold swN at hsw
      split at hsw
      · simp only [Bool.and_eq_true] at hsw
        have := hsw.1.1
        simpa using this
      · cases hsw
    have main : ∃ te, L2.PS X (.Assign [.Name x p] e pos) (tAsg te (gName i)) ∧ ∀ σ H Q, tO (wd X) X.mg W (evalE (callK P k) ex) σ H Q → te σ H Q := by
      cases ex <;> first | exact comp_set hx he hy hl hq | exact comp2_set hx he hy hl hq | (simp [isComp] at hw; done)
    obtain ⟨te, h3, h4⟩ := main
    refine xs_set h3 fun σ H Q q => h4 σ H Q ?_
    cases o with
    | true => exact tO_of_own (tSl_own q)
    | false => exact tO_of_val (tSl_val q)
  | false =>
    have hq : swapsWith e (some (.Name x p)) pos.line X.env = pure false := by rw [swN_ok hx hn, hsw]
    have hsl : XSl X W o e (evalE (callK P k) ex) := by
      cases o with
      | true => exact xsl_own (ck_ok ex hx he)
      | false => exact xsl_val (ck_ok ex hx he)
    refine xs_set (ps_set hx.nd hy ?_ hsl hq ?_) fun σ H Q q => q
    · unfold L2.Loc
      rw [hx.sc]
      rcases h2 with q | q
      · exact .inl q
      · exact .inr q.1
    · rw [hx.sc]
      rcases h2 with q | q
      · exact .inr q
      · exact .inl (hx.fnc x q.2)
theorem SX.inT {S : SC FN} {X : Cx} {W : WX} (h : SX P k S X W) {W' : WX} (pn : List (Addr × Obj)) (xe : Value → Shared → Prop) (tk : Takes (X.tr pn xe) W') (ow : PassesOwn (model X.prog X.w) X.A X.env xe) : SX P k S.inT (X.tr pn xe) W' where
  N := h.N
  sc := h.sc
  kind := h.kind
  fnc := h.fnc
  nd := h.nd
  calm := h.calm
  room := h.room
  tk := tk
  own := ow
  fns := h.fns
  blt := h.blt
  con := h.con
  exc := fun x hx => let ⟨C, bmB, B, n, i, a, b, c, d, r⟩ := (h.exc x hx).ex; ⟨C, bmB, B, n, i, a, b, c, d, r⟩
  oex := fun x hx => ⟨⟨(h.oex x hx).1.ex⟩, (h.oex x hx).2⟩
  told := fun x hs v hx => ⟨⟨(h.told x hs v hx).1.ex⟩, (h.told x hs v hx).2⟩
  lam := fun z => nomatch z
  grd := h.grd
  dct := fun x kvs hx => ⟨(h.dct x kvs hx).ex⟩
  fr := fun z => nomatch z
theorem ckTg_name {S : SC FN} {t : Tg} {x : Str} {p : Pos} (h : ckTg t S (.Name x p) = true) : ∃ i, t = .name i ∧ S.sto i x = true := by
  cases t with
  | name i => rw [ckTg] at h; exact ⟨i, rfl, h⟩
  | tup ts => rw [ckTg] at h; cases h
theorem swS_other {S : SC FN} {tg e : Expr} (h : (asTup e).isNone = true) : swS S tg e = some none := by
  unfold swS
  split
  · simp [asTup] at h
  · simp [asTup] at h
  · rfl
mutual
theorem ckS_ok : ∀ (s : Sm FN) {S : SC FN} {X : Cx} {W : WX} {st : Stmt}, SX P k S X W → ckS s S st = true → XS X W st (execS (callK P k) s)
  | .bad, S, X, W, st, hx, h => xs_bad
  | .asg t e, S, X, W, st, hx, h => by
    rw [ckS] at h
    cases hq : asAsg st with
    | none => rw [hq] at h; cases h
    | some q =>
      obtain ⟨tg, e'⟩ := q
      rw [hq] at h
      obtain ⟨pos, rfl⟩ := asAsg_eq hq
      obtain ⟨h, h5⟩ := bool_and h
      obtain ⟨h, h4⟩ := bool_and h
      obtain ⟨h, h3⟩ := bool_and h
      obtain ⟨h1, h2⟩ := bool_and h
      cases hp : asNameP tg with
      | some q =>
        obtain ⟨x, p⟩ := q
        rw [hp] at h5
        have e1 := asNameP_eq hp
        subst e1
        obtain ⟨i, rfl, hs⟩ := ckTg_name h3
        have q := slot_set (o := false) (pos := pos) hx hs h1 h4 h5
        have e2 : (fun (env : Env) (c : List PV) => (slotR false (evalE (callK P k) e env c)).st env fun s c => SR.nx (env.set i s) c) = execS (callK P k) (.asg (.name i) e) := by
          funext env c
          rw [slotR_false]; rfl
        rw [e2] at q
        exact q
      | none =>
        rw [hp] at h5
        exact xs_asg (ck_ok e hx h4) (ckTg_ok t hx h3) (swT_ok h1 (asNameP_no hp)) (swS_ok hx (dec_of h5)) h2
  | .own i e, S, X, W, st, hx, h => by
    rw [ckS] at h
    cases hq : asAsg st with
    | none => rw [hq] at h; cases h
    | some q =>
      obtain ⟨tg, e'⟩ := q
      rw [hq] at h
      obtain ⟨pos, rfl⟩ := asAsg_eq hq
      obtain ⟨h, h3⟩ := bool_and h
      obtain ⟨h1, h2⟩ := bool_and h
      cases hp : asNameP tg with
      | none => rw [hp] at h3; cases h3
      | some q =>
        obtain ⟨x, p⟩ := q
        rw [hp] at h3
        have e1 := asNameP_eq hp
        subst e1
        obtain ⟨h3, h4⟩ := bool_and h3
        exact slot_set (o := true) hx h3 h1 h2 h4
  | .par oi i a oj j b, S, X, W, st, hx, h => by
    rw [ckS] at h
    cases hq : asAsg st with
    | none => rw [hq] at h; cases h
    | some q =>
      obtain ⟨tg, e'⟩ := q
      rw [hq] at h
      cases hp : asPar tg e' with
      | none => simp only [hp] at h; cases h
      | some q =>
        obtain ⟨x, y, a', b'⟩ := q
        simp only [hp] at h
        obtain ⟨pos, rfl⟩ := asAsg_eq hq
        obtain ⟨px, py, kt, pt, k2, pt2, rfl, rfl⟩ := asPar_eq hp
        obtain ⟨h, h10⟩ := bool_and h
        obtain ⟨h, h9⟩ := bool_and h
        obtain ⟨h, h8⟩ := bool_and h
        obtain ⟨h, h7⟩ := bool_and h
        obtain ⟨h, h6⟩ := bool_and h
        obtain ⟨h, h5⟩ := bool_and h
        obtain ⟨h, h4⟩ := bool_and h
        obtain ⟨h, h3⟩ := bool_and h
        obtain ⟨h1, h2⟩ := bool_and h
        refine xs_par hx.calm hx.nd (by rw [hx.N]; exact dec_of h2) (by rw [hx.N]; exact dec_of h3) (dec_of h4) (by rw [hx.sc]; exact dec_of h5) (by rw [hx.sc]; exact dec_of h6) ?_ ?_ h7 h8 (swS_ok hx (dec_of h1))
        · cases oi with
          | true => exact xsl_own (ck_ok a hx h9)
          | false => exact xsl_val (ck_ok a hx h9)
        · cases oj with
          | true => exact xsl_own (ck_ok b hx h10)
          | false => exact xsl_val (ck_ok b hx h10)
  | .par3 i a j b l d, S, X, W, st, hx, h => by
    rw [ckS] at h
    cases hq : asAsg st with
    | none => rw [hq] at h; cases h
    | some q =>
      obtain ⟨tg, e'⟩ := q
      rw [hq] at h
      cases hp : asPar3 tg e' with
      | none => simp only [hp] at h; cases h
      | some q =>
        obtain ⟨⟨x, y, z⟩, ⟨a', b', d'⟩⟩ := q
        simp only [hp] at h
        obtain ⟨pos, rfl⟩ := asAsg_eq hq
        obtain ⟨px, py, pz, kt, pt, k2, pt2, rfl, rfl⟩ := asPar3_eq hp
        obtain ⟨h, hck⟩ := bool_and h
        obtain ⟨h, hst⟩ := bool_and h
        obtain ⟨h, hlo⟩ := bool_and h
        obtain ⟨h, hne⟩ := bool_and h
        obtain ⟨h1, hN⟩ := bool_and h
        obtain ⟨hN, n3⟩ := bool_and hN
        obtain ⟨n1, n2⟩ := bool_and hN
        obtain ⟨hne, d3⟩ := bool_and hne
        obtain ⟨d1, d2⟩ := bool_and hne
        obtain ⟨hlo, l3⟩ := bool_and hlo
        obtain ⟨l1, l2⟩ := bool_and hlo
        obtain ⟨hst, s3⟩ := bool_and hst
        obtain ⟨s1, s2⟩ := bool_and hst
        obtain ⟨hck, c3⟩ := bool_and hck
        obtain ⟨c1, c2⟩ := bool_and hck
        exact xs_par3 hx.calm hx.nd (by rw [hx.N]; exact dec_of n1) (by rw [hx.N]; exact dec_of n2) (by rw [hx.N]; exact dec_of n3) (dec_of d1) (dec_of d2) (dec_of d3) (by rw [hx.sc]; exact dec_of l1) (by rw [hx.sc]; exact dec_of l2) (by rw [hx.sc]; exact dec_of l3)
          (xsl_val (ck_ok a hx c1)) (xsl_val (ck_ok b hx c2)) (xsl_val (ck_ok d hx c3)) s1 s2 s3 (swS_ok hx (dec_of h1))
  | .frz _, S, X, W, st, hx, h => by rw [ckS] at h; cases h
  | .app i e, S, X, W, st, hx, h => by
    rw [ckS] at h
    cases hq : asExp st with
    | none => rw [hq] at h; cases h
    | some e' =>
      rw [hq] at h
      obtain ⟨pos, rfl⟩ := asExp_eq hq
      cases hp : asMth e' with
      | none => simp only [hp] at h; cases h
      | some q =>
        obtain ⟨x, m, es⟩ := q
        simp only [hp] at h
        match es, h with
        | [a'], h =>
          obtain ⟨p, apos, cpos, rfl, hline⟩ := asMth_eq hp
          obtain ⟨h, h4⟩ := bool_and h
          obtain ⟨h, h3⟩ := bool_and h
          obtain ⟨h1, h2⟩ := bool_and h
          obtain rfl : m = "append" := dec_of h1
          exact xs_app (hx.var h2) (ck_ok e hx h4) h3 hline
        | [], h => cases h
        | _ :: _ :: _, h => cases h
  | .popS t i none, S, X, W, st, hx, h => by
    rw [ckS] at h
    cases hq : asAsg st with
    | none => rw [hq] at h; cases h
    | some q =>
      obtain ⟨tg, e'⟩ := q
      rw [hq] at h
      obtain ⟨pos, rfl⟩ := asAsg_eq hq
      cases hp : asMth e' with
      | none => simp only [hp] at h; cases h
      | some q =>
        obtain ⟨x, m, es⟩ := q
        simp only [hp] at h
        match es, h with
        | [], h =>
          obtain ⟨p, apos, cpos, rfl, hline⟩ := asMth_eq hp
          obtain ⟨h, h4⟩ := bool_and h
          obtain ⟨h, h3⟩ := bool_and h
          obtain ⟨h1, h2⟩ := bool_and h
          obtain rfl : m = "pop" := dec_of h1
          exact xs_pop0 (hx.var h2) (ckTg_ok t hx h4) h3 hline rfl (swS_ok hx (swS_other rfl))
        | _ :: _, h => cases h
  | .popS t i (some e), S, X, W, st, hx, h => by
    rw [ckS] at h
    cases hq : asAsg st with
    | none => rw [hq] at h; cases h
    | some q =>
      obtain ⟨tg, e'⟩ := q
      rw [hq] at h
      obtain ⟨pos, rfl⟩ := asAsg_eq hq
      cases hp : asMth e' with
      | none => simp only [hp] at h; cases h
      | some q =>
        obtain ⟨x, m, es⟩ := q
        simp only [hp] at h
        match es, h with
        | [a'], h =>
          obtain ⟨p, apos, cpos, rfl, hline⟩ := asMth_eq hp
          obtain ⟨h, h6⟩ := bool_and h
          obtain ⟨h, h5⟩ := bool_and h
          obtain ⟨h, h4⟩ := bool_and h
          obtain ⟨h, h3⟩ := bool_and h
          obtain ⟨h1, h2⟩ := bool_and h
          obtain rfl : m = "pop" := dec_of h1
          exact xs_pop1 (hx.var h2) (ck_ok e hx h6) h5 (ckTg_ok t hx h4) h3 hline rfl (swS_ok hx (swS_other rfl))
        | [], h => cases h
        | _ :: _ :: _, h => cases h
  | .setD i k e, S, X, W, st, hx, h => by
    rw [ckS] at h
    cases hq : asAsg st with
    | none => rw [hq] at h; cases h
    | some q =>
      obtain ⟨tg, e'⟩ := q
      rw [hq] at h
      obtain ⟨pos, rfl⟩ := asAsg_eq hq
      cases hp : asSubT tg with
      | none => simp only [hp] at h; cases h
      | some q =>
        obtain ⟨x, key⟩ := q
        simp only [hp] at h
        obtain ⟨h, h5⟩ := bool_and h
        obtain ⟨h, h4⟩ := bool_and h
        obtain ⟨h, h3⟩ := bool_and h
        obtain ⟨h1, h2⟩ := bool_and h
        obtain ⟨p, p2, rfl⟩ := asSubT_eq hp
        exact xs_setD hx.units (hx.var h1) (ck_ok k hx h5) (ck_ok e hx h4) (noSlice h3) (swT_ok h2 rfl)
  | .swpD i k l e, S, X, W, st, hx, h => by
    rw [ckS] at h
    cases hq : asAsg st with
    | none => rw [hq] at h; cases h
    | some q =>
      obtain ⟨tg, e'⟩ := q
      rw [hq] at h
      obtain ⟨pos, rfl⟩ := asAsg_eq hq
      cases hp : asSwp tg with
      | none => simp only [hp] at h; cases h
      | some q =>
        obtain ⟨x, y, x2, z⟩ := q
        simp only [hp] at h
        obtain ⟨h, h7⟩ := bool_and h
        obtain ⟨h, h6⟩ := bool_and h
        obtain ⟨h, h5⟩ := bool_and h
        obtain ⟨h, h4⟩ := bool_and h
        obtain ⟨h, h3⟩ := bool_and h
        obtain ⟨h1, h2⟩ := bool_and h
        have hsw := swS_ok hx (dec_of h6)
        have hst : swapsWithSole [tg] e' pos.line X.env = pure false := swT_ok h5 (by
          obtain ⟨_, _, _, _, _, _, _, _, rfl⟩ := asSwp_eq hp
          rfl)
        obtain ⟨p, q3, q5, q2, q4, q6, kt, pt, rfl⟩ := asSwp_eq hp
        exact xs_swpD hx.calm hx.units (hx.var h1) (hx.var h3) (hx.var h2) (hx.var h4) (ck_ok e hx h7) hst hsw
  | .setC i j e, S, X, W, st, hx, h => by
    rw [ckS] at h
    cases hq : asAsg st with
    | none => rw [hq] at h; cases h
    | some q =>
      obtain ⟨tg, e'⟩ := q
      rw [hq] at h
      obtain ⟨pos, rfl⟩ := asAsg_eq hq
      cases hp : asCupT tg with
      | none => simp only [hp] at h; cases h
      | some q =>
        obtain ⟨x, j'⟩ := q
        simp only [hp] at h
        obtain ⟨h, h4⟩ := bool_and h
        obtain ⟨h, h3⟩ := bool_and h
        obtain ⟨h1, h2⟩ := bool_and h
        obtain rfl : j' = (j : Int) := dec_of h1
        obtain ⟨p, jj, cp, p2, rfl⟩ := asCupT_eq hp
        exact xs_setC (hx.var h2) (ck_ok e hx h4) (swT_ok h3 rfl)
  | .ife t a b, S, X, W, st, hx, h => by
    rw [ckS] at h
    cases hq : asIfS st with
    | none => rw [hq] at h; cases h
    | some q =>
      obtain ⟨t', a', b'⟩ := q
      rw [hq] at h
      obtain ⟨pos, rfl⟩ := asIfS_eq hq
      obtain ⟨h, h3⟩ := bool_and h
      obtain ⟨h1, h2⟩ := bool_and h
      exact xs_if (ck_ok t hx h1).1 (ckSs_ok a hx h2) (ckSs_ok b hx h3)
  | .fr t it b, S, X, W, st, hx, h => by
    rw [ckS] at h
    cases hq : asFor st with
    | none => rw [hq] at h; cases h
    | some q =>
      obtain ⟨tg, it', b'⟩ := q
      rw [hq] at h
      obtain ⟨pos, rfl⟩ := asFor_eq hq
      obtain ⟨h, h4⟩ := bool_and h
      obtain ⟨h, h3⟩ := bool_and h
      obtain ⟨h1, h2⟩ := bool_and h
      exact xs_for hx.own hx.calm (ckI_ok it hx h2) (ckTg_ok t hx h1) (ckSs_ok b hx h4) (notSet_fold h3 _)
  | .whl t b, S, X, W, st, hx, h => by
    rw [ckS] at h
    cases hq : asWhl st with
    | none => rw [hq] at h; cases h
    | some q =>
      obtain ⟨t', b'⟩ := q
      rw [hq] at h
      obtain ⟨pos, rfl⟩ := asWhl_eq hq
      obtain ⟨h1, h2⟩ := bool_and h
      exact xs_while hx.own (ck_ok t hx h1).1 (ckSs_ok b hx h2)
  | .ret e, S, X, W, st, hx, h => by
    rw [ckS] at h
    cases hq : asRet st with
    | none => rw [hq] at h; cases h
    | some e' =>
      rw [hq] at h
      obtain ⟨pos, rfl⟩ := asRet_eq hq
      exact xs_ret (ck_ok e hx h)
  | .retCup es, S, X, W, st, hx, h => by
    rw [ckS] at h
    cases hq : asRet st with
    | none => rw [hq] at h; cases h
    | some e' =>
      rw [hq] at h
      obtain ⟨pos, rfl⟩ := asRet_eq hq
      cases hp : asLst e' with
      | none => simp only [hp] at h; cases h
      | some es' =>
        simp only [hp] at h
        obtain ⟨p, rfl⟩ := asLst_eq hp
        exact xs_retCup (ckL_ok es hx h).1
  | .addPop kk i e, S, X, W, st, hx, h => by
    rw [ckS] at h
    cases hq : asAsg st with
    | none => rw [hq] at h; cases h
    | some q =>
      obtain ⟨tg, e'⟩ := q
      rw [hq] at h
      obtain ⟨pos, rfl⟩ := asAsg_eq hq
      cases hp : asNameP tg with
      | none => simp only [hp] at h; cases h
      | some q =>
        obtain ⟨y, pk1⟩ := q
        simp only [hp] at h
        have e1 := asNameP_eq hp
        subst e1
        cases hr : asAddPop e' with
        | none => simp only [hr] at h; cases h
        | some q =>
          obtain ⟨y', x, a'⟩ := q
          simp only [hr] at h
          obtain ⟨pk2, p, apos, cpos, tk, tpos, opos, rfl, hline⟩ := asAddPop_eq hr
          obtain ⟨h, h6⟩ := bool_and h
          obtain ⟨h, h5⟩ := bool_and h
          obtain ⟨h, h4⟩ := bool_and h
          obtain ⟨h, h3⟩ := bool_and h
          obtain ⟨h1, h2⟩ := bool_and h
          obtain rfl : y' = y := dec_of h1
          exact xs_addPop (hx.var h2) (hx.var h3) (ck_ok e hx h6) h5 (hx.sto h4) hline rfl
  | .rse cl, S, X, W, st, hx, h => by
    rw [ckS] at h
    cases hq : asRse st with
    | none => rw [hq] at h; cases h
    | some x =>
      rw [hq] at h
      obtain ⟨p, m, j, q, r, pos, rfl⟩ := asRse_eq hq
      obtain ⟨h, h3⟩ := bool_and h
      obtain ⟨h1, h2⟩ := bool_and h
      have e1 := of_decide_eq_true h1
      subst e1
      obtain ⟨g1, g2, g3⟩ := hx.gl h2
      obtain ⟨⟨C, bmB, B, n, i, F, e2, e3, e4, e5, e6⟩⟩ := hx.exc x h3
      exact ps_weak (ps_raise hx.calm hx.tk (pmk_own F e2 e3 e4 e5 g1 g2)) fun D σ H ⟨g0, H0, g, env, c, er, hr, p0, gd⟩ => gd g H σ er hr p0 Ext.refl (.ref C) none ⟨e3, ⟨C, rfl⟩, e6, rfl⟩
  | .rsa cl e, S, X, W, st, hx, h => by
    rw [ckS] at h
    cases hq : asRsa st with
    | none => rw [hq] at h; cases h
    | some x =>
      obtain ⟨x, e'⟩ := x
      rw [hq] at h
      obtain ⟨p, r, pos, rfl⟩ := asRsa_eq hq
      obtain ⟨h, h5⟩ := bool_and h
      obtain ⟨h, h4⟩ := bool_and h
      obtain ⟨h, h3⟩ := bool_and h
      obtain ⟨h1, h2⟩ := bool_and h
      have e1 := of_decide_eq_true h1
      subst e1
      obtain ⟨g1, g2, g3⟩ := hx.gl h2
      obtain ⟨⟨⟨C, fI, fd, ps, T, iC, tI, F1, hb, hm, hex, hX, hno⟩⟩, hr⟩ := hx.oex x h3
      exact ps_weak (ps_raiseO hx.calm hx.tk T iC tI F1 (hr.mono (by omega)) hb g1 hm g2 (ck_ok e hx h5) (star_cons h4)) fun D σ H ⟨g0, H0, g, env, c, er, hr, p0, gd⟩ => ⟨g, env, c, _, er, hr, (ev_st er p0 gd).mono fun v g1 c1 H1 _ _ ⟨er1, h1, p1, pr, k⟩ y ry => by
        cases v with
        | int n =>
          simp only at k
          cases hl : okLim n with
          | false => rw [hl] at k; exact k.elim
          | true =>
            rw [hl] at k
            obtain rfl : y = .int n := by cases ry; rfl
            refine rawM_of ⟨⟨n, rfl, hl⟩, fun dx hd => ?_⟩
            have ex : LamX.ExtN H1 (upd H1 dx (.xd [(("limit" : Str), .int n)])) := fun b o e _ => by
              rw [upd_ne (fun z => by rw [z, hd] at e; cases e)]
              exact e
            obtain ⟨pr2, hr2⟩ := pres_lam er1 h1 ex (tabs_new h1.tabs hd)
            exact k g1 _ σ (er1.pres pr2) hr2 (p1.trans pr2) Ext.refl (.ref C) (some dx) ⟨hm, ⟨C, rfl⟩, hex, C, dx, .int n, rfl, hX, hno, rfl, upd_same, .int n⟩
        | _ => exact k.elim⟩
  | .tryR e, S, X, W, st, hx, h => by
    rw [ckS] at h
    cases hq : asTryR st with
    | none => rw [hq] at h; cases h
    | some e' =>
      rw [hq] at h
      obtain ⟨p, h0, hds, pos, rfl⟩ := asTryR_eq hq
      obtain ⟨h1, h2⟩ := bool_and h
      obtain ⟨f1, f2⟩ := hx.fr h1
      refine ps_weak (ps_try0 (X := X) (h₀ := h0) (hds := hds) (pos := pos) (tb := fun W' => tS (wd X) X.mg W' (fun env c => (evalE (callK P k) e env c).st env fun v c => .rt v c)) f1 f2 fun W' pn xe tk ow => pss_one (xs_ret (X := X.tr pn xe) (W := W') (ck_ok e (hx.inT pn xe tk ow) h2))) fun D σ H ⟨g0, H0, g, env, c, er, hr, p0, gd⟩ => ⟨g0, H0, g, env, c, er, hr, p0, ?_⟩
      have gd : GoodS (wd X) X.mg W g0 H0 g D ((noX (evalE (callK P k) e env c)).st env fun v c => .rt v c) := gd
      show GoodS (wd X) X.mg _ g0 H0 g D ((evalE (callK P k) e env c).st env fun v c => .rt v c)
      cases hz : evalE (callK P k) e env c with
      | ok v c1 => rw [hz] at gd; exact gd
      | exc cl a c1 => rw [hz] at gd; exact gd.elim
      | stuck => rw [hz] at gd; exact gd.elim
  | .exp e, S, X, W, st, hx, h => by
    rw [ckS] at h
    cases hq : asExp st with
    | none => rw [hq] at h; cases h
    | some e' =>
      rw [hq] at h
      obtain ⟨pos, rfl⟩ := asExp_eq hq
      obtain ⟨h, h3⟩ := bool_and h
      obtain ⟨h1, h2⟩ := bool_and h
      exact xs_exp (ck_ok e hx h3) (swE_ok h1 (by simpa using h2))
theorem ckSs_ok : ∀ (ss : List (Sm FN)) {S : SC FN} {X : Cx} {W : WX} {sts : List Stmt}, SX P k S X W → ckSs ss S sts = true → XSs X W sts (execSs (callK P k) ss)
  | [], S, X, W, [], hx, h => xss_nil
  | [], S, X, W, _ :: _, hx, h => by simp [ckSs] at h
  | s :: r, S, X, W, sts, hx, h => by
    have gen : ∀ st rest, sts = st :: rest → ckS s S st = true → ckSs r S rest = true → XSs X W sts (execSs (callK P k) (s :: r)) := fun st rest e h1 h2 => by
      subst e
      exact xss_cons (ckS_ok s hx h1) (ckSs_ok r hx h2)
    cases s with
    | bad => exact xss_bad
    | frz is =>
      rw [ckSs] at h
      exact xss_frz' is (ckSs_ok r hx h)
    | _ =>
      cases sts with
      | nil => simp [ckSs] at h
      | cons st rest =>
        rw [ckSs] at h
        · obtain ⟨h1, h2⟩ := bool_and h
          exact gen st rest rfl h1 h2
        all_goals (intros; simp_all)
end
end
end PP

set_option Elab.async false
set_option linter.all false
set_option maxRecDepth 100000
/-! PP20: a table of defs; the law's own. -/
namespace PP
open PySem PySem.Spec PyProof.Rows L2

def fnIx (T : List FE) (x : Str) : Option Nat := T.findIdx? fun f => decide (f.x = x)
theorem fnIx_get {T : List FE} {x : Str} {i : Nat} (h : fnIx T x = some i) : ∃ f, T[i]? = some f ∧ f.x = x := by
  unfold fnIx at h
  rw [List.findIdx?_eq_some_iff_getElem] at h
  obtain ⟨hl, hp, _⟩ := h
  exact ⟨T[i], List.getElem?_eq_getElem hl, of_decide_eq_true hp⟩
def Er.toldOf (er : Er) (x : Str) : Option (List (Str × Option Str) × Str) := (er.told.find? fun q => decide (q.1 = x)).map (·.2)
def FE.sc (f : FE) (T : List FE) (blt : Str → Bool) (con : Str → Option PV) (er : Er) : SC Nat := ⟨f.N, f.scope.names, fun _ => true, fnIx T, blt, con, er.toldOf, fun x => decide (x ∈ er.own), fun x => decide (x ∈ er.oex), !er.grd, fun x => (er.dcts.find? fun q => decide (q.1 = x)).map (·.2), true, er.grd⟩
def scB (N P : List Str) (sc : Scope) : Bool :=
  decide (sc.kind = .function) && !sc.isCoroutine && !sc.isGenerator && decide N.Nodup && decide (N.take P.length = P) && P.all (fun x => decide (sc.names.lookup x = some .local) || decide (sc.names.lookup x = some .cell)) && sc.names.all (fun y => !decide (y.2 = .free))
theorem scB_ok {N P : List Str} {sc : Scope} (h : scB N P sc = true) : FnScope N P sc := by
  unfold scB at h
  simp only [Bool.and_eq_true, Bool.not_eq_true', decide_eq_true_eq, List.all_eq_true, Bool.or_eq_true, decide_eq_false_iff_not] at h
  obtain ⟨⟨⟨⟨⟨⟨h1, h2⟩, h3⟩, h4⟩, h5⟩, h6⟩, h7⟩ := h
  exact ⟨h1, h2, h3, h4, h5, h6, h7⟩
/-- what is looked at of a def -/
def feB (P : Nat → FnP Nat) (T : List FE) (blt : Str → Bool) (con : Str → Option PV) (er : Er) (i : Nat) (f : FE) : Bool :=
  scB f.N f.ps f.scope && decide (f.ps.length = (P i).np) && decide (f.N.length = (P i).nl) && ckSs (P i).body (f.sc T blt con er) f.body
def FE.binds (f : FE) : Prop := ∀ (kV doc pm : Value) (an : Option Addr) (cdv ct : Value) (us : List Value), us.length = f.ps.length → bindArgs (PySem.W.fnOf f.q f.q f.params f.body f.scope .none kV doc pm an cdv ct) ⟨us, []⟩ = pure (f.ps.zip us)
/-- the told defs' texts -/
def toldsB (T : List FE) (blt : Str → Bool) (er : Er) : Bool := er.told.all fun q => match T.find? fun f => decide (f.x = q.1) with
  | some f => (match f.ps with
    | [a] => scB f.N f.ps f.scope && toldB q.2.1 q.2.2 a f.N f.scope f.body && (q.2.1.all fun z => decide (z.1 ∈ excNames) && (!limQ z.2 || blt "str")) && decide (f.q = f.x)
    | _ => false)
  | none => false
structure TabOk (P : Nat → FnP Nat) (T : List FE) (blt : Str → Bool) (con : Str → Option PV) (er : Er) : Prop where
  ck : ∀ (i : Nat) (f : FE), T[i]? = some f → feB P T blt con er i f = true
  bd : ∀ (i : Nat) (f : FE), T[i]? = some f → f.binds
  told : toldsB T blt er = true
section
variable {P : Nat → FnP Nat} {T : List FE} {blt : Str → Bool} {con : Str → Option PV} {er : Er} {prog : Program} {w : World} {K : PySem.W.Frag} {mg : MG} {base : Heap}
/-- a class of errors, that is made with a text -/
structure ErrOk (K : PySem.W.Frag) (mg : MG) (x : Str) : Prop where
  ex : ∃ (C : Addr) (bmB : List Value) (B newId initId : String), ExcBaseFacts B newId initId bmB ∧ PySem.W.excIn K C bmB newId = true ∧ mg x = some (.ref C) ∧ PySem.W.keepIn K (.ref C) = true ∧ PySem.W.subIn K (.ref C) (.type "BaseException") = some true ∧ PySem.W.typeIn K (.ref C) = some (.type "type") ∧
    ∀ y D, y ∈ excNames → mg y = some (.ref D) → PySem.W.exmOne K (.ref C) (.ref D) = some (subX x y)
/-- what the top says -/
structure TopOk (T : List FE) (blt : Str → Bool) (con : Str → Option PV) (er : Er) (prog : Program) (w : World) (K : PySem.W.Frag) (mg : MG) (base : Heap) : Prop where
  fn : ∀ (i : Nat) (f : FE), T[i]? = some f → ∃ fd, FunD K f.q f.q f.params f.body f.scope [] [] (He.fAd K (f.x, none)) fd ∧ mg f.x = some (.ref (He.fAd K (f.x, none)))
  blt : ∀ x, blt x = true → mg x = none
  con : ∀ x p, con x = some p → ∃ u v, mg x = some u ∧ RelV v u ∧ ∀ g, Rp ⟨prog, w, K, mg⟩ g v p
  exc : ∀ x ∈ er.own, ErrOk K mg x
  oex : ∀ x ∈ er.oex, OexF prog w K mg base x
  toldM : ∀ q ∈ er.told, ∀ z ∈ q.2.1, ∃ D, mg z.1 = some (.ref D)
  hd : ∀ (i : Nat) (f : FE), T[i]? = some f → PySem.W.codeHdIn K (He.cT K (f.x, none)).1 (He.cT K (f.x, none)).2 = true
  one : ∀ p ∈ tsOf K, ∀ q ∈ tsOf K, p.1 = q.1 → p.2 = q.2
  tab : ∀ p ∈ tsA K, LamX.TabB base mg p.1 p.2.1
  dct : ∀ q ∈ er.dcts, ∃ (a : Addr) (es : Array DictEntry) (n : Nat), mg q.1 = some (.ref a) ∧ KDict K w a es n ∧
    (∀ z p, pickV (q.2.map (·.1)) (q.2.map (·.2)) z = some p → ∃ u v, PySem.W.nsIn K a z = some (some u) ∧ RelV v u ∧ ∀ g, Rp ⟨prog, w, K, mg⟩ g v p) ∧ ∀ z, ∃ r, PySem.W.nsIn K a z = some r ∧ r.isSome = decide (z ∈ q.2.map (·.1))
/-- a def's own table -/
theorem ts_mem {x q : Str} {fd : FuncData} {oc : Value} {od : Option Addr} {osl : Array (Option Value)} {c : Addr} (lk : K.lookup (He.fAd K (x, none)) = some ⟨oc, od, .func fd, osl⟩) (hc : fd.code = .ref c) (hq : fd.qualname = q) (hh : PySem.W.codeHdIn K (He.cT K (x, none)).1 (He.cT K (x, none)).2 = true) :
    (c, He.tabOf K c, (q ++ ".<locals>.") ++ "<lambda>") ∈ tsA K := by
  have e1 : He.codeOf K (x, none) = c := He.codeOf_eq lk hc
  have hh' : PySem.W.codeHdIn K c (He.tabOf K c) = true := by
    have := hh
    unfold He.cT at this
    rw [e1] at this
    exact this
  refine List.mem_filterMap.mpr ⟨_, He.lookup_mem lk, ?_⟩
  unfold tsO
  simp only [hc, hh', if_true, hq]
theorem lam_key (hm : TopOk T blt con er prog w K mg base) {f : FE} {i : Nat} (hf : T[i]? = some f) {fd : FuncData} {cdv oc : Value} {od : Option Addr} {osl : Array (Option Value)}
    (lk : K.lookup (He.fAd K (f.x, none)) = some ⟨oc, od, .func fd, osl⟩) (hcd : fd.code = cdv) (hqn : fd.qualname = f.q) (hcr : ∃ c, cdv = .ref c) :
    ∃ c Pt, cdv = .ref c ∧ LamX.TabB base mg c Pt ∧ (Pt, (f.q ++ ".<locals>.") ++ "<lambda>") ∈ tsOf K ∧ ∀ p ∈ tsOf K, p.1 = Pt → p.2 = (f.q ++ ".<locals>.") ++ "<lambda>" := by
  obtain ⟨c, hc⟩ := hcr
  have m := ts_mem lk (hcd.trans hc) hqn (hm.hd i f hf)
  generalize (f.q ++ ".<locals>.") ++ "<lambda>" = q at m ⊢
  have m2 : (He.tabOf K c, q) ∈ tsOf K := List.mem_map.mpr ⟨(c, He.tabOf K c, q), m, rfl⟩
  exact ⟨c, He.tabOf K c, hc, hm.tab _ m, m2, fun p hp e => hm.one p hp _ m2 e⟩
/-- what a def's body is checked in -/
theorem sx_def (ht : TabOk P T blt con er) (hm : TopOk T blt con er prog w K mg base) {k : Nat} {f : FE} {i : Nat} (hf : T[i]? = some f) (S : FnScope f.N f.ps f.scope) {fd : FuncData} {cdv oc : Value} {od : Option Addr} {osl : Array (Option Value)} {A : Around} {outer : List PySem.Env} {s : Shared} {H : Hp} {E : XK}
    (lk : K.lookup (He.fAd K (f.x, none)) = some ⟨oc, od, .func fd, osl⟩) (hcd : fd.code = cdv) (hqn : fd.qualname = f.q) (hr : Room (3 * k + 2) (A.deeper (envOfC f.q f.scope s.heap.objs.size (He.fAd K (f.x, none)) cdv)))
    (gu : er.grd = true → (A.deeper (envOfC f.q f.scope s.heap.objs.size (He.fAd K (f.x, none)) cdv)).guards = some []) (fns : ∀ x j, fnIx T x = some j → Cal er.grd prog w K mg base (3 * k) x (spK ⟨prog, w, K, mg⟩ mg (callK P k j) (P j).np))
    (key : ∃ c Pt, cdv = .ref c ∧ LamX.TabB base mg c Pt ∧ (Pt, (f.q ++ ".<locals>.") ++ "<lambda>") ∈ tsOf K ∧ ∀ p ∈ tsOf K, p.1 = Pt → p.2 = (f.q ++ ".<locals>.") ++ "<lambda>") :
    SX P k (f.sc T blt con er) (cxOf (L2.CX prog w) prog w K mg base f.N f.q f.scope (He.fAd K (f.x, none)) cdv A outer s H E) (fun cls d _ H' => E cls d H') where
  N := rfl
  sc := rfl
  kind := S.kind
  fnc := fun _ _ => rfl
  nd := S.nd
  calm := rfl
  room := hr.mono (by omega)
  tk := takes_of rfl rfl rfl rfl
  own := passes_of (X := cxOf (L2.CX prog w) prog w K mg base f.N f.q f.scope (He.fAd K (f.x, none)) cdv A outer s H E) rfl
  fns := fns
  blt := hm.blt
  con := hm.con
  exc := fun x hx => by
    obtain ⟨C, bmB, B, n, i, a, b, c, d, e, e2, e3⟩ := (hm.exc x (of_decide_eq_true hx)).ex
    exact ⟨C, bmB, B, n, i, a, b, c, d, raises_own e e2, e3⟩
  oex := fun x hx => ⟨⟨hm.oex x (of_decide_eq_true hx)⟩, hr⟩
  told := fun x hs v hx => by
    have hx' : er.toldOf x = some (hs, v) := hx
    unfold Er.toldOf at hx'
    obtain ⟨q, hq, e⟩ := Option.map_eq_some_iff.mp hx'
    have e1' := List.find?_some hq
    have e1 : q.1 = x := of_decide_eq_true e1'
    have e2 := List.mem_of_find?_eq_some hq
    have hb := List.all_eq_true.mp ht.told q e2
    cases hF : T.find? fun f => decide (f.x = q.1) with
    | none => rw [hF] at hb; cases hb
    | some f0 =>
      rw [hF] at hb
      simp only at hb
      have e3' := List.find?_some hF
      have e3 : f0.x = q.1 := of_decide_eq_true e3'
      obtain ⟨i0, hi0⟩ := List.getElem?_of_mem (List.mem_of_find?_eq_some hF)
      obtain ⟨fd0, F0, hg0⟩ := hm.fn i0 f0 hi0
      cases hps : f0.ps with
      | nil => rw [hps] at hb; cases hb
      | cons a r =>
        cases r with
        | cons _ _ => rw [hps] at hb; cases hb
        | nil =>
          rw [hps] at hb
          obtain ⟨hb, h4⟩ := bool_and hb
          obtain ⟨hb, h3⟩ := bool_and hb
          obtain ⟨h1, h2⟩ := bool_and hb
          have bN := F0.bindsN (ht.bd i0 f0 hi0)
          obtain ⟨oc0, od0, dV, kV, doc, pm, an, cdv0, ct, osl0, rfl, lk0, hcd0, h0d, _⟩ := F0.ex
          have e4 : f0.x = x := e3.trans e1
          have e5 : q.2.1 = hs := congrArg Prod.fst e
          have e6 : q.2.2 = v := congrArg Prod.snd e
          rw [e5, e6] at h2
          have kp := F0.kp
          clear hq e1' e1 hx hx' F0
          subst e4
          have e7 : f0.q = f0.x := of_decide_eq_true h4
          rw [e7] at lk0 bN hcd0
          rw [hps] at bN
          have Sg := scB_ok h1
          refine ⟨⟨⟨He.fAd K (f0.x, none), a, f0.params, f0.body, f0.scope, dV, kV, doc, pm, cdv0, ct, oc0, an, od0, osl0, f0.N, hg0, kp, lk0, hcd0, bN, Sg, h2⟩⟩, fun z hz => ?_⟩
          · rw [← e5] at hz
            obtain ⟨h3a, h3b⟩ := bool_and (List.all_eq_true.mp h3 z hz)
            refine ⟨of_decide_eq_true h3a, hm.toldM q e2 z hz, fun hl => hm.blt _ ?_⟩
            rw [hl] at h3b
            exact h3b
  lam := fun z => ⟨⟨key⟩, hr, show er.grd = false from by simpa using (show (!er.grd) = true from z)⟩
  grd := gu
  fr := fun _ => ⟨rfl, rfl⟩
  dct := fun x kvs hx => by
    have hx' : (er.dcts.find? fun q => decide (q.1 = x)).map (·.2) = some kvs := hx
    obtain ⟨q, hq, e⟩ := Option.map_eq_some_iff.mp hx'
    have e1' := List.find?_some hq
    have e1 : q.1 = x := of_decide_eq_true e1'
    have d := hm.dct q (List.mem_of_find?_eq_some hq)
    rw [e1, e] at d
    exact ⟨d⟩
theorem fns_ok (ht : TabOk P T blt con er) (hm : TopOk T blt con er prog w K mg base) : ∀ (k : Nat) (x : Str) (i : Nat), fnIx T x = some i → Cal er.grd prog w K mg base (3 * k) x (spK ⟨prog, w, K, mg⟩ mg (callK P k i) (P i).np)
  | 0, x, i, hi => by
    obtain ⟨f, hf, rfl⟩ := fnIx_get hi
    obtain ⟨fd, F, hg⟩ := hm.fn i f hf
    have no : ∀ vs H Q E, spK ⟨prog, w, K, mg⟩ mg (callK P 0 i) (P i).np vs H Q E → False := fun vs H Q E ⟨_, g, c, ps, _, _, gc⟩ => gc
    exact ⟨_, fd, f.ps, ⟨fun {vs H Q E} h => (no _ _ _ _ h).elim, fun {_ _ _ _ _ _ _ _} _ _ _ _ _ h => (no _ _ _ _ h).elim⟩, hg, F.kp, F.bindsN (ht.bd i f hf)⟩
  | k + 1, x, i, hi => by
    obtain ⟨f, hf, rfl⟩ := fnIx_get hi
    obtain ⟨fd, F, hg⟩ := hm.fn i f hf
    have hc := ht.ck i f hf
    unfold feB at hc
    obtain ⟨hc, h4⟩ := bool_and hc
    obtain ⟨hc, h3⟩ := bool_and hc
    obtain ⟨h1, h2⟩ := bool_and hc
    have S := scB_ok h1
    have hcode : ∃ c, fd.code = .ref c := by
      obtain ⟨_, _, _, _, _, _, _, cdv, _, _, rfl, _, hcd, _, _⟩ := F.ex
      exact He.codeIn_ref hcd
    exact ⟨_, fd, f.ps, fn_pure F S (of_decide_eq_true h2) (of_decide_eq_true h3) fun cdv oc od osl A outer s H E lk hcd hqn hr gu => ckSs_ok (P i).body (S := f.sc T blt con er) (sx_def ht hm hf S lk hcd hqn hr gu (fun x j hj => fns_ok ht hm k x j hj) (lam_key hm hf lk hcd hqn (by rw [← hcd]; exact hcode))) h4, hg, F.kp, F.bindsN (ht.bd i f hf)⟩
end
/-! ### from the head's facts -/
theorem toDv_rp {T : Wd} {g : Gh} {K : PySem.W.Frag} {p : PV} (h : isAt p = true) : Rp T g ((toDv p).v K) p := by
  cases p <;> first | (cases h; done) | skip
  · exact .non
  · exact .bl _
  · exact .int _
  · exact .str _
theorem toDv_rps {T : Wd} {g : Gh} {K : PySem.W.Frag} : ∀ {ps : List PV}, ps.all isAt = true → RpL T g ((ps.map toDv).map (He.Dv.v K)) ps
  | [], _ => .nil
  | p :: ps, h => by
    rw [List.all_cons, Bool.and_eq_true] at h
    exact .cons (toDv_rp h.1) (toDv_rps h.2)
theorem tsA_hd {K : PySem.W.Frag} {h : Heap} (X : K.In h) {p : Addr × Addr × Str} (hp : p ∈ tsA K) : PySem.W.CodeHd h p.1 p.2.1 := by
  obtain ⟨q, hq, e⟩ := List.mem_filterMap.mp hp
  unfold tsO at e
  split at e
  · split at e
    · split at e
      · cases e
        exact PySem.W.codeHd_of_K X ‹_›
      · cases e
    · cases e
  · cases e
theorem oneL_ok : ∀ {l : List (Addr × Str)}, oneL l = true → ∀ p ∈ l, ∀ q ∈ l, p.1 = q.1 → p.2 = q.2
  | [], _, p, hp, _, _, _ => by cases hp
  | a :: r, h, p, hp, q, hq, e => by
    unfold oneL at h
    obtain ⟨h1, h2⟩ := bool_and h
    rcases List.mem_cons.mp hp with hp2 | hp2
    · rcases List.mem_cons.mp hq with hq2 | hq2
      · rw [hp2, hq2]
      · have := List.all_eq_true.mp h1 q hq2
        rw [hp2] at e ⊢
        simp only [e, decide_true, Bool.not_true, Bool.false_or, decide_eq_true_eq] at this
        exact this
    · rcases List.mem_cons.mp hq with hq2 | hq2
      · have := List.all_eq_true.mp h1 p hp2
        rw [hq2] at e ⊢
        simp only [e, decide_true, Bool.not_true, Bool.false_or, decide_eq_true_eq] at this
        exact this.symm
      · exact oneL_ok h2 p hp2 q hq2 e
theorem pickV_at : ∀ {kvs : List (Str × PV)} {z : Str} {p : PV}, pickV (kvs.map (·.1)) (kvs.map (·.2)) z = some p → (z, p) ∈ kvs
  | [], _, _, h => by cases h
  | (k, v) :: r, z, p, h => by
    rw [List.map_cons, List.map_cons, pickV] at h
    split at h
    · rename_i e
      cases h
      rw [← e]
      exact List.mem_cons_self
    · exact List.mem_cons_of_mem _ (pickV_at h)
/-- the keys of a dict that is looked at -/
theorem nsIn_keys {K : PySem.W.Frag} {w : World} {a : Addr} {ks : List Str} (h : He.dicW K a = some (He.keysIn w.params ks)) (z : Str) : ∃ r, PySem.W.nsIn K a z = some r ∧ r.isSome = decide (z ∈ ks) := by
  unfold He.dicW at h
  split at h
  · rename_i cc es n sl hl
    split at h
    · have h1 : es.toList.map He.keyOf = He.keysIn w.params ks := Option.some.inj h
      unfold PySem.W.nsIn
      rw [hl]
      simp only
      have key : ∀ (l : List DictEntry) (ks : List Str), l.map He.keyOf = He.keysIn w.params ks → (l.any fun e => e.refKey) = false ∧ (l.find? fun e => e.key.isStr z).isSome = decide (z ∈ ks) := by
        intro l
        induction l with
        | nil =>
          intro ks h
          cases ks with
          | nil => exact ⟨rfl, rfl⟩
          | cons _ _ => cases h
        | cons e r ih =>
          intro ks h
          cases ks with
          | nil => cases h
          | cons k ks =>
            have h' : He.keyOf e :: r.map He.keyOf = some (k, PyData.keyHash w.params k) :: He.keysIn w.params ks := h
            injection h' with h2 h3
            obtain ⟨i1, i2⟩ := ih ks h3
            have hk : ∃ t, e.key = .str k t := by
              unfold He.keyOf at h2
              split at h2
              · rename_i x t hx
                have h4 := Option.some.inj h2
                obtain ⟨h5, _⟩ := Prod.mk.inj h4
                exact ⟨t, by rw [hx, h5]⟩
              · cases h2
            obtain ⟨t, hk⟩ := hk
            obtain ⟨ek, eh, ev⟩ := e
            simp only at hk
            subst hk
            refine ⟨?_, ?_⟩
            · rw [List.any_cons, i1]
              rfl
            · rw [List.find?_cons]
              by_cases hz : k = z
              · subst hz
                have e1 : (Value.str k t).isStr k = true := by simp [Value.isStr]
                simp only [e1]
                simp
              · have e1 : (Value.str k t).isStr z = false := by simp [Value.isStr, hz]
                simp only [e1]
                rw [i2, decide_eq_decide, List.mem_cons]
                exact ⟨.inr, fun q => q.elim (fun q => absurd q.symm hz) id⟩
      obtain ⟨k1, k2⟩ := key _ ks h1
      cases hf : es.toList.find? fun e => e.key.isStr z with
      | some e =>
        rw [hf] at k2
        exact ⟨some e.val, rfl, k2⟩
      | none =>
        rw [hf] at k2
        refine ⟨none, ?_, k2⟩
        simp only
        rw [if_neg (by rw [k1]; decide)]
    · cases h
  · cases h
def conOf (nums : List (Str × Int)) (txts : List (Str × Str)) (tups : List (Str × List PV)) (x : Str) : Option PV := match nums.find? fun q => decide (q.1 = x) with
  | some q => some (.int q.2)
  | none => match txts.find? fun q => decide (q.1 = x) with
    | some q => some (.str q.2)
    | none => (tups.find? fun q => decide (q.1 = x)).map fun q => .tup q.2
def bltOf (frees : List Str) (x : Str) : Bool := decide (x ∈ frees)
theorem top_ok {T : List FE} {frees : List Str} {nums : List (Str × Int)} {txts : List (Str × Str)} {tups : List (Str × List PV)} {prog : Program} {w : World} {K : PySem.W.Frag} {h : Heap} {mg : MG} (X : K.In h) (G : h.Ns mainGlobals mg) {excs : List Str} {er : Er} {base : Heap} (c : He.SaysD (faOf T frees nums txts tups excs er) (T.map FE.d) K) (ce : exB T tups excs er K = true)
    (hex : (excNames.all fun y => decide (y ∈ excs) || decide (y ∈ frees)) = true) (hto : (er.told.all fun q => q.2.1.all fun z => decide (z.1 ∈ excs)) = true) (hown : (er.own.all fun x => decide (x ∈ excs)) = true) (hb : ∀ p ∈ tsA K, LamX.TabB base mg p.1 p.2.1) (hts : (tsD er).map (fun t => He.dicW K (t.1 K)) = (tsD er).map fun t => some (He.keysIn w.params t.2)) (hox : ∀ x ∈ er.oex, OexF prog w K mg base x) :
    TopOk T (bltOf frees) (conOf nums txts tups) er prog w K mg base := by
  obtain ⟨ce, ce6⟩ := bool_and ce
  obtain ⟨ce, ce5⟩ := bool_and ce
  obtain ⟨ce, ce4⟩ := bool_and ce
  obtain ⟨ce, ce3⟩ := bool_and ce
  obtain ⟨ct, ce2⟩ := bool_and ce
  have fact : ∀ f, f ∈ faOf T frees nums txts tups excs er → f.ok K = true := fun f hf => by
    obtain ⟨i, hi⟩ := List.getElem?_of_mem hf
    exact c.fact i hi
  have gl : ∀ x ∈ excs, mg x = some (.ref (He.ga K x)) := fun x hx => He.glo_ok X G (fact (.glo x) (by
    unfold faOf
    simp only [List.mem_append, List.mem_map]
    exact .inl (.inr ⟨x, hx, rfl⟩)))
  have fr : ∀ x ∈ frees, mg x = none := fun x hx => He.free_ok X G (fact (.free x) (by
    unfold faOf
    simp only [List.mem_append, List.mem_map]
    exact .inl (.inl (.inl (.inl (.inl (.inr ⟨x, hx, rfl⟩)))))))
  refine ⟨fun i f hf => ?_, fun x hx => fr x (of_decide_eq_true hx), fun x p hp => ?_, fun x hx => ?_, hox, fun q hq z hz => ⟨_, gl z.1 (of_decide_eq_true (List.all_eq_true.mp (List.all_eq_true.mp hto q hq) z hz))⟩, fun i f hf => List.all_eq_true.mp ce3 f (List.mem_of_getElem? hf), oneL_ok ce4, hb, fun q hq => ?_⟩
  · have hd : (T.map FE.d)[i]? = some f.d := by rw [List.getElem?_map, hf]; rfl
    obtain ⟨fd, F⟩ := c.def_ i hd
    have hg := He.glo_ok X G (fact (.glo f.x) (by
      unfold faOf
      simp only [List.mem_append, List.mem_map]
      exact .inl (.inl (.inl (.inl (.inl (.inl ⟨f, List.mem_of_getElem? hf, rfl⟩)))))))
    exact ⟨fd, F, hg⟩
  · unfold conOf at hp
    split at hp
    · rename_i q hq
      cases hp
      have e1 := List.find?_some hq
      have e2 := List.mem_of_find?_eq_some hq
      obtain ⟨t, ht⟩ := He.int_ok X G (fact (.int q.1 q.2) (by
        unfold faOf
        simp only [List.mem_append, List.mem_map]
        exact .inl (.inl (.inl (.inl (.inr ⟨q, e2, rfl⟩))))))
      have e3 : q.1 = x := of_decide_eq_true e1
      rw [e3] at ht
      exact ⟨_, .int q.2, ht, ⟨t, rfl⟩, fun g => .int _⟩
    · split at hp
      · rename_i q hq
        cases hp
        have e1 := List.find?_some hq
        have e2 := List.mem_of_find?_eq_some hq
        obtain ⟨t, ht⟩ := He.str_ok X G (fact (.str q.1 q.2) (by
          unfold faOf
          simp only [List.mem_append, List.mem_map]
          exact .inl (.inl (.inl (.inr ⟨q, e2, rfl⟩)))))
        have e3 : q.1 = x := of_decide_eq_true e1
        rw [e3] at ht
        exact ⟨_, .str q.2, ht, ⟨t, rfl⟩, fun g => .str _⟩
      · obtain ⟨q, hq, rfl⟩ := Option.map_eq_some_iff.mp hp
        have e1 := List.find?_some hq
        have e2 := List.mem_of_find?_eq_some hq
        have ht := He.glo_ok X G (fact (.glo q.1) (by
          unfold faOf
          simp only [List.mem_append, List.mem_map]
          exact .inl (.inl (.inr ⟨q, e2, rfl⟩))))
        have e3 : q.1 = x := of_decide_eq_true e1
        have e4 := List.all_eq_true.mp ct q e2
        rw [Bool.and_eq_true] at e4
        rw [e3] at ht
        rw [e3] at e4
        exact ⟨_, .ref (He.ga K x), ht, rfl, fun g => .tup (He.tupB_ok e4.1 g.F) (toDv_rps e4.2)⟩
  · have h0 := List.all_eq_true.mp ce2 x hx
    unfold errB at h0
    obtain ⟨h0, h5⟩ := bool_and h0
    obtain ⟨h0, h4⟩ := bool_and h0
    obtain ⟨h0, h3⟩ := bool_and h0
    obtain ⟨h1, h2⟩ := bool_and h0
    refine ⟨He.ga K x, veB, "ValueError", "ValueError.__new__", "ValueError.__init__", PySem.F.excBase_ValueError, h1, gl x (of_decide_eq_true (List.all_eq_true.mp hown x hx)), h2, of_decide_eq_true h3, isTT_eq h4, fun y D hy hD => ?_⟩
    have h6 := List.all_eq_true.mp hex y hy
    rw [Bool.or_eq_true] at h6
    rcases h6 with h6 | h6
    · have h7 := gl y (of_decide_eq_true h6)
      rw [hD] at h7
      cases h7
      exact of_decide_eq_true (List.all_eq_true.mp h5 y (of_decide_eq_true h6))
    · have h7 := fr y (of_decide_eq_true h6)
      rw [hD] at h7
      cases h7
  · have hg := He.glo_ok X G (fact (.glo q.1) (by
      unfold faOf
      simp only [List.mem_append, List.mem_map]
      exact .inr ⟨q, hq, rfl⟩))
    obtain ⟨i, hi⟩ := List.getElem?_of_mem hq
    have hd : He.dicW K (He.ga K q.1) = some (He.keysIn w.params (q.2.map (·.1))) := by
      have e2 : ((tsD er).map fun t => He.dicW K (t.1 K))[i]? = ((tsD er).map fun t => some (He.keysIn w.params t.2))[i]? := by rw [hts]
      unfold tsD at e2
      simp only [List.getElem?_map, hi, Option.map_some] at e2
      exact Option.some.inj e2
    obtain ⟨es, n, KD⟩ := He.dicW_ok hd
    have h0 := List.all_eq_true.mp ce5 q hq
    obtain ⟨h1, h2⟩ := bool_and h0
    refine ⟨_, es, n, hg, KD, fun z p hp => ?_, nsIn_keys hd⟩
    have hm := pickV_at hp
    obtain ⟨u, e1, e2⟩ := He.valsB_ok h1 (q := (z, toDv p)) (List.mem_map.mpr ⟨(z, p), hm, rfl⟩)
    exact ⟨u, _, e1, e2, fun g => toDv_rp (List.all_eq_true.mp h2 _ hm)⟩
/-- the classes of errors that keep a number -/
theorem oex_top {T : List FE} {frees : List Str} {nums : List (Str × Int)} {txts : List (Str × Str)} {tups : List (Str × List PV)} {prog : Program} {w : World} {K : PySem.W.Frag} {h : Heap} {mg : MG} (X : K.In h) (G : h.Ns mainGlobals mg) {excs : List Str} {er : Er} {base : Heap} (c : He.SaysD (faOf T frees nums txts tups excs er) (T.map FE.d) K) (ce : exB T tups excs er K = true)
    (hex : (excNames.all fun y => decide (y ∈ excs) || decide (y ∈ frees)) = true) {inis : List IniD} (hi : ∀ d ∈ inis, iniO K d.x = d.val) (hc : (inis.all iniC) = true) (hb : ∀ d ∈ inis, d.binds) (hon : (er.oex.all fun x => decide (x ∈ inis.map (·.x)) && decide (x ∈ excs)) = true) (hsf : (decide (("super" : Str) ∈ frees) && decide (("str" : Str) ∈ frees)) = true)
    (hfile : ((prog.main.file : Str) == er.file) = true) (htop : (prog.main.scope.names.lookup ("super" : Str)).isSome = false) : ∀ x ∈ er.oex, OexF prog w K mg base x := fun x hx => by
  obtain ⟨ce, ce6⟩ := bool_and ce
  have fact : ∀ f, f ∈ faOf T frees nums txts tups excs er → f.ok K = true := fun f hf => by
    obtain ⟨i, hi⟩ := List.getElem?_of_mem hf
    exact c.fact i hi
  have gl : ∀ x ∈ excs, mg x = some (.ref (He.ga K x)) := fun x hx => He.glo_ok X G (fact (.glo x) (by
    unfold faOf
    simp only [List.mem_append, List.mem_map]
    exact .inl (.inr ⟨x, hx, rfl⟩)))
  have fr : ∀ x ∈ frees, mg x = none := fun x hx => He.free_ok X G (fact (.free x) (by
    unfold faOf
    simp only [List.mem_append, List.mem_map]
    exact .inl (.inl (.inl (.inl (.inl (.inr ⟨x, hx, rfl⟩)))))))
  obtain ⟨s1, s2⟩ := bool_and hsf
  obtain ⟨o1, o2⟩ := bool_and (List.all_eq_true.mp hon x hx)
  obtain ⟨d, hd, rfl⟩ := List.mem_map.mp (of_decide_eq_true o1)
  exact oex_ok (List.all_eq_true.mp ce6 _ hx) (hi d hd) (List.all_eq_true.mp hc d hd) (hb d hd) (gl _ (of_decide_eq_true o2)) (fun y D hy hD => by
    have h6 := List.all_eq_true.mp hex y hy
    rw [Bool.or_eq_true] at h6
    rcases h6 with h6 | h6
    · have h7 := gl y (of_decide_eq_true h6)
      rw [hD] at h7
      cases h7
      exact ⟨of_decide_eq_true h6, rfl⟩
    · have h7 := fr y (of_decide_eq_true h6)
      rw [hD] at h7
      cases h7) (fr _ (of_decide_eq_true s1)) (fr _ (of_decide_eq_true s2)) hfile htop
/-- one def's promise -/
theorem fn_at {P : Nat → FnP Nat} {T : List FE} {blt : Str → Bool} {con : Str → Option PV} {er : Er} {prog : Program} {w : World} {K : PySem.W.Frag} {mg : MG} {base : Heap} (ht : TabOk P T blt con er) (hm : TopOk T blt con er prog w K mg base) (k i : Nat) (f : FE) (hf : T[i]? = some f) {fd : FuncData} (F : FunD K f.q f.q f.params f.body f.scope [] [] (He.fAd K (f.x, none)) fd) :
    FnG er.grd prog w K mg base (L2.CX prog w) (3 * (k + 1)) (He.fAd K (f.x, none)) fd f.ps (spK ⟨prog, w, K, mg⟩ mg (callK P (k + 1) i) (P i).np) := by
  have hc := ht.ck i f hf
  unfold feB at hc
  obtain ⟨hc, h4⟩ := bool_and hc
  obtain ⟨hc, h3⟩ := bool_and hc
  obtain ⟨h1, h2⟩ := bool_and hc
  have S := scB_ok h1
  have hcode : ∃ c, fd.code = .ref c := by
    obtain ⟨_, _, _, _, _, _, _, cdv, _, _, rfl, _, hcd, _, _⟩ := F.ex
    exact He.codeIn_ref hcd
  exact fn_pure F S (of_decide_eq_true h2) (of_decide_eq_true h3) fun cdv oc od osl A outer s H E lk hcd hqn hr gu => ckSs_ok (P i).body (S := f.sc T blt con er) (sx_def ht hm hf S lk hcd hqn hr gu (fun x j hj => fns_ok ht hm k x j hj) (lam_key hm hf lk hcd hqn (by rw [← hcd]; exact hcode))) h4
/-- the law's own call -/
theorem sp_law {P : Nat → FnP Nat} {T : Wd} {mg : MG} {k i : Nat} {ns : List Int} {c' : List PV} (hp : (P i).np = 1) (h : callK P k i [.scr ns] [] = .ok (.bl true) c') (H : Hp) (a : Addr) (hS : SqL T.K H a (ns.map V.int)) (hT : ∀ p ∈ tsA T.K, H p.2.1 = some (.tbl #[])) :
    spK T mg (callK P k i) (P i).np [.ref a] H (fun v _ => v = .bl true) (fun _ _ _ => False) := by
  have hF : ∀ b o, (∀ ps, o ≠ .tbl ps) → H b = some o → (fun b => match H b with
    | some (.tbl _) => none
    | o => o) b = some o := fun b o nt e => by
    show (match H b with
      | some (.tbl _) => none
      | o => o) = some o
    rw [e]
    cases o <;> first | rfl | exact (nt _ rfl).elim
  refine ⟨hp.symm, ⟨fun b => match H b with
    | some (.tbl _) => none
    | o => o, none⟩, [], [.scr ns], ⟨fun b o e => ?_, fun b ps e => ?_, fun p hp => ?_, fun _ => rfl, fun _ e => nomatch e⟩, .cons (.scr ?_) .nil, ?_⟩
  · have e' : (match H b with
      | some (.tbl _) => none
      | o => o) = some o := e
    split at e'
    · cases e'
    · exact e'
  · have e' : (match H b with
      | some (.tbl _) => none
      | o => o) = some (.tbl ps) := e
    split at e'
    · cases e'
    · rename_i hn
      exact hn ps e'
  · obtain ⟨q, hq, rfl⟩ := List.mem_map.mp hp
    exact LamX.TabS.nil (hT q hq)
  · refine hS.imp (fun z => ?_) fun z => z
    rcases z with z | ⟨o, z⟩
    · exact .inl (hF _ _ (fun ps w => by cases w) z)
    · exact .inr ⟨o, hF _ _ (fun ps w => by cases w) z⟩
  · rw [h]
    intro g' H' v _ _ r
    cases r
    rfl
end PP


set_option Elab.async false
set_option linter.all false
set_option maxRecDepth 100000
/-! PE: typed data and what stands for it; equality, order, keys, sorting. -/
namespace PP
open PySem
theorem small_mono : ∀ (n m : Nat) (v : PV), n ≤ m → small n v = true → small m v = true
  | n, m, .non, _, _ => by cases m <;> rfl
  | n, m, .bl _, _, _ => by cases m <;> rfl
  | n, m, .int _, _, _ => by cases m <;> rfl
  | n, m, .str s, _, h => by cases n <;> cases m <;> exact h
  | 0, m, .tup xs, _, h => by simp [small] at h
  | 0, m, .lst xs, _, h => by simp [small] at h
  | n + 1, m, .tup xs, hm, h => by
    obtain ⟨m, rfl⟩ : ∃ k, m = k + 1 := ⟨m - 1, by omega⟩
    rw [small, List.all_eq_true] at h ⊢
    exact fun x hx => small_mono n m x (by omega) (h x hx)
  | n + 1, m, .lst xs, hm, h => by
    obtain ⟨m, rfl⟩ : ∃ k, m = k + 1 := ⟨m - 1, by omega⟩
    rw [small, List.all_eq_true] at h ⊢
    exact fun x hx => small_mono n m x (by omega) (h x hx)
  | n, m, .dic _, _, h => by cases n <;> simp [small] at h
  | n, m, .dki _ _, _, h => by cases n <;> simp [small] at h
  | n, m, .cup, _, h => by cases n <;> simp [small] at h
  | n, m, .scr _, _, h => by cases n <;> simp [small] at h
  | n, m, .rg _ _, _, h => by cases n <;> simp [small] at h
  | n, m, .fnv _, _, h => by cases n <;> simp [small] at h
theorem keyd_mono : ∀ (n m : Nat) (v : PV), n ≤ m → keyd n v = true → keyd m v = true
  | n, m, .non, _, _ => by cases m <;> rfl
  | n, m, .bl _, _, _ => by cases m <;> rfl
  | n, m, .int _, _, _ => by cases m <;> rfl
  | n, m, .str s, _, _ => by cases m <;> rfl
  | 0, m, .tup xs, _, h => by simp [keyd] at h
  | n + 1, m, .tup xs, hm, h => by
    obtain ⟨m, rfl⟩ : ∃ k, m = k + 1 := ⟨m - 1, by omega⟩
    rw [keyd, List.all_eq_true] at h ⊢
    exact fun x hx => keyd_mono n m x (by omega) (h x hx)
  | n, m, .lst _, _, h => by cases n <;> simp [keyd] at h
  | n, m, .dic _, _, h => by cases n <;> simp [keyd] at h
  | n, m, .dki _ _, _, h => by cases n <;> simp [keyd] at h
  | n, m, .cup, _, h => by cases n <;> simp [keyd] at h
  | n, m, .scr _, _, h => by cases n <;> simp [keyd] at h
  | n, m, .rg _ _, _, h => by cases n <;> simp [keyd] at h
  | n, m, .fnv _, _, h => by cases n <;> simp [keyd] at h
theorem dlt_self (d : PyData) : W.dataLt d d = false := PyProof.Rows.lex_irrefl _
class Enc (α : Type) [DecidableEq α] where
  e : α → PV
  d : Nat
  sm : ∀ a, small d (e a) = true
  kd : ∀ a, keyd d (e a) = true
  eq : ∀ a b, peq (e a) (e b) = decide (a = b)
  eqv : ∀ a b, PyData.eqv (toD (e a)) (toD (e b)) = decide (a = b)
  al : ∀ a b, W.alike (toD (e a)) (toD (e b)) = true
  lt : α → α → Bool
  ltd : ∀ a b, W.dataLt (toD (e a)) (toD (e b)) = lt a b
instance : Enc Int where
  e := .int
  d := 0
  sm _ := rfl
  kd _ := rfl
  eq a b := by rw [peq, Bool.eq_iff_iff]; simp
  eqv a b := by rw [toD, toD, PyData.eqv, Bool.eq_iff_iff]; simp
  al a b := by simp [toD, W.alike]
  lt a b := decide (a < b)
  ltd a b := by rw [toD, toD, W.dataLt_int]
instance : Enc Nat where
  e n := .int n
  d := 0
  sm _ := rfl
  kd _ := rfl
  eq a b := by rw [peq, Bool.eq_iff_iff]; simp; omega
  eqv a b := by rw [toD, toD, PyData.eqv, Bool.eq_iff_iff]; simp; omega
  al a b := by simp [toD, W.alike]
  lt a b := decide (a < b)
  ltd a b := by rw [toD, toD, W.dataLt_int, Bool.eq_iff_iff]; simp
def ltL {α : Type} [DecidableEq α] (lt : α → α → Bool) : List α → List α → Bool
  | [], [] => false
  | [], _ :: _ => true
  | _ :: _, [] => false
  | x :: xs, y :: ys => if x = y then ltL lt xs ys else lt x y
def ltP2 {α β : Type} [DecidableEq α] (lt : α → α → Bool) (lt2 : β → β → Bool) (a b : α × β) : Bool := if a.1 = b.1 then lt2 a.2 b.2 else lt a.1 b.1
section
variable {α β : Type} [DecidableEq α] [DecidableEq β] [Enc α] [Enc β]
theorem peqL_enc : ∀ xs ys : List α, peqL (xs.map Enc.e) (ys.map Enc.e) = decide (xs = ys)
  | [], [] => rfl
  | [], _ :: _ => rfl
  | _ :: _, [] => rfl
  | p :: ps, q :: qs => by
    rw [List.map_cons, List.map_cons, peqL, Enc.eq, peqL_enc ps qs, Bool.eq_iff_iff]
    simp
theorem eqvL_enc : ∀ xs ys : List α, PyData.eqvAll (toDs (xs.map Enc.e)) (toDs (ys.map Enc.e)) = decide (xs = ys)
  | [], [] => rfl
  | [], _ :: _ => rfl
  | _ :: _, [] => rfl
  | p :: ps, q :: qs => by
    rw [List.map_cons, List.map_cons, toDs, toDs, W.eqv_all_cons, Enc.eqv, eqvL_enc ps qs, Bool.eq_iff_iff]
    simp
theorem alL_enc : ∀ xs ys : List α, W.alikeAll (toDs (xs.map Enc.e)) (toDs (ys.map Enc.e)) = true
  | [], [] => by simp [toDs, W.alikeAll]
  | [], _ :: _ => by simp [toDs, W.alikeAll]
  | _ :: _, [] => by simp [toDs, W.alikeAll]
  | p :: ps, q :: qs => by
    rw [List.map_cons, List.map_cons, toDs, toDs, W.alikeAll, Enc.al, alL_enc ps qs]; rfl
theorem ltL_enc : ∀ xs ys : List α, PyProof.Rows.lexLt PyProof.Rows.itemOrd (W.keyToksAll (toDs (xs.map Enc.e))) (W.keyToksAll (toDs (ys.map Enc.e))) = ltL Enc.lt xs ys
  | [], [] => PyProof.Rows.lex_irrefl _
  | [], _ :: _ => by
    rw [List.map_nil, List.map_cons, toDs, toDs, W.toks_all_cons, W.keyToksAll, PyProof.Rows.lex_diff (by decide)]; rfl
  | _ :: _, [] => by
    rw [List.map_nil, List.map_cons, toDs, toDs, W.toks_all_cons, W.keyToksAll, PyProof.Rows.lex_diff (by decide)]; rfl
  | p :: ps, q :: qs => by
    rw [List.map_cons, List.map_cons, toDs, toDs, W.dataLt_cons (Enc.al p q), Enc.eqv, ltL, ltL_enc ps qs, Enc.ltd]
    simp only [decide_eq_true_eq]
instance : Enc (List α) where
  e xs := .tup (xs.map Enc.e)
  d := Enc.d α + 1
  sm xs := by
    rw [small, List.all_map, List.all_eq_true]
    exact fun x _ => Enc.sm x
  kd xs := by
    rw [keyd, List.all_map, List.all_eq_true]
    exact fun x _ => Enc.kd x
  eq a b := by rw [peq, peqL_enc]
  eqv a b := by rw [toD, toD, PyData.eqv, eqvL_enc]
  al a b := by rw [toD, toD, W.alike, alL_enc]
  lt := ltL Enc.lt
  ltd a b := by rw [toD, toD, W.dataLt_tuple, ltL_enc]
instance : Enc (α × β) where
  e p := .tup [Enc.e p.1, Enc.e p.2]
  d := max (Enc.d α) (Enc.d β) + 1
  sm p := by
    rw [small]
    simp only [List.all_cons, List.all_nil, Bool.and_true, Bool.and_eq_true]
    exact ⟨small_mono _ _ _ (Nat.le_max_left ..) (Enc.sm p.1), small_mono _ _ _ (Nat.le_max_right ..) (Enc.sm p.2)⟩
  kd p := by
    rw [keyd]
    simp only [List.all_cons, List.all_nil, Bool.and_true, Bool.and_eq_true]
    exact ⟨keyd_mono _ _ _ (Nat.le_max_left ..) (Enc.kd p.1), keyd_mono _ _ _ (Nat.le_max_right ..) (Enc.kd p.2)⟩
  eq a b := by
    rw [peq, peqL, peqL, peqL, Enc.eq, Enc.eq, Bool.eq_iff_iff]
    simp [Prod.ext_iff]
  eqv a b := by
    rw [toD, toD, PyData.eqv, toDs, toDs, toDs, toDs, toDs, toDs, W.eqv_all_cons, W.eqv_all_cons, Enc.eqv, Enc.eqv, show PyData.eqvAll [] [] = true from rfl, Bool.eq_iff_iff]
    simp [Prod.ext_iff]
  al a b := by
    rw [toD, toD, W.alike, toDs, toDs, toDs, toDs, toDs, W.alikeAll, W.alikeAll, Enc.al, Enc.al]
    simp [W.alikeAll]
  lt := ltP2 Enc.lt Enc.lt
  ltd a b := by
    rw [toD, toD, toDs, toDs, toDs, toDs, toDs, toDs, W.dataLt_pair (Enc.al _ _) (Enc.al _ _), Enc.eqv, Enc.eqv, Enc.ltd, Enc.ltd]
    unfold ltP2
    simp only [decide_eq_true_eq]
    by_cases h : a.1 = b.1
    · rw [if_pos h, if_pos h]
      by_cases h2 : a.2 = b.2
      · rw [if_pos h2, h2, ← Enc.ltd, dlt_self]
      · rw [if_neg h2]
    · rw [if_neg h, if_neg h]
end
section
variable {α : Type} [DecidableEq α] [Enc α]
theorem Enc.irrefl (a : α) : Enc.lt a a = false := by rw [← Enc.ltd, dlt_self]
theorem Enc.trans {a b c : α} (h1 : Enc.lt a b = true) (h2 : Enc.lt b c = true) : Enc.lt a c = true := by
  rw [← Enc.ltd] at *
  exact PyProof.Rows.lex_trans _ _ _ h1 h2
theorem Enc.neg {a b c : α} (h : Enc.lt a c = true) : Enc.lt a b = true ∨ Enc.lt b c = true := by
  rw [← Enc.ltd] at *
  rw [← Enc.ltd]
  exact PyProof.Rows.lex_negTrans _ _ _ h
theorem Enc.toks {a b : α} (h : W.keyToks (toD (Enc.e a)) = W.keyToks (toD (Enc.e b))) : a = b := by
  by_cases e : a = b
  · exact e
  · have h2 := (W.toks_eqv _ _ (Enc.al a b)).2 (by rw [Enc.eqv]; exact decide_eq_false e) [.inl 0] [.inl 1]
    rw [h, W.lex_pre, PyProof.Rows.lex_irrefl, PyProof.Rows.lex_diff (by decide)] at h2
    exact absurd h2 (by decide)
theorem Enc.total {a b : α} (h1 : Enc.lt a b = false) (h2 : Enc.lt b a = false) : a = b := by
  rw [← Enc.ltd] at *
  exact Enc.toks (PyProof.Rows.lex_total _ _ h1 h2)
def lte (a b : α) : Bool := !Enc.lt b a
theorem lte_trans (a b c : α) (h1 : lte a b = true) (h2 : lte b c = true) : lte a c = true := by
  unfold lte at *
  rw [Bool.not_eq_true'] at *
  cases h : Enc.lt c a with
  | false => rfl
  | true =>
    rcases Enc.neg (b := b) h with h | h
    · rw [h] at h2; exact absurd h2 (by decide)
    · rw [h] at h1; exact absurd h1 (by decide)
theorem lte_total (a b : α) : (lte a b || lte b a) = true := by
  unfold lte
  cases h : Enc.lt b a with
  | false => rfl
  | true =>
    cases h2 : Enc.lt a b with
    | false => rfl
    | true => exact absurd ((Enc.trans h2 h).symm.trans (Enc.irrefl a)) (by decide)
theorem lte_anti {a b : α} (h1 : lte a b = true) (h2 : lte b a = true) : a = b := by
  unfold lte at *
  rw [Bool.not_eq_true'] at *
  exact Enc.total h2 h1
theorem ple_enc (a b : α) : ple (Enc.e a) (Enc.e b) = lte a b := by unfold ple lte; rw [Enc.ltd]
/-- sorted -/
def srt (xs : List α) : List α := isortB lte xs
theorem srt_perm (xs : List α) : (srt xs).Perm xs := isortB_perm lte xs
theorem srt_len (xs : List α) : (srt xs).length = xs.length := (srt_perm xs).length_eq
theorem srt_mem {xs : List α} {x : α} : x ∈ srt xs ↔ x ∈ xs := (srt_perm xs).mem_iff
theorem srt_pw (xs : List α) : (srt xs).Pairwise fun a b => lte a b = true := isortB_pw lte_trans lte_total xs
theorem lt_lte {a b : α} (h : Enc.lt a b = true) : lte a b = true := by
  unfold lte
  cases h2 : Enc.lt b a with
  | false => rfl
  | true => exact absurd ((Enc.trans h h2).symm.trans (Enc.irrefl a)) (by decide)
theorem srt_uniq {xs ys : List α} (hp : ys.Perm xs) (hs : ys.Pairwise fun a b => lte a b = true) : srt xs = ys :=
  ((srt_perm xs).trans hp.symm).eq_of_pairwise (fun a b _ _ h1 h2 => lte_anti h1 h2) (srt_pw xs) hs
theorem srt_of_lt {xs ys : List α} (hp : ys.Perm xs) (hs : ys.Pairwise fun a b => Enc.lt a b = true) : srt xs = ys := srt_uniq hp (hs.imp lt_lte)
theorem srt_perm_eq {xs ys : List α} (hp : ys.Perm xs) : srt xs = srt ys := srt_uniq ((srt_perm ys).trans hp) (srt_pw ys)
theorem srt_idem (xs : List α) : srt (srt xs) = srt xs := srt_perm_eq (srt_perm xs).symm
theorem pw_lt_nodup {xs : List α} (h : xs.Pairwise fun a b => Enc.lt a b = true) : xs.Nodup := h.imp fun {a b} hab e => by
  subst e
  rw [Enc.irrefl] at hab
  exact absurd hab (by decide)
theorem sm_enc (xs : List α) {n : Nat} (h : Enc.d α ≤ n) : (xs.map (Enc.e (α := α))).all (small n) = true := by
  rw [List.all_map, List.all_eq_true]
  exact fun x _ => small_mono _ _ _ h (Enc.sm x)
theorem dat_enc (a : α) (h : Enc.d α ≤ 60) : dat (Enc.e a) = true := small_mono _ _ _ h (Enc.sm a)
theorem dat_lenc (xs : List α) (h : Enc.d α ≤ 59) : dat (.lst (xs.map (Enc.e (α := α)))) = true := by
  show (xs.map (Enc.e (α := α))).all (small 59) = true
  exact sm_enc xs h
theorem dat_tenc (xs : List α) (h : Enc.d α ≤ 59) : dat (.tup (xs.map (Enc.e (α := α)))) = true := by
  show (xs.map (Enc.e (α := α))).all (small 59) = true
  exact sm_enc xs h
theorem peq_lenc (xs ys : List α) : peq (.lst (xs.map (Enc.e (α := α)))) (.lst (ys.map Enc.e)) = decide (xs = ys) := by rw [peq, peqL_enc]
theorem peq_tenc (xs ys : List α) : peq (.tup (xs.map (Enc.e (α := α)))) (.tup (ys.map Enc.e)) = decide (xs = ys) := by rw [peq, peqL_enc]
theorem alike2_enc (xs : List α) : alikeAll2 (xs.map (Enc.e (α := α))) = true := by
  unfold alikeAll2
  rw [List.all_map, List.all_eq_true]
  intro x _
  show (xs.map (Enc.e (α := α))).all _ = true
  rw [List.all_map, List.all_eq_true]
  exact fun y _ => Enc.al x y
theorem isort_enc (xs : List α) : isortB ple (xs.map (Enc.e (α := α))) = (srt xs).map Enc.e := by
  have hm : ∀ ys : List α, isortB ple (ys.map (Enc.e (α := α))) = (isortB lte ys).map Enc.e := fun ys => by
    have hi : ∀ (x : α) (zs : List α), insB ple (Enc.e x) (zs.map (Enc.e (α := α))) = (insB lte x zs).map Enc.e := fun x zs => by
      induction zs with
      | nil => rfl
      | cons z r ih =>
        rw [List.map_cons, insB, ple_enc, ih, insB]
        split <;> rfl
    induction ys with
    | nil => rfl
    | cons y r ih => rw [List.map_cons, isortB, ih, hi]; rfl
  exact hm xs
theorem psort_enc {xs : List α} (hd : Enc.d α ≤ 60) (hl : xs.length ≤ LIM) (hk : ((xs.map (Enc.e (α := α))).all tupNE || (xs.map (Enc.e (α := α))).all notTup || tupE0 (xs.map (Enc.e (α := α)))) = true) : psort (xs.map (Enc.e (α := α))) = some (.lst ((srt xs).map Enc.e)) := by
  unfold psort
  rw [if_pos, isort_enc]
  simp only [Bool.and_eq_true, decide_eq_true_eq, List.length_map]
  refine ⟨⟨⟨hl, ?_⟩, alike2_enc xs⟩, hk⟩
  rw [List.all_map, List.all_eq_true]
  exact fun x _ => dat_enc x hd
theorem any_enc (x : α) (ys : List α) : ((ys.map Enc.e).any fun y => peq y (Enc.e x)) = decide (x ∈ ys) := by
  rw [List.any_map, Bool.eq_iff_iff, List.any_eq_true, decide_eq_true_eq]
  constructor
  · rintro ⟨y, hy, h⟩
    have : peq (Enc.e y) (Enc.e x) = true := h
    rw [Enc.eq, decide_eq_true_eq] at this
    exact this ▸ hy
  · exact fun h => ⟨x, h, by show peq (Enc.e x) (Enc.e x) = true; rw [Enc.eq]; simp⟩
theorem pin_tenc (x : α) (ys : List α) (h : Enc.d α ≤ 59) : pin (Enc.e x) (.tup (ys.map Enc.e)) = some (decide (x ∈ ys)) := by
  rw [pin, dat_enc x (by omega), dat_tenc ys h]
  simp only [Bool.and_self, if_true, any_enc]
theorem pin_lenc (x : α) (ys : List α) (h : Enc.d α ≤ 59) : pin (Enc.e x) (.lst (ys.map Enc.e)) = some (decide (x ∈ ys)) := by
  rw [pin, dat_enc x (by omega), dat_lenc ys h]
  simp only [Bool.and_self, if_true, any_enc]
/-- the place of an item -/
def ixOf {γ : Type} [DecidableEq γ] (xs : List γ) (q : γ) : Nat := xs.idxOf q
theorem ixOf_cons {γ : Type} [DecidableEq γ] (x q : γ) (r : List γ) : ixOf (x :: r) q = if x = q then 0 else ixOf r q + 1 := by
  unfold ixOf
  rw [List.idxOf_cons]
  by_cases h : x = q
  · simp [h]
  · have : (x == q) = false := by simp [h]
    rw [this, if_neg h]; rfl
theorem idxOf_enc (x : α) : ∀ (ys : List α) (n : Nat), idxOf (Enc.e x) (ys.map Enc.e) n = if x ∈ ys then some (n + ys.idxOf x) else none
  | [], n => by simp [idxOf]
  | y :: r, n => by
    rw [List.map_cons, idxOf, Enc.eq, idxOf_enc x r (n + 1), List.idxOf_cons]
    by_cases h : y = x
    · simp [h]
    · have h' : ¬ x = y := fun e => h e.symm
      have h2 : (y == x) = false := by simp [h]
      simp only [decide_eq_true_eq, h, if_false, List.mem_cons, h', false_or, h2, cond_false]
      by_cases h3 : x ∈ r
      · rw [if_pos h3, if_pos h3]; congr 1; omega
      · rw [if_neg h3, if_neg h3]
theorem index_enc {x : α} {ys : List α} (h : Enc.d α ≤ 59) (hm : x ∈ ys) : mthop .index (.lst (ys.map Enc.e)) [Enc.e x] = some (.int (ixOf ys x : Nat)) := by
  rw [mthop, dat_enc x (by omega), dat_lenc ys h, idxOf_enc]
  simp [hm, ixOf]
theorem count_enc (x : α) (ys : List α) (h : Enc.d α ≤ 59) : mthop .count (.lst (ys.map Enc.e)) [Enc.e x] = some (.int (ys.count x : Nat)) := by
  rw [mthop, dat_enc x (by omega), dat_lenc ys h]
  simp only [Bool.and_self, if_true, List.countP_map]
  congr 3
  rw [List.count]
  refine List.countP_congr fun y _ => ?_
  show peq (Enc.e y) (Enc.e x) = true ↔ _
  rw [Enc.eq]; simp
end
end PP

set_option Elab.async false
set_option linter.all false
set_option maxRecDepth 100000
/-! PG: all parts of a list, in the orders in which they come. -/
namespace PP
open PySem
section
variable {α : Type}
/-- the parts with and without one more item behind -/
def subS (acc : List (List α)) (p : α) : List (List α) := acc ++ acc.map (· ++ [p])
/-- all parts of a list, as they come when its items are put behind -/
def subs (l : List α) : List (List α) := l.foldl subS [[]]
/-- the parts with and without one more item ahead -/
def subF (acc : List (List α)) (p : α) : List (List α) := acc ++ acc.map (p :: ·)
def subsF (l : List α) : List (List α) := l.foldl subF [[]]
theorem subs_snoc (l : List α) (p : α) : subs (l ++ [p]) = subs l ++ (subs l).map (· ++ [p]) := by
  unfold subs
  rw [List.foldl_append]; rfl
theorem subs_nil : subs ([] : List α) = [[]] := rfl
theorem rev_ind {P : List α → Prop} (h0 : P []) (h1 : ∀ l x, P l → P (l ++ [x])) (l : List α) : P l := by
  have : ∀ n, ∀ l : List α, l.length = n → P l := fun n => by
    induction n with
    | zero => intro l hl; rw [List.length_eq_zero_iff.mp hl]; exact h0
    | succ n ih =>
      intro l hl
      have hne : l ≠ [] := fun e => by rw [e] at hl; simp at hl
      rw [← List.dropLast_concat_getLast hne]
      exact h1 _ _ (ih _ (by rw [List.length_dropLast]; omega))
  exact this _ l rfl
theorem subs_len (l : List α) : (subs l).length = 2 ^ l.length := by
  refine rev_ind (P := fun l : List α => (subs l).length = 2 ^ l.length) rfl (fun l x ih => ?_) l
  rw [subs_snoc, List.length_append, List.length_map, ih, List.length_append, Nat.pow_add]
  simp only [List.length_cons, List.length_nil]
  omega
theorem mem_subs {l : List α} {x : List α} : x ∈ subs l ↔ x.Sublist l := by
  refine rev_ind (P := fun l : List α => ∀ x, x ∈ subs l ↔ x.Sublist l) (fun x => ?_) (fun l p ih x => ?_) l x
  · rw [subs_nil, List.mem_singleton, List.sublist_nil]
  · rw [subs_snoc, List.mem_append, ih, List.mem_map]
    constructor
    · rintro (h | ⟨y, hy, rfl⟩)
      · exact h.trans (List.sublist_append_left ..)
      · exact ((ih y).mp hy).append (List.Sublist.refl _)
    · intro h
      obtain ⟨a, b, rfl, ha, hb⟩ := List.sublist_append_iff.mp h
      cases hb with
      | cons _ hb =>
        rw [List.sublist_nil.mp hb, List.append_nil]
        exact .inl ha
      | cons_cons _ hb =>
        rw [List.sublist_nil.mp hb]
        exact .inr ⟨a, (ih a).mpr ha, rfl⟩
theorem subs_nodup {l : List α} (h : l.Nodup) : (subs l).Nodup := by
  revert h
  refine rev_ind (P := fun l : List α => l.Nodup → (subs l).Nodup) (fun _ => ?_) (fun l p ih h => ?_) l
  · rw [subs_nil]; exact (by simp [List.Nodup])
  · rw [List.nodup_append] at h
    obtain ⟨h1, _, h3⟩ := h
    rw [subs_snoc, List.nodup_append]
    refine ⟨ih h1, ?_, fun a ha b hb e => ?_⟩
    · unfold List.Nodup
      rw [List.pairwise_map]
      exact (ih h1).imp fun hab e => hab (List.append_cancel_right e)
    · subst e
      obtain ⟨y, _, rfl⟩ := List.mem_map.mp hb
      have : p ∈ l := (mem_subs.mp ha).subset (List.mem_append.mpr (.inr (List.mem_singleton.mpr rfl)))
      exact h3 p this p (List.mem_singleton.mpr rfl) rfl
theorem subsF_cons (l : List α) (p : α) : subsF (l ++ [p]) = subsF l ++ (subsF l).map (p :: ·) := by
  unfold subsF
  rw [List.foldl_append]; rfl
theorem subsF_len (l : List α) : (subsF l).length = 2 ^ l.length := by
  refine rev_ind (P := fun l : List α => (subsF l).length = 2 ^ l.length) rfl (fun l x ih => ?_) l
  rw [subsF_cons, List.length_append, List.length_map, ih, List.length_append, Nat.pow_add]
  simp only [List.length_cons, List.length_nil]
  omega
/-- parts of the list turned -/
theorem mem_subsF {l : List α} {x : List α} : x ∈ subsF l ↔ x.Sublist l.reverse := by
  refine rev_ind (P := fun l : List α => ∀ x, x ∈ subsF l ↔ x.Sublist l.reverse) (fun x => ?_) (fun l p ih x => ?_) l x
  · show x ∈ [[]] ↔ _
    rw [List.mem_singleton, List.reverse_nil, List.sublist_nil]
  · rw [subsF_cons, List.mem_append, ih, List.mem_map, List.reverse_append, List.reverse_singleton, List.singleton_append, List.sublist_cons_iff]
    constructor
    · rintro (h | ⟨y, hy, rfl⟩)
      · exact .inl h
      · exact .inr ⟨y, rfl, (ih y).mp hy⟩
    · rintro (h | ⟨y, rfl, hy⟩)
      · exact .inl h
      · exact .inr ⟨y, (ih y).mpr hy, rfl⟩
theorem subsF_nodup {l : List α} (h : l.Nodup) : (subsF l).Nodup := by
  revert h
  refine rev_ind (P := fun l : List α => l.Nodup → (subsF l).Nodup) (fun _ => (by show ([[]] : List (List α)).Nodup; simp [List.Nodup])) (fun l p ih h => ?_) l
  · rw [List.nodup_append] at h
    obtain ⟨h1, _, h3⟩ := h
    rw [subsF_cons, List.nodup_append]
    refine ⟨ih h1, ?_, fun a ha b hb e => ?_⟩
    · unfold List.Nodup
      rw [List.pairwise_map]
      exact (ih h1).imp fun hab e => hab (List.cons.inj e).2
    · subst e
      obtain ⟨y, _, rfl⟩ := List.mem_map.mp hb
      have : p ∈ l := List.mem_reverse.mp ((mem_subsF.mp ha).subset (List.mem_cons_self ..))
      exact h3 p this p (List.mem_singleton.mpr rfl) rfl
theorem subsF_perm [DecidableEq α] {l : List α} (h : l.Nodup) : (subsF l.reverse).Perm (subs l) := by
  rw [List.perm_ext_iff_of_nodup (subsF_nodup ((List.reverse_perm l).nodup_iff.mpr h)) (subs_nodup h)]
  intro x
  rw [mem_subsF, mem_subs, List.reverse_reverse]
end
/-! ### in order -/
section
variable {α : Type} [DecidableEq α] [Enc α]
def lexs : List α → List (List α)
  | [] => [[]]
  | p :: r => [] :: ((lexs r).map (p :: ·) ++ (lexs r).tail)
theorem lexs_eq : ∀ l : List α, lexs l = [] :: (lexs l).tail
  | [] => rfl
  | _ :: _ => rfl
theorem mem_lexs : ∀ {l x : List α}, x ∈ lexs l ↔ x.Sublist l
  | [], x => by rw [lexs, List.mem_singleton, List.sublist_nil]
  | p :: r, x => by
    rw [lexs, List.mem_cons, List.mem_append, List.mem_map, List.sublist_cons_iff]
    have ht : x ∈ lexs r ↔ x = [] ∨ x ∈ (lexs r).tail := by
      conv => lhs; rw [lexs_eq]
      rw [List.mem_cons]
    constructor
    · rintro (rfl | ⟨y, hy, rfl⟩ | h)
      · exact .inl (List.nil_sublist _)
      · exact .inr ⟨y, rfl, mem_lexs.mp hy⟩
      · exact .inl (mem_lexs.mp (List.mem_of_mem_tail h))
    · rintro (h | ⟨y, rfl, hy⟩)
      · rcases ht.mp (mem_lexs.mpr h) with h | h
        · exact .inl h
        · exact .inr (.inr h)
      · exact .inr (.inl ⟨y, mem_lexs.mpr hy, rfl⟩)
theorem lexs_pw : ∀ {l : List α}, (l.Pairwise fun a b => Enc.lt a b = true) → (lexs l).Pairwise fun a b => Enc.lt a b = true
  | [], _ => List.pairwise_singleton _ _
  | p :: r, h => by
    obtain ⟨h1, h2⟩ := List.pairwise_cons.mp h
    have ih := lexs_pw h2
    have ih' := ih
    rw [lexs_eq, List.pairwise_cons] at ih'
    have hne : ∀ b ∈ (lexs r).tail, ∃ q b', b = q :: b' ∧ q ∈ r := fun b hb => by
      have h3 : Enc.lt [] b = true := ih'.1 b hb
      have h4 := mem_lexs.mp (List.mem_of_mem_tail hb)
      cases b with
      | nil => exact absurd (h3.symm.trans (Enc.irrefl _)) (by decide)
      | cons q b' => exact ⟨q, b', rfl, h4.subset (List.mem_cons_self ..)⟩
    rw [lexs, List.pairwise_cons, List.pairwise_append]
    refine ⟨fun b hb => ?_, ?_, ih'.2, fun a ha b hb => ?_⟩
    · rcases List.mem_append.mp hb with hb | hb
      · obtain ⟨y, _, rfl⟩ := List.mem_map.mp hb
        rfl
      · exact ih'.1 b hb
    · rw [List.pairwise_map]
      refine ih.imp fun {a b} hab => ?_
      show ltL Enc.lt (p :: a) (p :: b) = true
      rw [ltL, if_pos rfl]; exact hab
    · obtain ⟨y, _, rfl⟩ := List.mem_map.mp ha
      obtain ⟨q, b', rfl, hq⟩ := hne b hb
      have h5 := h1 q hq
      show ltL Enc.lt (p :: y) (q :: b') = true
      rw [ltL, if_neg]
      · exact h5
      · intro e
        subst e
        exact absurd (h5.symm.trans (Enc.irrefl _)) (by decide)
theorem lexs_nodup {l : List α} (h : l.Pairwise fun a b => Enc.lt a b = true) : (lexs l).Nodup := pw_lt_nodup (lexs_pw h)
theorem lexs_perm {l : List α} (h : l.Pairwise fun a b => Enc.lt a b = true) : (lexs l).Perm (subs l) := by
  rw [List.perm_ext_iff_of_nodup (lexs_nodup h) (subs_nodup (pw_lt_nodup h))]
  intro x
  rw [mem_lexs, mem_subs]
theorem srt_subs {l : List α} (h : l.Pairwise fun a b => Enc.lt a b = true) : srt (subs l) = lexs l := srt_of_lt (lexs_perm h) (lexs_pw h)
theorem srt_subsF {l : List α} (h : l.Pairwise fun a b => Enc.lt a b = true) : srt (subsF l.reverse) = lexs l := (srt_perm_eq (subsF_perm (pw_lt_nodup h)).symm).trans (srt_subs h)
end
end PP

set_option Elab.async false
set_option linter.all false
set_option maxRecDepth 100000
/-! PD: dicts of places, of answers. -/
namespace PP
open PySem
section
variable {γ : Type} [DecidableEq γ] (f : γ → PV) (hf : ∀ a b, peq (f a) (f b) = decide (a = b)) (hk : ∀ a, isKey (f a) = true)
theorem enumV_map {δ : Type} (g : δ → PV) : ∀ (xs : List δ) (n : Nat), enumV n (xs.map g) = (xs.zipIdx n).map fun p => .tup [.int (p.2 : Nat), g p.1]
  | [], _ => rfl
  | x :: xs, n => by
    rw [List.map_cons, enumV, enumV_map g xs (n + 1), List.zipIdx_cons, List.map_cons]
include hk in
theorem asPairs_map {δ : Type} (h : δ → γ) (g : δ → PV) : ∀ xs : List δ, asPairs (xs.map fun p => .tup [f (h p), g p]) = some (xs.map fun p => (f (h p), g p))
  | [] => rfl
  | p :: r => by
    rw [List.map_cons, asPairs, hk, if_pos rfl, asPairs_map h g r]
    rfl
include hf in
theorem dget_map {δ : Type} (h : δ → γ) (g : δ → PV) (q : γ) : ∀ xs : List δ, dget (xs.map fun p => (f (h p), g p)) (f q) = (xs.find? fun p => decide (h p = q)).map g
  | [] => rfl
  | p :: r => by
    rw [List.map_cons, dget, hf, dget_map h g q r, List.find?_cons]
    cases e : decide (h p = q) <;> simp
include hf in
theorem distK_map {δ : Type} (h : δ → γ) (g : δ → PV) : ∀ {xs : List δ}, (xs.map h).Nodup → distK (xs.map fun p => (f (h p), g p)) = true
  | [], _ => rfl
  | p :: r, hn => by
    rw [List.map_cons, List.nodup_cons] at hn
    rw [List.map_cons, distK, distK_map h g hn.2, dget_map f hf h g (h p) r]
    have : r.find? (fun q => decide (h q = h p)) = none := by
      rw [List.find?_eq_none]
      intro x hx hh
      exact hn.1 (List.mem_map.mpr ⟨x, hx, of_decide_eq_true hh⟩)
    rw [this]; rfl
include hf hk in
theorem dict_map {δ : Type} (h : δ → γ) (g : δ → PV) {xs : List δ} (hn : (xs.map h).Nodup) (hl : xs.length ≤ LIM) : bltop .dict [.lst (xs.map fun p => .tup [f (h p), g p])] = some (.dic (xs.map fun p => (f (h p), g p))) := by
  show (asPairs _).bind _ = _
  rw [asPairs_map f hk h g xs, Option.bind_some, if_pos]
  rw [distK_map f hf h g hn]
  simpa using hl
theorem zipIdx_fst (xs : List γ) (n : Nat) : (xs.zipIdx n).map (fun p => p.1) = xs := by
  induction xs generalizing n with
  | nil => rfl
  | cons x r ih => rw [List.zipIdx_cons, List.map_cons, ih]
/-- places of a list's items -/
def numD (xs : List γ) : PV := .dic (xs.zipIdx.map fun p => (f p.1, .int (p.2 : Nat)))
include hf hk in
theorem dict_num {xs : List γ} (hn : xs.Nodup) (hl : xs.length ≤ LIM) : bltop .dict [.lst (xs.zipIdx.map fun p => .tup [f p.1, .int (p.2 : Nat)])] = some (numD f xs) :=
  dict_map f hf hk (fun p : γ × Nat => p.1) (fun p => .int (p.2 : Nat)) (by rw [zipIdx_fst]; exact hn) (by rw [List.length_zipIdx]; exact hl)
theorem find_zipIdx (q : γ) : ∀ (xs : List γ) (n : Nat), q ∈ xs → (xs.zipIdx n).find? (fun p => decide (p.1 = q)) = some (q, n + xs.idxOf q)
  | [], _, h => by simp at h
  | x :: r, n, h => by
    rw [List.zipIdx_cons, List.find?_cons, List.idxOf_cons]
    by_cases e : x = q
    · subst e; simp
    · have e2 : (x == q) = false := by simp [e]
      simp only [decide_eq_false e, e2, cond_false]
      rw [find_zipIdx q r (n + 1) (by
        rcases List.mem_cons.mp h with h | h
        · exact absurd h.symm e
        · exact h)]
      congr 2; omega
include hf hk in
theorem item_num {xs : List γ} {q : γ} {c : List PV} (h : q ∈ xs) : item (numD f xs) (f q) c = some (.int (ixOf xs q : Nat)) := by
  unfold numD
  rw [item]
  · rw [hk, if_pos rfl, dget_map f hf (fun p : γ × Nat => p.1) (fun p => .int (p.2 : Nat)) q, find_zipIdx q xs 0 h]
    simp [ixOf]
  all_goals (intro _ _; intros; first | contradiction | skip)
end
section
variable {γ : Type} [DecidableEq γ] (f : γ → PV) (hf : ∀ a b, peq (f a) (f b) = decide (a = b))
include hf in
theorem idxOf_map (x : γ) : ∀ (ys : List γ) (n : Nat), idxOf (f x) (ys.map f) n = if x ∈ ys then some (n + ixOf ys x) else none
  | [], n => by simp [idxOf]
  | y :: r, n => by
    rw [List.map_cons, idxOf, hf, idxOf_map x r (n + 1), ixOf_cons]
    by_cases h : y = x
    · simp [h]
    · have h' : ¬ x = y := fun e => h e.symm
      simp only [decide_eq_true_eq, h, if_false, List.mem_cons, h', false_or]
      by_cases h3 : x ∈ r
      · rw [if_pos h3, if_pos h3]; congr 1; omega
      · rw [if_neg h3, if_neg h3]
include hf in
theorem index_map {x : γ} {ys : List γ} (h1 : dat (f x) = true) (h2 : dat (.lst (ys.map f)) = true) (hm : x ∈ ys) : mthop .index (.lst (ys.map f)) [f x] = some (.int (ixOf ys x : Nat)) := by
  rw [mthop, h1, h2, idxOf_map f hf]
  simp [hm]
theorem ixOf_get {ys : List γ} (h : ys.Nodup) {i : Nat} (hi : i < ys.length) : ixOf ys ys[i] = i := by
  unfold ixOf
  exact List.Nodup.idxOf_getElem h i hi
theorem get_ixOf {ys : List γ} {x : γ} (h : x ∈ ys) : ys[ixOf ys x]? = some x := by
  unfold ixOf
  rw [List.getElem?_eq_getElem (List.idxOf_lt_length_of_mem h), List.getElem_idxOf]
theorem ixOf_lt {ys : List γ} {x : γ} (h : x ∈ ys) : ixOf ys x < ys.length := by
  unfold ixOf
  exact List.idxOf_lt_length_of_mem h
end
/-! ### loops that look for something -/
section
variable {FN : Type} {C : FN → List PV → List PV → R PV} {t : Tg} {it : Ie FN}
theorem forL_find {α : Type} {f : PV → Env → List PV → SR} {φ : α → PV} {I : Env → Prop} {g : α → Option PV} {c : List PV} : ∀ (xs : List α) (env : Env), I env → (∀ x ∈ xs, ∀ env, I env → (∀ v, g x = some v → f (φ x) env c = .rt v c) ∧ (g x = none → ∃ env', f (φ x) env c = .nx env' c ∧ I env')) →
    (∀ v, xs.findSome? g = some v → forL f (xs.map φ) env c = .rt v c) ∧ (xs.findSome? g = none → ∃ env', forL f (xs.map φ) env c = .nx env' c ∧ I env')
  | [], env, h, _ => ⟨fun v hv => (by cases hv), fun _ => ⟨env, rfl, h⟩⟩
  | x :: r, env, h, hx => by
    obtain ⟨h1, h2⟩ := hx x (List.mem_cons_self ..) env h
    rw [List.findSome?_cons, List.map_cons, forL]
    cases hg : g x with
    | some v =>
      refine ⟨fun w hw => ?_, fun hn => (by cases hn)⟩
      cases hw
      rw [h1 v hg, SR.bind_rt]
    | none =>
      obtain ⟨env', e, i⟩ := h2 hg
      rw [e, SR.bind_nx]
      exact forL_find r env' i fun y hy => hx y (List.mem_cons_of_mem _ hy)
theorem fr_find {α : Type} {b : List (Sm FN)} {φ : α → PV} {I : Env → Prop} {g : α → Option PV} {as : List α} {env : Env} {c : List PV} (h : I env) (hi : evalI C it env c = .ok (as.map φ) c)
    (hx : ∀ x ∈ as, ∀ env, I env → ∃ env1, bindT t (φ x) env = some env1 ∧ (∀ v, g x = some v → execSs C b env1 c = .rt v c) ∧ (g x = none → ∃ env', execSs C b env1 c = .nx env' c ∧ I env')) :
    (∀ v, as.findSome? g = some v → execS C (.fr t it b) env c = .rt v c) ∧ (as.findSome? g = none → ∃ env', execS C (.fr t it b) env c = .nx env' c ∧ I env') := by
  have := forL_find (I := I) (g := g) (φ := φ) (f := fun x env c => match bindT t x env with
      | some env1 => execSs C b env1 c
      | none => .stuck) (c := c) as env h fun x hm env i => by
    obtain ⟨env1, h1, h2⟩ := hx x hm env i
    simp only [h1]; exact h2
  rw [execS, hi, R.st_ok]
  exact this
end
end PP

set_option Elab.async false
set_option linter.all false
set_option maxRecDepth 100000
namespace K44
open PySem PP
/-! K06A: the defs of companies. -/

/-! ### values that are looked at -/
/-! ### pairs -/
/-! ### companies -/
/-! ### the cup -/
def Cup (c : List PV) : Prop := ∃ a b : Int, c = [.int a, .int b]
theorem smallI_mod (x m : Int) (h1 : 0 < m) (h2 : m < 2 ^ 64) : smallI (x % m) = true := by
  unfold smallI
  have e1 := Int.emod_nonneg x (Int.ne_of_gt h1)
  have e2 := Int.emod_lt_of_pos x h1
  rw [decide_eq_true_iff]
  omega
theorem smallI_c : smallI 30983 = true := by decide
theorem f__law_roll (k : Nat) (m : Int) (c : List PV) (hc : Cup c) (h1 : 0 < m) (h2 : m < 1073741824) : ∃ r c', callK P (k + 1) n__law_roll [.cup, .int m] c = .ok (.int r) c' ∧ Cup c' ∧ 0 ≤ r ∧ r < m := by
  obtain ⟨a, b, rfl⟩ := hc
  by_cases ha : 0 < a
  · refine ⟨a % m, [.int (a / m), .int b], call_ok rfl rfl ?_, ⟨_, _, rfl⟩, Int.emod_nonneg _ (by omega), Int.emod_lt_of_pos _ h1⟩
    simp -implicitDefEqProofs only [e_con, e_var, e_bor, e_bin, k_bin, k_bin2, e_cmp, k_cmp, k_cmp2, e_neg, k_neg, e_nt, k_nt, k_truth, k_optB, e_and, k_and, k_andT, k_andF, e_or, k_or, k_orT, k_orF, e_ite, k_iteT, k_iteF, e_chain, k_ch, k_ch2, k_ch3T, k_ch3F, e_tup, k_tup, e_lst, k_lst, e_ix, k_ix, k_ix2, e_sl, k_sl, k_sl2, k_sl3, e_call, k_call, e_blt, k_blt, e_mth, k_mth, k_mth2, e_isin, k_is, e_pick, k_pick, k_pick2, e_dcat, k_dc, k_dc1, k_dc2, e_dadd, k_da, k_da1, k_da2, k_da3, es_nil, es_cons, k_es, k_es2, o_none, o_some, k_o, c_none, c_some, i_seq, k_seqT, k_seqL, k_seqD, i_r1, k_r1, i_r2, k_r2, k_r3, i_zip, k_zip, k_zipT, k_zipL, k_zipLT, i_enum, k_enum, k_enumT, s_asg, k_asg, s_own, k_own2, k_slotL, k_slotD, k_slotI, k_slotV, s_par, k_par, k_par2, s_par3, k_par3a, k_par3b, k_par3c, s_frz, s_app, k_app, k_app2, s_ife, k_ifeT, k_ifeF, s_whl, k_w, k_wT, k_wF, k_wN, k_wR, s_ret, k_ret, s_exp, k_exp, s_setC, k_setC, k_cup0, k_cup1, s_ap, k_ap, k_ap2, k_ap3, s_rc, k_rc, s_tryR, k_tryR, ss_nil, ss_cons, k_ssN, k_ssR, finR_rt, finR_nx, pureR_some, varv_0, varv_s, borv_0, borv_0o, borv_s, truth, startP, List.map_cons, List.map_nil, List.replicate_succ, List.replicate_zero, List.cons_append, List.nil_append, Nat.reduceSub, Nat.reduceAdd, bindT, bindTs, optS_some, List.set_cons_succ, List.set_cons_zero, wipeP, mkTup_0, mkTup_1, mkTup_2, mkTup_3, mkTup_4, mkTup_5, mkTup_6, mkTup_7, mkTup_8, mkLst_0, mkLst_1, mkLst_2, mkLst_3, mkLst_4, mkLst_5, mkLst_6, mkLst_7, mkLst_8, mkLst_9, mkLst_10, mkLst_11, mkLst_12, mkLst_13, mkLst_14, mkLst_15, mkLst_16, binop, cmpop, blV, Option.map_some, isTy, bltop, Bool.not_true, Bool.not_false, item_0, item_1, item_2, item_3, item_c0, item_c1, Option.bind_some, List.getElem?_cons_zero, List.getElem?_cons_succ, if_true, if_false, Bool.false_eq_true, and_self, dat_int, dat_bl, dat_non, peq_int, peq_bl, peq_nonnon, Int.cast_ofNat_Int, Int.reduceEq, Bool.and_self, List.length_cons, List.length_nil, Int.reduceLT, Int.reduceLE, Int.reduceAdd, Int.reduceSub, Nat.reduceLT, Nat.reduceLeDiff, decide_true, decide_false, Bool.or_true, Bool.true_or, true_and, and_true, b__law_roll, ha, h1, h2, decide_true]
  · refine ⟨((((b * 30983 + 7933) % 2147483563) * (((b * 30983 + 7933) % 2147483563) + 197)) % 2147483587 / 773) % m, [.int a, .int ((b * 30983 + 7933) % 2147483563)], call_ok rfl rfl ?_, ⟨_, _, rfl⟩, Int.emod_nonneg _ (by omega), Int.emod_lt_of_pos _ h1⟩
    have e := smallI_mod (b * 30983 + 7933) 2147483563 (by decide) (by decide)
    simp -implicitDefEqProofs only [e_con, e_var, e_bor, e_bin, k_bin, k_bin2, e_cmp, k_cmp, k_cmp2, e_neg, k_neg, e_nt, k_nt, k_truth, k_optB, e_and, k_and, k_andT, k_andF, e_or, k_or, k_orT, k_orF, e_ite, k_iteT, k_iteF, e_chain, k_ch, k_ch2, k_ch3T, k_ch3F, e_tup, k_tup, e_lst, k_lst, e_ix, k_ix, k_ix2, e_sl, k_sl, k_sl2, k_sl3, e_call, k_call, e_blt, k_blt, e_mth, k_mth, k_mth2, e_isin, k_is, e_pick, k_pick, k_pick2, e_dcat, k_dc, k_dc1, k_dc2, e_dadd, k_da, k_da1, k_da2, k_da3, es_nil, es_cons, k_es, k_es2, o_none, o_some, k_o, c_none, c_some, i_seq, k_seqT, k_seqL, k_seqD, i_r1, k_r1, i_r2, k_r2, k_r3, i_zip, k_zip, k_zipT, k_zipL, k_zipLT, i_enum, k_enum, k_enumT, s_asg, k_asg, s_own, k_own2, k_slotL, k_slotD, k_slotI, k_slotV, s_par, k_par, k_par2, s_par3, k_par3a, k_par3b, k_par3c, s_frz, s_app, k_app, k_app2, s_ife, k_ifeT, k_ifeF, s_whl, k_w, k_wT, k_wF, k_wN, k_wR, s_ret, k_ret, s_exp, k_exp, s_setC, k_setC, k_cup0, k_cup1, s_ap, k_ap, k_ap2, k_ap3, s_rc, k_rc, s_tryR, k_tryR, ss_nil, ss_cons, k_ssN, k_ssR, finR_rt, finR_nx, pureR_some, varv_0, varv_s, borv_0, borv_0o, borv_s, truth, startP, List.map_cons, List.map_nil, List.replicate_succ, List.replicate_zero, List.cons_append, List.nil_append, Nat.reduceSub, Nat.reduceAdd, bindT, bindTs, optS_some, List.set_cons_succ, List.set_cons_zero, wipeP, mkTup_0, mkTup_1, mkTup_2, mkTup_3, mkTup_4, mkTup_5, mkTup_6, mkTup_7, mkTup_8, mkLst_0, mkLst_1, mkLst_2, mkLst_3, mkLst_4, mkLst_5, mkLst_6, mkLst_7, mkLst_8, mkLst_9, mkLst_10, mkLst_11, mkLst_12, mkLst_13, mkLst_14, mkLst_15, mkLst_16, binop, cmpop, blV, Option.map_some, isTy, bltop, Bool.not_true, Bool.not_false, item_0, item_1, item_2, item_3, item_c0, item_c1, Option.bind_some, List.getElem?_cons_zero, List.getElem?_cons_succ, if_true, if_false, Bool.false_eq_true, and_self, dat_int, dat_bl, dat_non, peq_int, peq_bl, peq_nonnon, Int.cast_ofNat_Int, Int.reduceEq, Bool.and_self, List.length_cons, List.length_nil, Int.reduceLT, Int.reduceLE, Int.reduceAdd, Int.reduceSub, Nat.reduceLT, Nat.reduceLeDiff, decide_true, decide_false, Bool.or_true, Bool.true_or, true_and, and_true, b__law_roll, ha, h1, h2, smallI_c, e]
/-! K06B: the law's own looks at companies. -/
/-! ### sorted ties -/
/-! ### lists of ones -/
/-! ### _law_are_whole -/
/-! ### _law_judged -/
/-! K06G: the law's own looks. -/
/-! ### lists of whole numbers and of answers -/
section
variable {named n : Nat} {ps : List (Int × Int)}
theorem smallI_251 : smallI 251 = true := by decide
theorem pow18 : (if (10 : Int).natAbs < 2 ^ 64 then some (PV.int ((10 : Int) ^ (18 : Int).toNat)) else none) = some (.int 1000000000000000000) := by rfl
theorem rc2 {env : PP.Env} {x y : PV} : kRc env (.ok [x, y] []) = .rt .cup [x, y] := rfl
theorem f__law_cup (k : Nat) (ns : List Int) (hl : ns.length ≤ 63) : ∃ c, callK P (k + 1) n__law_cup [.scr ns] [] = .ok .cup c ∧ Cup c := by
  have e1 : mkLst (ns.map PV.int ++ [.int 0]) = some (.lst (ns.map PV.int ++ [.int 0])) := mkLst_s (by simp only [List.length_append, List.length_map, List.length_singleton]; unfold LIM; omega)
  have e2 : ∃ x, item (.lst (ns.map PV.int ++ [.int 0])) (.int 0) [] = some (.int x) := by
    cases ns with
    | nil => exact ⟨0, rfl⟩
    | cons y r => exact ⟨y, item_lst (i := 0) rfl⟩
  obtain ⟨x, e2⟩ := e2
  generalize hy : (if x < 0 then -x else x) = y
  by_cases h : 1000000000000000000 ≤ y
  · refine ⟨[.int (y / 43), .int ((y * 251 + 2111) % 2077503301 + 137)], call_ok rfl rfl ?_, _, _, rfl⟩
    simp -implicitDefEqProofs only [e_con, e_var, e_bor, e_bin, k_bin, k_bin2, e_cmp, k_cmp, k_cmp2, e_neg, k_neg, e_nt, k_nt, k_truth, k_optB, e_and, k_and, k_andT, k_andF, e_or, k_or, k_orT, k_orF, e_ite, k_iteT, k_iteF, e_chain, k_ch, k_ch2, k_ch3T, k_ch3F, e_tup, k_tup, e_lst, k_lst, e_ix, k_ix, k_ix2, e_sl, k_sl, k_sl2, k_sl3, e_call, k_call, e_blt, k_blt, e_mth, k_mth, k_mth2, e_isin, k_is, e_pick, k_pick, k_pick2, e_dcat, k_dc, k_dc1, k_dc2, e_dadd, k_da, k_da1, k_da2, k_da3, es_nil, es_cons, k_es, k_es2, o_none, o_some, k_o, c_none, c_some, i_seq, k_seqT, k_seqL, k_seqD, i_r1, k_r1, i_r2, k_r2, k_r3, i_zip, k_zip, k_zipT, k_zipL, k_zipLT, i_enum, k_enum, k_enumT, s_asg, k_asg, s_own, k_own2, k_slotL, k_slotD, k_slotI, k_slotV, s_par, k_par, k_par2, s_par3, k_par3a, k_par3b, k_par3c, s_frz, s_app, k_app, k_app2, s_ife, k_ifeT, k_ifeF, s_whl, k_w, k_wT, k_wF, k_wN, k_wR, s_ret, k_ret, s_exp, k_exp, s_setC, k_setC, k_cup0, k_cup1, s_ap, k_ap, k_ap2, k_ap3, s_rc, k_rc, s_tryR, k_tryR, ss_nil, ss_cons, k_ssN, k_ssR, finR_rt, finR_nx, pureR_some, varv_0, varv_s, borv_0, borv_0o, borv_s, truth, startP, List.map_cons, List.map_nil, List.replicate_succ, List.replicate_zero, List.cons_append, List.nil_append, Nat.reduceSub, Nat.reduceAdd, bindT, bindTs, optS_some, List.set_cons_succ, List.set_cons_zero, wipeP, mkTup_0, mkTup_1, mkTup_2, mkTup_3, mkTup_4, mkTup_5, mkTup_6, mkTup_7, mkTup_8, mkLst_0, mkLst_1, mkLst_2, mkLst_3, mkLst_4, mkLst_5, mkLst_6, mkLst_7, mkLst_8, mkLst_9, mkLst_10, mkLst_11, mkLst_12, mkLst_13, mkLst_14, mkLst_15, mkLst_16, binop, cmpop, blV, Option.map_some, isTy, bltop, Bool.not_true, Bool.not_false, item_0, item_1, item_2, item_3, item_c0, item_c1, Option.bind_some, List.getElem?_cons_zero, List.getElem?_cons_succ, if_true, if_false, Bool.false_eq_true, and_self, dat_int, dat_bl, dat_non, peq_int, peq_bl, peq_nonnon, Int.cast_ofNat_Int, Int.reduceEq, Bool.and_self, List.length_cons, List.length_nil, Int.reduceLT, Int.reduceLE, Int.reduceAdd, Int.reduceSub, Nat.reduceLT, Nat.reduceLeDiff, decide_true, decide_false, Bool.or_true, Bool.true_or, true_and, and_true, b__law_cup, e1, e2, hy, pow18, h, smallI_251, rc2]
  · refine ⟨[.int 0, .int ((y * 251 + 2111) % 2077503301 + 137)], call_ok rfl rfl ?_, _, _, rfl⟩
    simp -implicitDefEqProofs only [e_con, e_var, e_bor, e_bin, k_bin, k_bin2, e_cmp, k_cmp, k_cmp2, e_neg, k_neg, e_nt, k_nt, k_truth, k_optB, e_and, k_and, k_andT, k_andF, e_or, k_or, k_orT, k_orF, e_ite, k_iteT, k_iteF, e_chain, k_ch, k_ch2, k_ch3T, k_ch3F, e_tup, k_tup, e_lst, k_lst, e_ix, k_ix, k_ix2, e_sl, k_sl, k_sl2, k_sl3, e_call, k_call, e_blt, k_blt, e_mth, k_mth, k_mth2, e_isin, k_is, e_pick, k_pick, k_pick2, e_dcat, k_dc, k_dc1, k_dc2, e_dadd, k_da, k_da1, k_da2, k_da3, es_nil, es_cons, k_es, k_es2, o_none, o_some, k_o, c_none, c_some, i_seq, k_seqT, k_seqL, k_seqD, i_r1, k_r1, i_r2, k_r2, k_r3, i_zip, k_zip, k_zipT, k_zipL, k_zipLT, i_enum, k_enum, k_enumT, s_asg, k_asg, s_own, k_own2, k_slotL, k_slotD, k_slotI, k_slotV, s_par, k_par, k_par2, s_par3, k_par3a, k_par3b, k_par3c, s_frz, s_app, k_app, k_app2, s_ife, k_ifeT, k_ifeF, s_whl, k_w, k_wT, k_wF, k_wN, k_wR, s_ret, k_ret, s_exp, k_exp, s_setC, k_setC, k_cup0, k_cup1, s_ap, k_ap, k_ap2, k_ap3, s_rc, k_rc, s_tryR, k_tryR, ss_nil, ss_cons, k_ssN, k_ssR, finR_rt, finR_nx, pureR_some, varv_0, varv_s, borv_0, borv_0o, borv_s, truth, startP, List.map_cons, List.map_nil, List.replicate_succ, List.replicate_zero, List.cons_append, List.nil_append, Nat.reduceSub, Nat.reduceAdd, bindT, bindTs, optS_some, List.set_cons_succ, List.set_cons_zero, wipeP, mkTup_0, mkTup_1, mkTup_2, mkTup_3, mkTup_4, mkTup_5, mkTup_6, mkTup_7, mkTup_8, mkLst_0, mkLst_1, mkLst_2, mkLst_3, mkLst_4, mkLst_5, mkLst_6, mkLst_7, mkLst_8, mkLst_9, mkLst_10, mkLst_11, mkLst_12, mkLst_13, mkLst_14, mkLst_15, mkLst_16, binop, cmpop, blV, Option.map_some, isTy, bltop, Bool.not_true, Bool.not_false, item_0, item_1, item_2, item_3, item_c0, item_c1, Option.bind_some, List.getElem?_cons_zero, List.getElem?_cons_succ, if_true, if_false, Bool.false_eq_true, and_self, dat_int, dat_bl, dat_non, peq_int, peq_bl, peq_nonnon, Int.cast_ofNat_Int, Int.reduceEq, Bool.and_self, List.length_cons, List.length_nil, Int.reduceLT, Int.reduceLE, Int.reduceAdd, Int.reduceSub, Nat.reduceLT, Nat.reduceLeDiff, decide_true, decide_false, Bool.or_true, Bool.true_or, true_and, and_true, b__law_cup, e1, e2, hy, pow18, h, smallI_251, rc2]
end
end K44


set_option Elab.async false
set_option linter.all false
set_option maxRecDepth 100000
set_option maxHeartbeats 2000000
/-! K44S: the law. -/
namespace K44
open PySem PP
theorem ss_app {C : Nat → List PV → List PV → R PV} : ∀ {a b : List (PP.Sm Nat)} {env : PP.Env} {c : List PV}, execSs C (a ++ b) env c = (execSs C a env c).bind fun env c => execSs C b env c
  | [], b, env, c => rfl
  | s :: a, b, env, c => by
    rw [List.cons_append, execSs, execSs]
    cases execS C s env c with
    | nx env c => exact ss_app
    | rt v c => rfl
    | exc _ _ _ _ => rfl
    | stuck => rfl
abbrev env0 (ns : List Int) : PP.Env := [.val (.scr ns), .val .cup, .no, .no, .no, .no, .no]
abbrev sP : PP.Slot := .val (.tup [.int 4, .tup [.tup [.int 0, .int 2], .tup [.int 1, .int 3]]])
abbrev sS : PP.Slot := .val (.tup [.tup [.tup [.str "tie", .int 0, .int 1, .str "turn"]], .tup [.tup [.str "takes", .int 0, .int 1, .tup [.int 0, .int 1, .int 0, .int 1]]]])
abbrev sT : PP.Slot := .val (.tup [.tup [.tup [.str "pairs", .int 0, .tup [.int 1, .int 1, .int 1, .int 0, .int 0, .int 0]]]])
abbrev e5 (ns : List Int) (s5 s6 : PP.Slot) : PP.Env := [.val (.scr ns), .val .cup, sP, sS, sT, s5, s6]
abbrev oL (xs : List PV) : PP.Slot := .own (.lst xs)
theorem m1 (ns : List Int) (c : List PV) : execSs (callK P 59) ((b_law.drop 1).take 2) (env0 ns) c = .nx (e5 ns (.val (.int (-1))) .no) c := by kernel_rfl
theorem m2 (ns : List Int) (c : List PV) : execSs (callK P 59) ((b_law.drop 3).take 6) (e5 ns (.val (.int (-1))) .no) c = .nx (e5 ns (.val (.int (-1))) (oL [.str "named", .str "named", .str "named", .str "named", .str "named"])) c := by kernel_rfl
theorem m3 (ns : List Int) (c : List PV) (s5 s6 : PP.Slot) : execSs (callK P 59) ((b_law.drop 9).take 1) (e5 ns s5 s6) c = .nx (e5 ns (.val (.tup [.tup [], .str ""])) s6) c := by kernel_rfl
theorem m4 (ns : List Int) (c : List PV) (s5 s6 : PP.Slot) : execSs (callK P 59) ((b_law.drop 10).take 1) (e5 ns s5 s6) c = .nx (e5 ns (.val (.tup [.int 4, .tup [.tup [.int 0, .int 4]]])) (oL [.str "company", .str "company", .str "company", .str "goal", .str "goal"])) c := by kernel_rfl
theorem m5 (ns : List Int) (c : List PV) (s5 s6 : PP.Slot) : execSs (callK P 59) ((b_law.drop 11).take 3) (e5 ns s5 s6) c = .nx (e5 ns s5 (oL [.str "goal", .str "goal"])) c := by kernel_rfl
theorem m6 (ns : List Int) (c : List PV) (s5 s6 : PP.Slot) : execSs (callK P 59) ((b_law.drop 14).take 1) (e5 ns s5 s6) c = .nx (e5 ns (.val (.str "1")) s6) c := by kernel_rfl
theorem m7 (ns : List Int) (c : List PV) (s5 s6 : PP.Slot) : execSs (callK P 59) ((b_law.drop 15).take 1) (e5 ns s5 s6) c = .nx (e5 ns (.val (.str "1")) s6) c := by kernel_rfl
theorem m8 (ns : List Int) (c : List PV) (s5 s6 : PP.Slot) : execSs (callK P 59) ((b_law.drop 16).take 1) (e5 ns s5 s6) c = .nx (e5 ns (.val (.tup [.int 0, .int 1])) (oL [.str "wish", .str "wish"])) c := by kernel_rfl
theorem m9 (ns : List Int) (c : List PV) (s5 s6 : PP.Slot) : execSs (callK P 59) ((b_law.drop 17).take 3) (e5 ns s5 s6) c = .nx (e5 ns s5 (oL [.str "many5", .str "number"])) c := by kernel_rfl
theorem w1 (c : List PV) : callK P 59 n_way_but_names [.int 2, .tup [.int 7, .tup []], .tup [.int 7, .tup []], .tup [.tup []]] c = .ok (.tup []) c := by kernel_rfl
theorem w2 (c : List PV) : callK P 59 n_companies_led [.int 3, .tup [.int 9, .tup []], .tup [.tup []]] c = .ok (.tup [.tup [.int 9, .tup []]]) c := by kernel_rfl
theorem last (ns : List Int) (s5 s6 : PP.Slot) (c : List PV) (hc : Cup c) : ∃ c', execSs (callK P 59) (b_law.drop 20) (e5 ns s5 s6) c = .rt (.bl true) c' := by
  obtain ⟨r, c1, e1, hc1, r1, r2⟩ := f__law_roll 58 5 c hc (by omega) (by omega)
  have a1 := w1 c
  have a2 := w2 c
  have p1 : peq (.tup []) (.tup []) = true := rfl
  have p2 : peq (.tup [.tup [.int 9, .tup []]]) (.tup [.tup [.int 9, .tup []]]) = true := rfl
  have d1 : dat (.tup []) = true := rfl
  have d2 : dat (.tup [.tup [.int 9, .tup []]]) = true := rfl
  have hb : b_law.drop 20 = [.ret (.and (.cmp .eq (.call n_way_but_names [.con (.int 2), .tup [.con (.int 7), .tup []], .tup [.con (.int 7), .tup []], .tup [.tup []]]) (.tup [])) (.and (.cmp .eq (.call n_companies_led [.con (.int 3), .tup [.con (.int 9), .tup []], .tup [.tup []]]) (.tup [.tup [.con (.int 9), .tup []]])) (.cmp .lt (.call n__law_roll [.var 1, .con (.int 5)]) (.con (.int 5)))))] := rfl
  refine ⟨c1, ?_⟩
  rw [hb]
  have hr : decide (r < 5) = true := decide_eq_true r2
  simp -implicitDefEqProofs only [e_con, e_var, e_bor, e_bin, k_bin, k_bin2, e_cmp, k_cmp, k_cmp2, e_neg, k_neg, e_nt, k_nt, k_truth, k_optB, e_and, k_and, k_andT, k_andF, e_or, k_or, k_orT, k_orF, e_ite, k_iteT, k_iteF, e_chain, k_ch, k_ch2, k_ch3T, k_ch3F, e_tup, k_tup, e_lst, k_lst, e_ix, k_ix, k_ix2, e_sl, k_sl, k_sl2, k_sl3, e_call, k_call, e_blt, k_blt, e_mth, k_mth, k_mth2, e_isin, k_is, e_pick, k_pick, k_pick2, e_dcat, k_dc, k_dc1, k_dc2, e_dadd, k_da, k_da1, k_da2, k_da3, es_nil, es_cons, k_es, k_es2, o_none, o_some, k_o, c_none, c_some, i_seq, k_seqT, k_seqL, k_seqD, i_r1, k_r1, i_r2, k_r2, k_r3, i_zip, k_zip, k_zipT, k_zipL, k_zipLT, i_enum, k_enum, k_enumT, s_asg, k_asg, s_own, k_own2, k_slotL, k_slotD, k_slotI, k_slotV, s_par, k_par, k_par2, s_par3, k_par3a, k_par3b, k_par3c, s_frz, s_app, k_app, k_app2, s_ife, k_ifeT, k_ifeF, s_whl, k_w, k_wT, k_wF, k_wN, k_wR, s_ret, k_ret, s_exp, k_exp, s_setC, k_setC, k_cup0, k_cup1, s_ap, k_ap, k_ap2, k_ap3, s_rc, k_rc, s_tryR, k_tryR, ss_nil, ss_cons, k_ssN, k_ssR, finR_rt, finR_nx, pureR_some, varv_0, varv_s, borv_0, borv_0o, borv_s, truth, startP, List.map_cons, List.map_nil, List.replicate_succ, List.replicate_zero, List.cons_append, List.nil_append, Nat.reduceSub, Nat.reduceAdd, bindT, bindTs, optS_some, List.set_cons_succ, List.set_cons_zero, wipeP, mkTup_0, mkTup_1, mkTup_2, mkTup_3, mkTup_4, mkTup_5, mkTup_6, mkTup_7, mkTup_8, mkLst_0, mkLst_1, mkLst_2, mkLst_3, mkLst_4, mkLst_5, mkLst_6, mkLst_7, mkLst_8, mkLst_9, mkLst_10, mkLst_11, mkLst_12, mkLst_13, mkLst_14, mkLst_15, mkLst_16, cmpop, blV, Option.map_some, isTy, Bool.not_true, Bool.not_false, item_0, item_1, item_2, item_3, item_c0, item_c1, Option.bind_some, List.getElem?_cons_zero, List.getElem?_cons_succ, if_true, if_false, Bool.false_eq_true, and_self, dat_int, dat_bl, dat_non, peq_int, peq_bl, peq_nonnon, Int.cast_ofNat_Int, Int.reduceEq, Bool.and_self, List.length_cons, List.length_nil, Int.reduceLT, Int.reduceLE, Int.reduceAdd, Int.reduceSub, Nat.reduceLT, Nat.reduceLeDiff, decide_true, decide_false, Bool.or_true, Bool.true_or, true_and, and_true, a1, a2, p1, p2, d1, d2, e1, hr, cmpop, blV, Option.map_some]
theorem pure_law (ns : List Int) (h : ns.length ≤ 63) : ∃ c', callK P 60 n_law [.scr ns] [] = .ok (.bl true) c' := by
  obtain ⟨c0, e0, hc0⟩ := f__law_cup 58 ns h
  have q0 : execSs (callK P 59) (b_law.take 1) [.val (.scr ns), .no, .no, .no, .no, .no, .no] [] = .nx (env0 ns) c0 := by
    have hb : b_law.take 1 = [.asg (.name 1) (.call n__law_cup [.var 0])] := rfl
    rw [hb]
    simp -implicitDefEqProofs only [e_con, e_var, e_bor, e_bin, k_bin, k_bin2, e_cmp, k_cmp, k_cmp2, e_neg, k_neg, e_nt, k_nt, k_truth, k_optB, e_and, k_and, k_andT, k_andF, e_or, k_or, k_orT, k_orF, e_ite, k_iteT, k_iteF, e_chain, k_ch, k_ch2, k_ch3T, k_ch3F, e_tup, k_tup, e_lst, k_lst, e_ix, k_ix, k_ix2, e_sl, k_sl, k_sl2, k_sl3, e_call, k_call, e_blt, k_blt, e_mth, k_mth, k_mth2, e_isin, k_is, e_pick, k_pick, k_pick2, e_dcat, k_dc, k_dc1, k_dc2, e_dadd, k_da, k_da1, k_da2, k_da3, es_nil, es_cons, k_es, k_es2, o_none, o_some, k_o, c_none, c_some, i_seq, k_seqT, k_seqL, k_seqD, i_r1, k_r1, i_r2, k_r2, k_r3, i_zip, k_zip, k_zipT, k_zipL, k_zipLT, i_enum, k_enum, k_enumT, s_asg, k_asg, s_own, k_own2, k_slotL, k_slotD, k_slotI, k_slotV, s_par, k_par, k_par2, s_par3, k_par3a, k_par3b, k_par3c, s_frz, s_app, k_app, k_app2, s_ife, k_ifeT, k_ifeF, s_whl, k_w, k_wT, k_wF, k_wN, k_wR, s_ret, k_ret, s_exp, k_exp, s_setC, k_setC, k_cup0, k_cup1, s_ap, k_ap, k_ap2, k_ap3, s_rc, k_rc, s_tryR, k_tryR, ss_nil, ss_cons, k_ssN, k_ssR, finR_rt, finR_nx, pureR_some, varv_0, varv_s, borv_0, borv_0o, borv_s, truth, startP, List.map_cons, List.map_nil, List.replicate_succ, List.replicate_zero, List.cons_append, List.nil_append, Nat.reduceSub, Nat.reduceAdd, bindT, bindTs, optS_some, List.set_cons_succ, List.set_cons_zero, wipeP, mkTup_0, mkTup_1, mkTup_2, mkTup_3, mkTup_4, mkTup_5, mkTup_6, mkTup_7, mkTup_8, mkLst_0, mkLst_1, mkLst_2, mkLst_3, mkLst_4, mkLst_5, mkLst_6, mkLst_7, mkLst_8, mkLst_9, mkLst_10, mkLst_11, mkLst_12, mkLst_13, mkLst_14, mkLst_15, mkLst_16, cmpop, blV, Option.map_some, isTy, Bool.not_true, Bool.not_false, item_0, item_1, item_2, item_3, item_c0, item_c1, Option.bind_some, List.getElem?_cons_zero, List.getElem?_cons_succ, if_true, if_false, Bool.false_eq_true, and_self, dat_int, dat_bl, dat_non, peq_int, peq_bl, peq_nonnon, Int.cast_ofNat_Int, Int.reduceEq, Bool.and_self, List.length_cons, List.length_nil, Int.reduceLT, Int.reduceLE, Int.reduceAdd, Int.reduceSub, Nat.reduceLT, Nat.reduceLeDiff, decide_true, decide_false, Bool.or_true, Bool.true_or, true_and, and_true, e0]
  obtain ⟨c1, e1⟩ := last ns (.val (.tup [.int 0, .int 1])) (oL [.str "many5", .str "number"]) c0 hc0
  refine ⟨c1, call_ok rfl rfl ?_⟩
  have split : b_law = b_law.take 1 ++ ((b_law.drop 1).take 2 ++ ((b_law.drop 3).take 6 ++ ((b_law.drop 9).take 1 ++ ((b_law.drop 10).take 1 ++ ((b_law.drop 11).take 3 ++ ((b_law.drop 14).take 1 ++ ((b_law.drop 15).take 1 ++ ((b_law.drop 16).take 1 ++ ((b_law.drop 17).take 3 ++ b_law.drop 20))))))))) := rfl
  rw [split, ss_app]
  show finR ((execSs (callK P 59) (b_law.take 1) [.val (.scr ns), .no, .no, .no, .no, .no, .no] []).bind _) = _
  rw [q0, SR.bind_nx, ss_app, m1, SR.bind_nx, ss_app, m2, SR.bind_nx, ss_app, m3, SR.bind_nx, ss_app, m4, SR.bind_nx, ss_app, m5, SR.bind_nx, ss_app, m6, SR.bind_nx, ss_app, m7, SR.bind_nx, ss_app, m8, SR.bind_nx, ss_app, m9, SR.bind_nx, e1]
  rfl
end K44

set_option Elab.async false
set_option linter.all false
set_option maxRecDepth 100000
set_option maxHeartbeats 0
namespace K44
open PySem PySem.Spec PyProof.Rows L2 PP
def blt : Str → Bool := bltOf frees
def con : Str → Option PV := conOf nums txts tups
theorem ck1 : (List.range T.length).all (fun i => match T[i]? with
  | some f => feB P T blt con er i f
  | none => true) = true := by kernel_rfl
theorem bd : ∀ (i : Nat) (f : FE), T[i]? = some f → f.binds
  | 0, _, rfl => fun _ _ _ _ _ _ us hl => match us, hl with
    | [_, _, _], _ => rfl
  | 1, _, rfl => fun _ _ _ _ _ _ us hl => match us, hl with
    | [_, _, _], _ => rfl
  | 2, _, rfl => fun _ _ _ _ _ _ us hl => match us, hl with
    | [_, _, _], _ => rfl
  | 3, _, rfl => fun _ _ _ _ _ _ us hl => match us, hl with
    | [_], _ => rfl
  | 4, _, rfl => fun _ _ _ _ _ _ us hl => match us, hl with
    | [_, _], _ => rfl
  | 5, _, rfl => fun _ _ _ _ _ _ us hl => match us, hl with
    | [_, _], _ => rfl
  | 6, _, rfl => fun _ _ _ _ _ _ us hl => match us, hl with
    | [_, _], _ => rfl
  | 7, _, rfl => fun _ _ _ _ _ _ us hl => match us, hl with
    | [_, _], _ => rfl
  | 8, _, rfl => fun _ _ _ _ _ _ us hl => match us, hl with
    | [_], _ => rfl
  | 9, _, rfl => fun _ _ _ _ _ _ us hl => match us, hl with
    | [_, _, _], _ => rfl
  | 10, _, rfl => fun _ _ _ _ _ _ us hl => match us, hl with
    | [_], _ => rfl
  | 11, _, rfl => fun _ _ _ _ _ _ us hl => match us, hl with
    | [_, _], _ => rfl
  | 12, _, rfl => fun _ _ _ _ _ _ us hl => match us, hl with
    | [_, _, _, _], _ => rfl
  | 13, _, rfl => fun _ _ _ _ _ _ us hl => match us, hl with
    | [_, _], _ => rfl
  | 14, _, rfl => fun _ _ _ _ _ _ us hl => match us, hl with
    | [_, _], _ => rfl
  | 15, _, rfl => fun _ _ _ _ _ _ us hl => match us, hl with
    | [_, _, _], _ => rfl
  | 16, _, rfl => fun _ _ _ _ _ _ us hl => match us, hl with
    | [_, _], _ => rfl
  | 17, _, rfl => fun _ _ _ _ _ _ us hl => match us, hl with
    | [_, _], _ => rfl
  | 18, _, rfl => fun _ _ _ _ _ _ us hl => match us, hl with
    | [_, _], _ => rfl
  | 19, _, rfl => fun _ _ _ _ _ _ us hl => match us, hl with
    | [_, _], _ => rfl
  | 20, _, rfl => fun _ _ _ _ _ _ us hl => match us, hl with
    | [_, _], _ => rfl
  | 21, _, rfl => fun _ _ _ _ _ _ us hl => match us, hl with
    | [_, _], _ => rfl
  | 22, _, rfl => fun _ _ _ _ _ _ us hl => match us, hl with
    | [_, _], _ => rfl
  | 23, _, rfl => fun _ _ _ _ _ _ us hl => match us, hl with
    | [_, _, _, _], _ => rfl
  | 24, _, rfl => fun _ _ _ _ _ _ us hl => match us, hl with
    | [_], _ => rfl
  | 25, _, rfl => fun _ _ _ _ _ _ us hl => match us, hl with
    | [_, _], _ => rfl
  | 26, _, rfl => fun _ _ _ _ _ _ us hl => match us, hl with
    | [_, _], _ => rfl
  | 27, _, rfl => fun _ _ _ _ _ _ us hl => match us, hl with
    | [_, _], _ => rfl
  | 28, _, rfl => fun _ _ _ _ _ _ us hl => match us, hl with
    | [_, _, _], _ => rfl
  | 29, _, rfl => fun _ _ _ _ _ _ us hl => match us, hl with
    | [_, _, _], _ => rfl
  | 30, _, rfl => fun _ _ _ _ _ _ us hl => match us, hl with
    | [_, _, _, _, _], _ => rfl
  | 31, _, rfl => fun _ _ _ _ _ _ us hl => match us, hl with
    | [_, _, _, _], _ => rfl
  | 32, _, rfl => fun _ _ _ _ _ _ us hl => match us, hl with
    | [_], _ => rfl
  | 33, _, rfl => fun _ _ _ _ _ _ us hl => match us, hl with
    | [_, _], _ => rfl
  | 34, _, rfl => fun _ _ _ _ _ _ us hl => match us, hl with
    | [_, _], _ => rfl
  | 35, _, rfl => fun _ _ _ _ _ _ us hl => match us, hl with
    | [_, _], _ => rfl
  | 36, _, rfl => fun _ _ _ _ _ _ us hl => match us, hl with
    | [_, _, _], _ => rfl
  | 37, _, rfl => fun _ _ _ _ _ _ us hl => match us, hl with
    | [_, _], _ => rfl
  | 38, _, rfl => fun _ _ _ _ _ _ us hl => match us, hl with
    | [_, _, _], _ => rfl
  | 39, _, rfl => fun _ _ _ _ _ _ us hl => match us, hl with
    | [_], _ => rfl
  | 40, _, rfl => fun _ _ _ _ _ _ us hl => match us, hl with
    | [_, _], _ => rfl
  | 41, _, rfl => fun _ _ _ _ _ _ us hl => match us, hl with
    | [_, _], _ => rfl
  | 42, _, rfl => fun _ _ _ _ _ _ us hl => match us, hl with
    | [_], _ => rfl
  | 43, _, rfl => fun _ _ _ _ _ _ us hl => match us, hl with
    | [_, _], _ => rfl
  | 44, _, rfl => fun _ _ _ _ _ _ us hl => match us, hl with
    | [_, _, _], _ => rfl
  | 45, _, rfl => fun _ _ _ _ _ _ us hl => match us, hl with
    | [_, _], _ => rfl
  | 46, _, rfl => fun _ _ _ _ _ _ us hl => match us, hl with
    | [_, _], _ => rfl
  | 47, _, rfl => fun _ _ _ _ _ _ us hl => match us, hl with
    | [_, _, _], _ => rfl
  | 48, _, rfl => fun _ _ _ _ _ _ us hl => match us, hl with
    | [_, _, _], _ => rfl
  | 49, _, rfl => fun _ _ _ _ _ _ us hl => match us, hl with
    | [_], _ => rfl
  | 50, _, rfl => fun _ _ _ _ _ _ us hl => match us, hl with
    | [_, _], _ => rfl
  | 51, _, rfl => fun _ _ _ _ _ _ us hl => match us, hl with
    | [], _ => rfl
  | 52, _, rfl => fun _ _ _ _ _ _ us hl => match us, hl with
    | [_], _ => rfl
  | 53, _, rfl => fun _ _ _ _ _ _ us hl => match us, hl with
    | [_], _ => rfl
  | 54, _, rfl => fun _ _ _ _ _ _ us hl => match us, hl with
    | [_, _], _ => rfl
  | 55, _, rfl => fun _ _ _ _ _ _ us hl => match us, hl with
    | [_], _ => rfl
  | i + 56, f, h => by simp [T] at h
theorem tab : TabOk P T blt con er := ⟨fun i f hf => by
  have h := List.all_eq_true.mp ck1 i (List.mem_range.mpr (List.getElem?_eq_some_iff.mp hf).1)
  rw [hf] at h
  exact h, bd, by kernel_rfl⟩
theorem ini_c : (inis.all iniC) = true := by kernel_rfl
theorem ini_b : ∀ d ∈ inis, d.binds := fun d hd => by
  rw [List.mem_singleton.mp hd]
  exact fun _ _ _ _ _ _ _ us hl => match us, hl with
    | [_, _], _ => rfl
end K44

set_option Elab.async false
set_option linter.all false
set_option maxRecDepth 100000
set_option maxHeartbeats 0
namespace K44
open PySem PySem.Spec PyProof.Rows L2 PP
theorem pure_all (ns : List Int) (hl : ns.length ≤ 63) (_ : ∀ z ∈ ns, PySem.Builtin.Int.intBits z ≤ 1048576) : ∃ c', callK P 60 n_law [.scr ns] [] = .ok (.bl true) c' := pure_law ns hl
theorem law_at {Pg : Program} {w : World} {K : PySem.W.Frag} {base : Heap} {mg : Str → Option Value} {f : Addr} (X : K.In base) (G : base.Ns mainGlobals mg) (hfa : mg ("law" : Str) = some (.ref f)) {h : Heap} (c : SaysQ fa fn tsK exK inis w h K) (hb : ∀ p ∈ tsA K, LamX.TabB base mg p.1 p.2.1) (hfile : ((Pg.main.file : Str) == er.file) = true) (htop : (Pg.main.scope.names.lookup ("super" : Str)).isSome = false) (fd : FuncData) (F : FunD K (T.getD n_law default).q (T.getD n_law default).q (T.getD n_law default).params (T.getD n_law default).body (T.getD n_law default).scope [] [] f fd) :
    FnG er.grd Pg w K mg base (L2.CX Pg w) (3 * 60) f fd ["_law_script"] (spK ⟨Pg, w, K, mg⟩ mg (callK P 60 n_law) (P n_law).np) := by
  have hm : TopOk T blt con er Pg w K mg base := top_ok X G c.p.t.d c.p.ex (by decide +kernel) (by decide +kernel) (by decide +kernel) hb (congrArg Prod.snd c.p.t) (oex_top X G c.p.t.d c.p.ex (by decide +kernel) c.ini ini_c ini_b (by decide +kernel) (by decide +kernel) hfile htop)
  obtain ⟨fd', F', hg⟩ := hm.fn n_law _ rfl
  have e := hfa.symm.trans hg
  cases e
  exact fn_at tab hm 59 n_law _ rfl F
theorem law_in {w : World} {h : Heap} {mg : Str → Option Value} {f : Addr} (G : h.Ns mainGlobals mg) (hfa : mg ("law" : Str) = some (.ref f)) {K : PySem.W.Frag} (X : K.In h) (c : SaysQ fa fn tsK exK inis w h K)
    (hp : ∀ ns : List Int, ns.length ≤ 63 → (∀ z ∈ ns, Builtin.Int.intBits z ≤ 1048576) → ∃ c', callK P 60 n_law [.scr ns] [] = .ok (.bl true) c') :
    LawG er.grd PySem.Challenge.rw_twobesides_k44_whole_errors_of_leading w K (L2.CX (PySem.Challenge.rw_twobesides_k44_whole_errors_of_leading).prog w) (3 * 60) 63 "_law_script" mg f h := by
  obtain ⟨fd, F, e⟩ : ∃ fd, FunD K (T.getD n_law default).q (T.getD n_law default).q (T.getD n_law default).params (T.getD n_law default).body (T.getD n_law default).scope [] [] f fd ∧ True := by
    obtain ⟨fd, F⟩ := c.p.t.d.def_ n_law (d := (T.getD n_law default).d) rfl
    have hg := He.glo_ok X G (c.p.t.d.fact n_law (f := .glo "law") rfl)
    have e := hfa.symm.trans hg
    cases e
    exact ⟨fd, F, trivial⟩
  have b := FunD.bindsA (ps := ["_law_script"]) F fun _ _ _ _ _ _ us hl => match us, hl with | [_], _ => rfl
  have memT : ∀ p ∈ tsA K, (p.1, p.2.1) ∈ (tsA K).map fun p => (p.1, p.2.1) := fun p hp => List.mem_map.mpr ⟨p, hp, rfl⟩
  refine ⟨fd, (tsA K).map fun p => (p.1, p.2.1), spK ⟨(PySem.Challenge.rw_twobesides_k44_whole_errors_of_leading).prog, w, K, mg⟩ mg (callK P 60 n_law) (P n_law).np, ⟨fun q hq => ?_, fun q hq => ?_, fun q hq => ?_⟩, fun s v => b s [v] rfl, fun H a ns hl hbits hT hS => ?_, fun base X' G' hT => ?_⟩
  · obtain ⟨p, hp, rfl⟩ := List.mem_map.mp hq
    exact c.p.empty p hp
  · obtain ⟨p, hp, rfl⟩ := List.mem_map.mp hq
    exact c.p.out p hp
  · obtain ⟨p, hp, rfl⟩ := List.mem_map.mp hq
    exact tsA_hd X hp
  · obtain ⟨c', hc'⟩ := hp ns hl hbits
    exact PP.sp_law rfl hc' H a hS fun p hp => hT _ (memT p hp)
  · exact law_at X' G' hfa c (fun p hp => hT _ (memT p hp)) (by kernel_rfl) (by kernel_rfl) fd F
end K44
open PySem PySem.W PySem.Calls PyProof.Rows
theorem PySem.Challenge.cw_twobesides_k44_whole_errors_of_leading_holds : PySem.Challenge.rw_twobesides_k44_whole_errors_of_leading.Holds := by
  w_on; o_law
  refine HandSHeadRun.head_any (r := OpenLaw.row PySem.Challenge.rw_twobesides_k44_whole_errors_of_leading) (q := view (OpenLaw.row PySem.Challenge.rw_twobesides_k44_whole_errors_of_leading).prog [84]) (H := K44.hk) (ob := K44.ob) (M := 6000) (loose := K44.loose) (d := HandSHeadRun.topDef (OpenLaw.row PySem.Challenge.rw_twobesides_k44_whole_errors_of_leading).prog 84) (kwd := []) K44.ob_eq
    (by kernel_rfl) (fun s => by kernel_rfl) K44.run (by kernel_rfl) (by kernel_rfl) (by kernel_rfl) (by rfl) (by first | assumption | decide +kernel) (by decide +kernel) ⟨rfl, rfl, rfl, rfl, rfl, by decide +kernel⟩ ?hw ?hc
  case hw => w_witness2
  case hc =>
    refine PP.walk_g (gd := K44.er.grd) (l := PySem.Challenge.rw_twobesides_k44_whole_errors_of_leading) (n := 63) (k := 3 * 60) (x := "_law_script") (Z := fun w => L2.CX (PySem.Challenge.rw_twobesides_k44_whole_errors_of_leading).prog w) rfl (by decide) (by kernel_rfl) ⟨rfl, by decide, by decide⟩ ?F (fun _ _ _ _ _ ⟨_, _, _, _, _, _, _, _, _, _, _, _, z⟩ => z)
    intro w mg fa h Y G hmg0
    obtain ⟨K, KX, c⟩ := Y
    have hmg : mg ("law" : PySem.Str) = some (.ref fa) := by
      have e : (HandSHeadRun.topDef (OpenLaw.row PySem.Challenge.rw_twobesides_k44_whole_errors_of_leading).prog 84).name = ("law" : PySem.Str) := by kernel_rfl
      rw [← e]
      exact hmg0
    exact ⟨K, KX, K44.law_in G hmg KX c K44.pure_all⟩
